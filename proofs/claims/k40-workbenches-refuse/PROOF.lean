import PyProof.Rows.All
import HandS.TupMul
import HandS.TupAny
import HandS.Conv
import Wide.All
import OpenK.AllK
import Wide.FinOn
import HandS.ForMost
import HandS.ForExc
import HandS.AnyAll
import HandS.Wide
import HandS.IsInst
import HandS.Deep
import HandS.Style
import HandS.Zip
import HandS.Rev
import HandS.TupLe
import PyProof.Rows.SeqMore
import KE.KDictKeyed
import HandS.HeadHook2
import HandS.HeadWalk
import HandS.HeadHook4
import HandS.GenOver
import PyProof.GenQ
import HandS.Iter
import KE.GoesEnum
import KE.GoesMore
import KE.GoesZip
import HandS.Strs
import PyProof.SumWalkG
import HandS.TupSets
import KE.KeyNested
import KE.SortData
import HandS.SortOrd
import HandS.Set
import HandS.SetBool
import HandS.ExcOwn
import HandS.ExcIs
import PyProof.ExcBaseAll.ValueError
import HandS.Base
import HandS.ExcInit
import HandS.ExcField
import HandS.ExcSuper
import KE.KExcSuper
import KE.KExcIs
import HandS.ExcValue
import PySem.Challenge.RW_upwall_k40_workbenches_refuse
import HandS.Head2
set_option Elab.async false
set_option linter.all false
set_option maxRecDepth 100000
set_option maxHeartbeats 4000000
/-! I0: () * k, x * 1. -/
namespace U
open PySem PySem.Spec PyProof.Rows L2
theorem tuple_mulE (l : Addr) (items : Array Value) (n : Nat) (x : Int) (u : Tok) (c0 : (decide (x < -(2 ^ 63)) || decide (x ≥ 2 ^ 63)) = false) (c1 : (items.isEmpty || x == 1) = true) (dd : Option Addr) (sl : Array (Option Value)) :
    Meets (Builtin.«tuple.__mul__» ⟨[.ref l, .int x u], []⟩) (fun _ R s => s.heap.get? l = some { cls := .type "tuple", dict := dd, data := .seq items n, slots := sl } ∧ R (.ok (.ret (Value.ref l))) s) :=
  .of_wp fun prog w A R s h => by
    obtain ⟨hp, g, d, tk, os⟩ := s
    obtain ⟨hl, h⟩ := h
    have f1 := AutoSeq1.idx_int
    wp_walk using wpAny_loadPart' hl
    repeat (first
      | (refine wpAny_ite_false (decide_eq_false (by rw [c0]; exact Bool.false_ne_true)) ?_; wp_walk using wpAny_loadPart' hl)
      | (refine wpAny_ite_true (decide_eq_true (by rw [c1])) ?_; wp_walk using wpAny_loadPart' hl))
    exact ⟨_, rfl, h⟩
def rRepE (K : PySem.W.Frag) : R2 := fun x y H Q => ∃ l k xs, x = .ref l ∧ y = .int k ∧ SqT K H l xs ∧ (xs = [] ∨ k = 1) ∧ 0 ≤ k ∧ k ≤ 1000 ∧ Q (.ref l) H
theorem op_repE {X : Cx} : OpR X (binaryOp .Mult) (rRepE X.K) := by
  intro pins s σ H x y v u Q I rx ry h
  obtain ⟨l, k, xs, rfl, rfl, hT, hne, h1, h2, q⟩ := h
  cases rx
  obtain ⟨t, rfl⟩ := ry
  obtain ⟨its, r, ⟨⟨cls, dd, data, sl⟩, ho, hc, n, hd⟩, hs⟩ := I.tuple hT
  simp only at hc hd
  subst hc hd
  have c0 : (decide (k < -(2 ^ 63)) || decide (k ≥ 2 ^ 63)) = false := by
    rw [decide_eq_false (by omega), decide_eq_false (by omega)] <;> rfl
  have c1 : (its.toArray.isEmpty || k == 1) = true := by
    rcases hne with rfl | rfl
    · cases r
      rfl
    · rw [Bool.or_eq_true]
      exact .inr rfl
  refine wpAny_binaryOp_repeat_ref (T := "tuple") (U := "int") (by decide) ⟨_, ho, rfl⟩ (fun s' => typeIs_int s' k t) noFill_tuple_mul F.fills_int_mul F.slot_int_rmul repeat_tuple F.slot_int_index.lookup
    (call_meets F.slot_int_rmul (typeIs_int s k t) F.entry_int_rmul (F.args_int_rmul_2 _ _) (int_rmul_tuple k t l its.toArray n dd sl)
      ⟨ho, rfl, ⟨_, ho, rfl⟩, call_meets F.slot_tuple_mul ⟨_, ho, rfl⟩ F.entry_tuple_mul (F.args_tuple_mul_2 _ _) (tuple_mulE l its.toArray n k t c0 c1 dd sl) ⟨ho, ?_⟩⟩)
  exact ⟨.ref l, _, I, rfl, q⟩
end U

set_option Elab.async false
set_option linter.all false
set_option maxRecDepth 100000
set_option maxHeartbeats 1000000
/-! I5: new tuples, laid with the object itself (its dict is none). -/
namespace U
open PySem PySem.Spec PyProof.Rows L2
/-- a new tuple -/
def NewT (H : Hp) (Q : VK) (xs : List V) : Prop := ∀ p o, H p = none → o.dict = none → Q (.ref p) (upd H p (.frz o (.tup xs)))
section
variable {X : Cx} {pins : List (Addr × Obj)} {σ : L2.St} {H : Hp} {s : Shared}
abbrev tupO (us : Array Value) : Obj := { cls := .type "tuple", data := .seq us }
theorem newT_at {Q : VK} {xs : List V} {us : List Value} {h' : Heap} {t' : Nat} (I : Inv X pins σ H { s with heap := h' }) (k : ∀ b u, h'.get? b = some u → h'.get? b = some u) (r : Vals xs us) (z : xs.length ≤ sizeLine) (q : NewT H Q xs) :
    EP X pins σ Q (.ref h'.objs.size) { s with heap := h'.push (tupO us.toArray), toks := t' } :=
  ⟨.ref h'.objs.size, upd H h'.objs.size (.frz (tupO us.toArray) (.tup xs)), I.laid (t' := t') (h' := h'.push (tupO us.toArray)) (fun b u e => Heap.get?_push_of_some _ e) (Nat.le_refl _) ⟨Heap.get?_push_size _ rfl, z, us, r, ⟨_, Heap.get?_push_size _ rfl, rfl, _, rfl⟩⟩, rfl, q _ _ (I.hok.fresh (Nat.le_refl _)) rfl⟩
theorem newT0 {Q : VK} {xs : List V} {us : List Value} (I : Inv X pins σ H s) (r : Vals xs us) (z : xs.length ≤ sizeLine) (q : NewT H Q xs) : EP X pins σ Q (.ref s.heap.objs.size) { s with heap := s.heap.push (tupO us.toArray) } :=
  newT_at (h' := s.heap) (t' := s.toks) I (fun _ _ e => e) r z q
end
section
variable {X : Cx}
def tTupF (t : TA) : TE := fun σ H Q => t σ H fun xs H1 => xs.length ≤ sizeLine ∧ NewT H1 Q xs
theorem pe_tupF {es : List Expr} {t : TA} {k : Nat} {pos : Pos} (h : PA X es t) : PE X (.Tuple es k pos) (tTupF t) := by
  refine ⟨fun pins s σ H Q I hq => ?_⟩
  exact wpAny_Tuple_spliced (thn (h.run pos pins s σ H _ I hq) fun us s1 ⟨xs, H1, I1, r, z, q⟩ => ⟨by rw [← r.length]; exact z, newT0 I1 r z q⟩)
def rCatF (K : PySem.W.Frag) : R2 := fun x y H Q => ∃ a b xs ys, x = .ref a ∧ y = .ref b ∧ SqT K H a xs ∧ SqT K H b ys ∧ xs.length + ys.length ≤ sizeLine ∧
  (xs = [] → Q (.ref b) H) ∧ (xs ≠ [] → ys = [] → Q (.ref a) H) ∧ (xs ≠ [] → ys ≠ [] → NewT H Q (xs ++ ys))
theorem op_catF : OpR X (binaryOp .Add) (rCatF X.K) := by
  intro pins s σ H x y v u Q I rx ry h
  obtain ⟨a, b, xs, ys, rfl, rfl, ha, hb, hz, q0, q1, q2⟩ := h
  by_cases hx : xs = []
  · exact op_catA pins s σ H _ _ v u Q I rx ry ⟨a, b, xs, ys, rfl, rfl, ha, hb, hz, q0, q1, fun z => absurd hx z⟩
  · cases rx
    cases ry
    obtain ⟨its, r1, p1, _⟩ := I.tuple ha
    obtain ⟨its2, r2, p2, _⟩ := I.tuple hb
    refine HT.cat_tup p1 p2 (fun z => hx (r1.nil_iff.mp z)) (fun z => ⟨.ref a, H, I, rfl, q1 hx (r2.nil_iff.mp z)⟩) (fun z => ?_) (by rw [← r1.length, ← r2.length]; exact hz)
    have e := newT0 I (r1.append r2) (by rw [List.length_append]; exact hz) (q2 hx fun w => z (r2.nil_iff.mpr w))
    simpa using e
section
variable {prog : Program} {w : World} {A : Around} {E : Value → Shared → Prop} {s : Shared}
end
def rSlF (K : PySem.W.Frag) : V → Option Int → Option Int → Hp → VK → Prop := fun x lo hi H Q => ∃ a xs, x = .ref a ∧ SqT K H a xs ∧
  (HT.sIx xs.length 0 lo = 0 ∧ HT.sIx xs.length xs.length hi = xs.length → Q (.ref a) H) ∧ (¬ (HT.sIx xs.length 0 lo = 0 ∧ HT.sIx xs.length xs.length hi = xs.length) → NewT H Q (cutV xs lo hi))
theorem sl_tupF : SlR X (rSlF X.K) := by
  intro pins s σ H x v vl vu lo hi sl Q I rx hs pl pu h
  obtain ⟨a, xs, rfl, hx, q1, q2⟩ := h
  by_cases hw : HT.sIx xs.length 0 lo = 0 ∧ HT.sIx xs.length xs.length hi = xs.length
  · exact sl_tupA pins s σ H _ v vl vu lo hi sl Q I rx hs pl pu ⟨a, xs, rfl, hx, q1, fun z => absurd hw z⟩
  · cases rx
    obtain ⟨its, r, ht, hz⟩ := I.tuple hx
    have hlen : its.toArray.size = xs.length := by rw [List.size_toArray]; exact r.length.symm
    refine ⟨"tuple", _, PyProof.Rows.slot_tuple_getitem.lookup, ht.typeIs, ?_⟩
    refine HT.getItem_tuple_cut ht hs pl pu (by rw [hlen]; exact hw) ?_ (by rw [hlen]; exact hz)
    rw [hlen]
    exact newT0 I ((r.drop (HT.sIx xs.length 0 lo)).take (HT.sIx xs.length xs.length hi - HT.sIx xs.length 0 lo)) (Nat.le_trans (cutV_length xs lo hi) hz) (q2 hw)
theorem call_tupleF : CallR X (.type "tuple") (fun xs H Q => ∃ p ys, xs = [.ref p] ∧ ((SqL X.K H p ys ∧ NewT H Q ys) ∨ (SqT X.K H p ys ∧ Q (.ref p) H))) := by
  intro pins s σ H xs us Q I r h
  obtain ⟨p, ys, rfl, h⟩ := h
  obtain ⟨u, rfl, rx⟩ := vals1 r
  cases rx
  rcases h with ⟨hq, q⟩ | ⟨hq, q⟩
  · obtain ⟨its, r', pl, hz⟩ := I.list hq
    have hlen := r'.length
    refine call_tuple_list pl.isList (fun h' kp => ?_) (by simp only [List.size_toArray] <;> omega)
    have I1 : Inv X pins σ H { s with heap := h' } := I.kept (t' := s.toks) kp
    exact newT_at (t' := s.toks) I1 (fun _ _ e => e) r' hz q
  · obtain ⟨its, r', pl, hz⟩ := I.tuple hq
    exact call_tuple_same pl ⟨.ref p, H, I, rfl, q⟩
def rRepF (K : PySem.W.Frag) : R2 := fun x y H Q => ∃ l k xs, x = .ref l ∧ y = .int k ∧ SqT K H l xs ∧ xs ≠ [] ∧ 2 ≤ k ∧ k ≤ 1000 ∧ xs.length ≤ 1000 ∧ NewT H Q (List.replicate k.toNat xs).flatten
theorem op_repF : OpR X (binaryOp .Mult) (rRepF X.K) := by
  intro pins s σ H x y v u Q I rx ry h
  obtain ⟨l, k, xs, rfl, rfl, hT, hne, h1, h2, hz, q⟩ := h
  cases rx
  obtain ⟨t, rfl⟩ := ry
  obtain ⟨its, r, ⟨⟨cls, dd, data, sl⟩, ho, hc, n, hd⟩, hs⟩ := I.tuple hT
  simp only at hc hd
  subst hc hd
  have hle : its.length = xs.length := r.length.symm
  have emp : its.toArray.isEmpty = false := by
    cases its with
    | nil => exact absurd (List.eq_nil_of_length_eq_zero hle.symm) hne
    | cons a b => rfl
  have size0 : its.toArray.size = xs.length := by rw [List.size_toArray, hle]
  have few : ((its.toArray.size : Nat) : Int) * k ≤ 1000000 := by
    rw [size0]
    have a1 : ((xs.length : Nat) : Int) * k ≤ 1000 * k := Int.mul_le_mul_of_nonneg_right (by omega) (by omega)
    omega
  have flen : (List.replicate k.toNat its).flatten.length ≤ sizeLine := by
    rw [PyProof.Rows.lm_len_rep_flat, hle, sizeLine_eq]
    have a1 : k.toNat * xs.length ≤ 1000 * 1000 := Nat.mul_le_mul (by omega) hz
    omega
  have c0 : (decide (k < -(2 ^ 63)) || decide (k ≥ 2 ^ 63)) = false := by
    rw [decide_eq_false (by omega), decide_eq_false (by omega)] <;> rfl
  have c1 : (its.toArray.isEmpty || k == 1) = false := by
    rw [emp, Bool.false_or]
    exact beq_eq_false_iff_ne.mpr (by omega)
  have c2 : (decide (k ≤ 0) || its.toArray.isEmpty) = false := by
    rw [emp, Bool.or_false]
    exact decide_eq_false (by omega)
  have c4 : Builtin.Tuple.tupleTooMany (((its.toArray.size : Nat) : Int) * k) = false := by
    unfold Builtin.Tuple.tupleTooMany
    rw [sizeLine_eq]
    exact decide_eq_false (by omega)
  refine wpAny_binaryOp_repeat_ref (T := "tuple") (U := "int") (by decide) ⟨_, ho, rfl⟩ (fun s' => typeIs_int s' k t) noFill_tuple_mul F.fills_int_mul F.slot_int_rmul repeat_tuple F.slot_int_index.lookup
    (call_meets F.slot_int_rmul (typeIs_int s k t) F.entry_int_rmul (F.args_int_rmul_2 _ _) (int_rmul_tuple k t l its.toArray n dd sl)
      ⟨ho, rfl, ⟨_, ho, rfl⟩, call_meets F.slot_tuple_mul ⟨_, ho, rfl⟩ F.entry_tuple_mul (F.args_tuple_mul_2 _ _) (tuple_mulW l its.toArray n dd sl k t c0 c1 c2 (by omega) c4 (by rw [size_rep, List.size_toArray]; exact flen)) ⟨ho, ?_⟩⟩)
  rw [size_rep]
  exact newT0 I (r.rep k.toNat) (by rw [PyProof.Rows.lm_len_rep_flat, sizeLine_eq]; have a1 : k.toNat * xs.length ≤ 1000 * 1000 := Nat.mul_le_mul (by omega) hz; omega) q
theorem tuple_mulZ (l : Addr) (items : Array Value) (n : Nat) (dd : Option Addr) (sl : Array (Option Value)) (x : Int) (u : Tok) (c0 : (decide (x < -(2 ^ 63)) || decide (x ≥ 2 ^ 63)) = false) (c1 : (items.isEmpty || x == 1) = false) (c2 : (decide (x ≤ 0) || items.isEmpty) = true) :
    Meets (Builtin.«tuple.__mul__» ⟨[.ref l, .int x u], []⟩) (fun _ R s => s.heap.get? l = some { cls := .type "tuple", dict := dd, data := .seq items n, slots := sl } ∧
      R (.ok (.ret (Value.ref s.heap.objs.size))) { s with heap := s.heap.push { cls := Value.type "tuple", data := Data.seq #[] }, toks := s.toks }) :=
  .of_wp fun prog w A R s h => by
    obtain ⟨hp, g, d, tk, os⟩ := s
    obtain ⟨hl, h⟩ := h
    have f1 := AutoSeq1.idx_int
    have hsz : (#[] : Array Value).size ≤ sizeLine := Nat.zero_le _
    wp_walk using wpAny_loadPart' hl
    repeat (first
      | (refine wpAny_ite_false (decide_eq_false (by rw [c0]; exact Bool.false_ne_true)) ?_; wp_walk using wpAny_loadPart' hl)
      | (refine wpAny_ite_false (decide_eq_false (by rw [c1]; exact Bool.false_ne_true)) ?_; wp_walk using wpAny_loadPart' hl)
      | (refine wpAny_ite_true (decide_eq_true (by rw [c2])) ?_; wp_walk using wpAny_loadPart' hl)
      | (refine wpAny_ite_false (decide_eq_false (Nat.not_lt.mpr hsz)) ?_; wp_walk using wpAny_loadPart' hl))
    exact ⟨_, rfl, h⟩
def rRepZ (K : PySem.W.Frag) : R2 := fun x y H Q => ∃ l k xs, x = .ref l ∧ y = .int k ∧ SqT K H l xs ∧ xs ≠ [] ∧ k = 0 ∧ NewT H Q []
theorem op_repZ : OpR X (binaryOp .Mult) (rRepZ X.K) := by
  intro pins s σ H x y v u Q I rx ry h
  obtain ⟨l, k, xs, rfl, rfl, hT, hne, rfl, q⟩ := h
  cases rx
  obtain ⟨t, rfl⟩ := ry
  obtain ⟨its, r, ⟨⟨cls, dd, data, sl⟩, ho, hc, n, hd⟩, hs⟩ := I.tuple hT
  simp only at hc hd
  subst hc hd
  have hle : its.length = xs.length := r.length.symm
  have emp : its.toArray.isEmpty = false := by
    cases its with
    | nil => exact absurd (List.eq_nil_of_length_eq_zero hle.symm) hne
    | cons a b => rfl
  have c0 : (decide ((0 : Int) < -(2 ^ 63)) || decide ((0 : Int) ≥ 2 ^ 63)) = false := by decide
  have c1 : (its.toArray.isEmpty || (0 : Int) == 1) = false := by rw [emp]; rfl
  have c2 : (decide ((0 : Int) ≤ 0) || its.toArray.isEmpty) = true := rfl
  refine wpAny_binaryOp_repeat_ref (T := "tuple") (U := "int") (by decide) ⟨_, ho, rfl⟩ (fun s' => typeIs_int s' 0 t) noFill_tuple_mul F.fills_int_mul F.slot_int_rmul repeat_tuple F.slot_int_index.lookup
    (call_meets F.slot_int_rmul (typeIs_int s 0 t) F.entry_int_rmul (F.args_int_rmul_2 _ _) (int_rmul_tuple 0 t l its.toArray n dd sl)
      ⟨ho, rfl, ⟨_, ho, rfl⟩, call_meets F.slot_tuple_mul ⟨_, ho, rfl⟩ F.entry_tuple_mul (F.args_tuple_mul_2 _ _) (tuple_mulZ l its.toArray n dd sl 0 t c0 c1 c2) ⟨ho, ?_⟩⟩)
  exact newT0 I .nil (Nat.zero_le _) q
/-- a tuple whose dict is none: its methods -/
def TD (H : Hp) (a : Addr) : Prop := ∃ o u, H a = some (.frz o (.tup u)) ∧ o.dict = none
end
end U

set_option Elab.async false
set_option linter.all false
set_option maxRecDepth 100000
set_option maxHeartbeats 1000000
/-! U1: pure data over the hand layer: D, the store, the judgements DE, DT, DA, DS. -/
namespace U
open PySem PySem.Spec PyProof.Rows L2

/-! ### data -/
inductive D where
  | non | bl (b : Bool) | int (i : Int) | str (x : Str) | tup (ds : List D) | lst (ds : List D) | loc (a : Addr) | ty (n : String)
  deriving Inhabited

mutual
def D.pd : D → PyData
  | .non => .none
  | .bl b => .bool b
  | .int i => .int i
  | .str x => .str x
  | .tup ds => .tuple (D.pds ds)
  | .lst ds => .list (D.pds ds)
  | .loc _ => .none
  | .ty _ => .none
def D.pds : List D → List PyData
  | [] => []
  | d :: ds => D.pd d :: D.pds ds
end
/-- depth at most n, no address within -/
def dle : Nat → D → Bool
  | _, .non => true
  | _, .bl _ => true
  | _, .int _ => true
  | _, .str x => PyData.strOk x
  | 0, .tup _ => false
  | 0, .lst _ => false
  | n + 1, .tup ds => ds.all (dle n)
  | n + 1, .lst ds => ds.all (dle n)
  | _, .loc _ => false
  | _, .ty _ => false
def eqD (x y : D) : Bool := PyData.eqv x.pd y.pd

/-- what stands at an address that may be written -/
inductive MO where
  | lst (ds : List D)
  | dct (kvs : List (D × D))
  | ins (C : Addr) (fs : List (Str × D))
  deriving Inhabited
abbrev Mu := Addr → Option MO
abbrev Env' := List (Option D)
def mset (M : Mu) (a : Addr) (m : MO) : Mu := fun b => if b = a then some m else M b
def mdel (M : Mu) (a : Addr) : Mu := fun b => if b = a then none else M b
/-- what a caller knows again behind a call: the objects that it knew -/
def mres (M' M : Mu) : Mu := fun b => match M b with | none => none | some _ => M' b
theorem sf {M : Mu} {a : Addr} {m : MO} : mset M a m a = some m := by unfold mset; rw [if_pos rfl]
theorem mset_ne {M : Mu} {a b : Addr} {m : MO} (h : b ≠ a) : mset M a m b = M b := by unfold mset; rw [if_neg h]
theorem mdel_same {M : Mu} {a : Addr} : mdel M a a = none := by unfold mdel; rw [if_pos rfl]
theorem mdel_ne {M : Mu} {a b : Addr} (h : b ≠ a) : mdel M a b = M b := by unfold mdel; rw [if_neg h]
theorem mres_self {M : Mu} : mres M M = M := by
  funext b; unfold mres; cases h : M b <;> rfl
theorem mres_mset {M M' : Mu} {a : Addr} {m : MO} (h : M a = none) : mres (mset M' a m) M = mres M' M := by
  funext b; unfold mres
  by_cases e : b = a
  · subst e; rw [h]
  · rw [mset_ne e]
theorem mset_mset {M : Mu} {a : Addr} {m n : MO} : mset (mset M a m) a n = mset M a n := by
  funext b; unfold mset; split <;> rfl
/-! ### values and data -/
/-- a list that is not written any more -/
def FzL (K : PySem.W.Frag) (hid : List Addr) (H : Hp) (M : Mu) (a : Addr) (xs : List V) : Prop :=
  (H a = some (.lst xs) ∧ M a = none ∧ a ∉ hid) ∨ (∃ o, H a = some (.frz o (.lst xs))) ∨
    ∃ (o : Obj) (its : Array Value) (n : Nat), K.lookup a = some o ∧ o.cls = .type "list" ∧ o.dict = none ∧ o.data = .seq its n ∧ its.size ≤ sizeLine ∧ Vals xs its.toList
theorem FzL.sq {K : PySem.W.Frag} {hid : List Addr} {H : Hp} {M : Mu} {a : Addr} {xs : List V} (h : FzL K hid H M a xs) : SqL K H a xs := by
  rcases h with h | h | h
  · exact .inl (.inl h.1)
  · exact .inl (.inr h)
  · exact .inr h
mutual
inductive Rv (K : PySem.W.Frag) (hid : List Addr) (H : Hp) (M : Mu) : V → D → Prop
  | non : Rv K hid H M .non .non
  | bl (b : Bool) : Rv K hid H M (.bl b) (.bl b)
  | int (i : Int) : Rv K hid H M (.int i) (.int i)
  | str (x : Str) : Rv K hid H M (.str x) (.str x)
  | tup {a : Addr} {xs : List V} {ds : List D} (h : SqT K H a xs) (r : Rvs K hid H M xs ds) (d : TD H a := by assumption) : Rv K hid H M (.ref a) (.tup ds)
  | lst {a : Addr} {xs : List V} {ds : List D} (h : FzL K hid H M a xs) (r : Rvs K hid H M xs ds) : Rv K hid H M (.ref a) (.lst ds)
  | loc (a : Addr) : Rv K hid H M (.ref a) (.loc a)
  | ty (n : String) : Rv K hid H M (.ty n) (.ty n)
inductive Rvs (K : PySem.W.Frag) (hid : List Addr) (H : Hp) (M : Mu) : List V → List D → Prop
  | nil : Rvs K hid H M [] []
  | cons {v : V} {vs : List V} {d : D} {ds : List D} (h : Rv K hid H M v d) (r : Rvs K hid H M vs ds) : Rvs K hid H M (v :: vs) (d :: ds)
end
/-- what is kept from one place of a run to a later one -/
structure Ext (hid : List Addr) (H : Hp) (M : Mu) (H' : Hp) (M' : Mu) : Prop where
  tup : ∀ a xs, H a = some (.tup xs) → H' a = some (.tup xs)
  frz : ∀ a o u, H a = some (.frz o u) → H' a = some (.frz o u)
  lst : ∀ a xs, H a = some (.lst xs) → M a = none → a ∉ hid → H' a = some (.lst xs) ∧ M' a = none
  hid : ∀ a ∈ hid, ∀ o : { o : HO // ∀ q, o ≠ .tbl q }, H a = some o.1 → H' a = some o.1
  dom : ∀ a, H a ≠ none → H' a ≠ none
  nl : ∀ a, M a = none → M' a ≠ none → H a = none
theorem Ext.refl (hid : List Addr) (H : Hp) (M : Mu) : Ext hid H M H M := ⟨fun _ _ h => h, fun _ _ _ h => h, fun _ _ h h' _ => ⟨h, h'⟩, fun _ _ _ h => h, fun _ h => h, fun _ h h' => absurd h h'⟩
theorem Ext.trans {hid : List Addr} {H H1 H2 : Hp} {M M1 M2 : Mu} (a : Ext hid H M H1 M1) (b : Ext hid H1 M1 H2 M2) : Ext hid H M H2 M2 :=
  ⟨fun x xs h => b.tup _ _ (a.tup x xs h), fun x o u h => b.frz _ _ _ (a.frz x o u h), fun x xs h h' z => let ⟨p, q⟩ := a.lst x xs h h' z; b.lst x xs p q z, fun x hx xs h => b.hid x hx xs (a.hid x hx xs h), fun x h => b.dom x (a.dom x h), fun x h h' => by
    cases q : M1 x with
    | none => exact Classical.byContradiction fun z => a.dom x z (b.nl x q h')
    | some m => exact a.nl x h (by rw [q]; exact fun z => nomatch z)⟩
theorem upd_dom {H : Hp} {p : Addr} {o : HO} (a : Addr) (h : H a ≠ none) : upd H p o a ≠ none := by
  by_cases e : a = p
  · subst e; rw [upd_same]; exact fun z => nomatch z
  · rw [upd_ne e]; exact h
section
variable {K : PySem.W.Frag} {hid : List Addr} {H H' : Hp} {M M' : Mu}
theorem Ext.sqT (e : Ext hid H M H' M') {a : Addr} {xs : List V} (h : SqT K H a xs) : SqT K H' a xs := by
  rcases h with (h | ⟨o, h⟩) | h
  · exact .inl (.inl (e.tup _ _ h))
  · exact .inl (.inr ⟨o, e.frz _ _ _ h⟩)
  · exact .inr h
theorem Ext.td (e : Ext hid H M H' M') {a : Addr} (h : TD H a) : TD H' a := let ⟨o, u, h1, h2⟩ := h; ⟨o, u, e.frz _ _ _ h1, h2⟩
theorem Ext.fzL (e : Ext hid H M H' M') {a : Addr} {xs : List V} (h : FzL K hid H M a xs) : FzL K hid H' M' a xs := by
  rcases h with h | ⟨o, h⟩ | h
  · obtain ⟨h1, h2, h3⟩ := h
    obtain ⟨p, q⟩ := e.lst _ _ h1 h2 h3
    exact .inl ⟨p, q, h3⟩
  · exact .inr (.inl ⟨o, e.frz _ _ _ h⟩)
  · exact .inr (.inr h)
mutual
theorem Ext.rv (e : Ext hid H M H' M') : ∀ (d : D) (v : V), Rv K hid H M v d → Rv K hid H' M' v d
  | .non, _, h => by cases h; exact .non
  | .bl b, _, h => by cases h; exact .bl b
  | .int i, _, h => by cases h; exact .int i
  | .str x, _, h => by cases h; exact .str x
  | .tup ds, _, h => by
    cases h with
    | tup h r d => exact .tup (e.sqT h) (Ext.rvs e ds _ r) (e.td d)
  | .lst ds, _, h => by
    cases h with
    | lst h r => exact .lst (e.fzL h) (Ext.rvs e ds _ r)
  | .loc a, _, h => by cases h; exact .loc a
  | .ty n, _, h => by cases h; exact .ty n
theorem Ext.rvs (e : Ext hid H M H' M') : ∀ (ds : List D) (vs : List V), Rvs K hid H M vs ds → Rvs K hid H' M' vs ds
  | [], _, h => by cases h; exact .nil
  | d :: ds, _, h => by
    cases h with
    | cons h r => exact .cons (Ext.rv e d _ h) (Ext.rvs e ds _ r)
end
theorem Rvs.length : ∀ {vs : List V} {ds : List D}, Rvs K hid H M vs ds → vs.length = ds.length
  | _, _, .nil => rfl
  | _, _, .cons _ r => by rw [List.length_cons, List.length_cons, Rvs.length r]
theorem Rvs.get : ∀ {vs : List V} {ds : List D}, Rvs K hid H M vs ds → ∀ (i : Nat) {d : D}, ds[i]? = some d → ∃ v, vs[i]? = some v ∧ Rv K hid H M v d
  | _, _, .nil, _, _, e => by simp at e
  | _, _, .cons h r, 0, d, e => by simp at e; subst e; exact ⟨_, rfl, h⟩
  | _, _, .cons h r, i + 1, d, e => by
    obtain ⟨v, h1, h2⟩ := Rvs.get r i (d := d) (by simpa using e)
    exact ⟨v, by simpa using h1, h2⟩
theorem Rvs.append : ∀ {vs ws : List V} {ds es : List D}, Rvs K hid H M vs ds → Rvs K hid H M ws es → Rvs K hid H M (vs ++ ws) (ds ++ es)
  | _, _, _, _, .nil, s => s
  | _, _, _, _, .cons h r, s => .cons h (Rvs.append r s)
theorem Rvs.set : ∀ {vs : List V} {ds : List D} {v : V} {d : D} (i : Nat), Rvs K hid H M vs ds → Rv K hid H M v d → Rvs K hid H M (vs.set i v) (ds.set i d)
  | _, _, _, _, _, .nil, _ => .nil
  | _, _, _, _, 0, .cons _ r, q => .cons q r
  | _, _, _, _, i + 1, .cons h r, q => .cons h (Rvs.set i r q)
theorem Rvs.take : ∀ {vs : List V} {ds : List D} (n : Nat), Rvs K hid H M vs ds → Rvs K hid H M (vs.take n) (ds.take n)
  | _, _, 0, _ => by simp; exact .nil
  | _, _, _ + 1, .nil => .nil
  | _, _, n + 1, .cons h r => .cons h (Rvs.take n r)
theorem Rvs.drop : ∀ {vs : List V} {ds : List D} (n : Nat), Rvs K hid H M vs ds → Rvs K hid H M (vs.drop n) (ds.drop n)
  | _, _, 0, r => r
  | _, _, _ + 1, .nil => .nil
  | _, _, n + 1, .cons _ r => Rvs.drop n r
theorem Rvs.dropLast {vs : List V} {ds : List D} (h : Rvs K hid H M vs ds) : Rvs K hid H M vs.dropLast ds.dropLast := by
  rw [List.dropLast_eq_take, List.dropLast_eq_take, h.length]; exact h.take _
theorem Rvs.reverse : ∀ {vs : List V} {ds : List D}, Rvs K hid H M vs ds → Rvs K hid H M vs.reverse ds.reverse
  | _, _, .nil => .nil
  | _, _, .cons h r => by
    rw [List.reverse_cons, List.reverse_cons]
    exact (Rvs.reverse r).append (.cons h .nil)
theorem Rvs.rep {vs : List V} {ds : List D} (h : Rvs K hid H M vs ds) : ∀ k : Nat, Rvs K hid H M (List.replicate k vs).flatten (List.replicate k ds).flatten
  | 0 => .nil
  | k + 1 => by
    simp only [List.replicate_succ, List.flatten_cons]
    exact h.append (Rvs.rep h k)
/-- forgetting more of the store -/
theorem Ext.less (h : ∀ a, M a = none → M' a = none) : Ext hid H M H M' := ⟨fun _ _ h => h, fun _ _ _ h => h, fun a _ q z _ => ⟨q, h a z⟩, fun _ _ _ h => h, fun _ h => h, fun a q q' => absurd (h a q) q'⟩

mutual
theorem Rv.dp : ∀ (d : D) (n : Nat) (v : V), dle n d = true → Rv K hid H M v d → Dp K H v d.pd
  | .non, _, _, _, h => by cases h; exact .non
  | .bl b, _, _, _, h => by cases h; exact .bl b
  | .int i, _, _, _, h => by cases h; exact .int i
  | .str x, _, _, _, h => by cases h; exact .str x
  | .tup ds, 0, _, q, h => by simp [dle] at q
  | .lst ds, 0, _, q, h => by simp [dle] at q
  | .tup ds, n + 1, _, q, h => by
    cases h with
    | tup h r => exact .tup h (Rvs.dp ds n _ (by simpa only [dle] using q) r)
  | .lst ds, n + 1, _, q, h => by
    cases h with
    | lst h r => exact .lst h.sq (Rvs.dp ds n _ (by simpa only [dle] using q) r)
  | .loc a, n, _, q, h => by cases n <;> simp [dle] at q
  | .ty a, n, _, q, h => by cases n <;> simp [dle] at q
theorem Rvs.dp : ∀ (ds : List D) (n : Nat) (vs : List V), ds.all (dle n) = true → Rvs K hid H M vs ds → DpAll K H vs (D.pds ds)
  | [], _, _, _, h => by cases h; exact .nil
  | d :: ds, n, _, q, h => by
    cases h with
    | cons h r =>
      rw [List.all_cons, Bool.and_eq_true] at q
      exact .cons (Rv.dp d n _ q.1 h) (Rvs.dp ds n _ q.2 r)
end
mutual
theorem dle_depth : ∀ (d : D) (n : Nat), dle n d = true → d.pd.canLay0 = true ∧ d.pd.depth ≤ n
  | .non, n, _ => by simp [D.pd, PyData.canLay0, PyData.depth]
  | .bl b, n, _ => by simp [D.pd, PyData.canLay0, PyData.depth]
  | .int i, n, _ => by simp [D.pd, PyData.canLay0, PyData.depth]
  | .str x, n, q => by cases n <;> simp [dle] at q <;> simp [D.pd, PyData.canLay0, PyData.depth, q]
  | .tup ds, 0, q => by simp [dle] at q
  | .lst ds, 0, q => by simp [dle] at q
  | .tup ds, n + 1, q => by
    obtain ⟨h1, h2⟩ := dles_depth ds n (by simpa only [dle] using q)
    simp only [D.pd, PyData.canLay0, PyData.depth]
    exact ⟨h1, by omega⟩
  | .lst ds, n + 1, q => by
    obtain ⟨h1, h2⟩ := dles_depth ds n (by simpa only [dle] using q)
    simp only [D.pd, PyData.canLay0, PyData.depth]
    exact ⟨h1, by omega⟩
  | .loc a, n, q => by cases n <;> simp [dle] at q
  | .ty a, n, q => by cases n <;> simp [dle] at q
theorem dles_depth : ∀ (ds : List D) (n : Nat), ds.all (dle n) = true → PyData.canLayAll0 (D.pds ds) = true ∧ PyData.depthAll (D.pds ds) ≤ n
  | [], n, _ => by simp [D.pds, PyData.canLayAll0, PyData.depthAll]
  | d :: ds, n, q => by
    rw [List.all_cons, Bool.and_eq_true] at q
    obtain ⟨h1, h2⟩ := dle_depth d n q.1
    obtain ⟨h3, h4⟩ := dles_depth ds n q.2
    simp only [D.pds, PyData.canLayAll0, PyData.depthAll, h1, h3, Bool.and_true, true_and]
    omega
end
theorem dle_shaped {d : D} (h : dle 60 d = true) : SeqAt.shaped d.pd = true := by
  obtain ⟨h1, h2⟩ := dle_depth d 60 h
  unfold SeqAt.shaped
  rw [h1, Bool.true_and]
  exact decide_eq_true (by omega)
end
end U

set_option Elab.async false
set_option linter.all false
set_option maxRecDepth 100000
set_option maxHeartbeats 1000000
/-! D0: keys of nested tuples; dicts with such keys, of whole numbers alone. -/
namespace U
open PySem PySem.Spec PyProof.Rows L2
mutual
def D.key : D → NestedKey
  | .int i => .num i
  | .str x => .text x
  | .tup ds => .tup (D.keys ds)
  | _ => .none
def D.keys : List D → List NestedKey
  | [] => []
  | d :: ds => D.key d :: D.keys ds
end
/-- ints, texts and tuples of such, at most n deep -/
def kyD : Nat → D → Bool
  | _, .int _ => true
  | _, .str _ => true
  | n + 1, .tup ds => ds.all (kyD n)
  | _, _ => false
mutual
/-- a nested tuple of whole numbers, depth at most n -/
def kI : Nat → D → Bool
  | _, .int _ => true
  | n + 1, .tup ds => kIs n ds
  | _, _ => false
def kIs (n : Nat) : List D → Bool
  | [] => true
  | d :: ds => kI n d && kIs n ds
end
mutual
/-- the hash of a key of whole numbers -/
def hI : NestedKey → Int
  | .num i => hashInt i
  | .tup ks => reduceHash (Builtin.Tuple.tupleHashOf (hIs ks))
  | _ => 0
def hIs : List NestedKey → List Int
  | [] => []
  | k :: ks => hI k :: hIs ks
end
mutual
theorem hash_I (w : World) : ∀ (d : D) (n : Nat), kI n d = true → d.key.hash w = hI d.key
  | .int i, _, _ => rfl
  | .tup ds, 0, h => by simp [kI] at h
  | .tup ds, n + 1, h => by
    show reduceHash (Builtin.Tuple.tupleHashOf (NestedKey.hashes w (D.keys ds))) = reduceHash (Builtin.Tuple.tupleHashOf (hIs (D.keys ds)))
    rw [hashes_I w ds n (by simpa only [kI] using h)]
  | .str _, n, h | .non, n, h | .bl _, n, h | .lst _, n, h | .loc _, n, h | .ty _, n, h => by cases n <;> simp [kI] at h
theorem hashes_I (w : World) : ∀ (ds : List D) (n : Nat), kIs n ds = true → NestedKey.hashes w (D.keys ds) = hIs (D.keys ds)
  | [], _, _ => rfl
  | d :: ds, n, h => by
    simp only [kIs, Bool.and_eq_true] at h
    show NestedKey.hash w d.key :: NestedKey.hashes w (D.keys ds) = hI d.key :: hIs (D.keys ds)
    rw [hash_I w d n h.1, hashes_I w ds n h.2]
end
mutual
theorem kI_ky : ∀ (d : D) (n : Nat), kI n d = true → kyD n d = true
  | .int i, n, _ => by cases n <;> rfl
  | .tup ds, 0, h => by simp [kI] at h
  | .tup ds, n + 1, h => by
    simp only [kyD]
    exact kIs_ky ds n (by simpa only [kI] using h)
  | .str _, n, h | .non, n, h | .bl _, n, h | .lst _, n, h | .loc _, n, h | .ty _, n, h => by cases n <;> simp [kI] at h
theorem kIs_ky : ∀ (ds : List D) (n : Nat), kIs n ds = true → ds.all (kyD n) = true
  | [], _, _ => rfl
  | d :: ds, n, h => by
    simp only [kIs, Bool.and_eq_true] at h
    rw [List.all_cons, kI_ky d n h.1, kIs_ky ds n h.2]; rfl
end
abbrev DEnt := NestedKey × Addr × Value
def dEnt (x : DEnt) : DictEntry := ⟨hI x.1, .ref x.2.1, x.2.2⟩
/-- what is known of the dict's own object -/
def DRaw (h : Heap) (a : Addr) (xs : List DEnt) : Prop := ∃ o es ep, h.get? a = some o ∧ o.ExactDict ∧ o.data = .dict es ep ∧ es.toList = xs.map dEnt ∧ (xs.map (·.1)).Nodup
def DctO (a : Addr) (xs : List DEnt) : HO := .ext fun h => DRaw h a xs
/-- the entries are read as the data kvs -/
def DRel (K : PySem.W.Frag) (hid : List Addr) (H : Hp) (M : Mu) : List DEnt → List (D × D) → Prop
  | [], [] => True
  | x :: xs, p :: kvs => x.1 = p.1.key ∧ kI 8 p.1 = true ∧ Rv K hid H M (.ref x.2.1) p.1 ∧ (∃ v, RelV v x.2.2 ∧ Rv K hid H M v p.2) ∧ DRel K hid H M xs kvs
  | _, _ => False
end U

set_option Elab.async false
set_option linter.all false
set_option maxRecDepth 100000
set_option maxHeartbeats 1000000
/-! U2: what holds of a place of a run; the judgements; names, constants, operators, tests, displays. -/
namespace U
open PySem PySem.Spec PyProof.Rows L2

structure XD where
  C : Addr
  fs : List (Str × D)
def XR (K : PySem.W.Frag) (hid : List Addr) (H : Hp) (M : Mu) (cls : Value) (dd : Option Addr) (x : XD) : Prop :=
  cls = .ref x.C ∧ ((x.fs = [] ∧ dd = none) ∨ x.fs ≠ [] ∧ ∃ d fvs, dd = some d ∧ H d = some (.xd fvs) ∧ fvs.map (·.1) = x.fs.map (·.1) ∧ Rvs K hid H M (fvs.map (·.2)) (x.fs.map (·.2)))

def MOk (K : PySem.W.Frag) (hid : List Addr) (H : Hp) (M : Mu) (a : Addr) : MO → Prop
  | .lst ds => ∃ xs, H a = some (.lst xs) ∧ Rvs K hid H M xs ds
  | .dct kvs => ∃ xs, H a = some (DctO a xs) ∧ (a == sysModules) = false ∧ DRel K hid H M xs kvs
  | .ins C fs => ∃ dx fvs, H a = some (.ins C dx fvs) ∧ fvs.map (·.1) = fs.map (·.1) ∧ Rvs K hid H M (fvs.map (·.2)) (fs.map (·.2))
/-- the mark of a code object that is known -/
def Mk : Heap → Prop := fun _ => True
/-- a code object of the table at P -/
def CodO (o : Obj) (c P : Addr) : Prop := ∀ h : Heap, h.get? c = some o → PySem.W.CodeHd h c P
theorem codO_of {h : Heap} {c P : Addr} {o : Obj} (e : h.get? c = some o) (x : PySem.W.CodeHd h c P) : CodO o c P := by
  obtain ⟨o', vs, file, tf, flags, tg, inF, text, tt, e', r⟩ := x
  rw [e] at e'; cases e'
  exact fun h' e2 => ⟨o, vs, file, tf, flags, tg, inF, text, tt, e2, r⟩
/-- a table whose code objects are known, with tables of their own -/
def TabE (T : List Addr) (H : Hp) (P : Addr) : Prop := ∃ ps : Array Value, H P = some (.tbl ps) ∧ TriplesOk ps.toList ∧
  ∀ pos cv, codeAmong pos ps.toList = some cv → ∃ c o P', cv = .ref c ∧ H c = some (.frz o (.ext Mk)) ∧ CodO o c P' ∧ P' ∉ T ∧ GxR.TabG H P'
theorem TabE.keep {T : List Addr} {H H' : Hp} {P : Addr} (x : TabE T H P) (k1 : ∀ a o φ, H a = some (.frz o (.ext φ)) → H' a = some (.frz o (.ext φ))) (k2 : ∀ a ps, H a = some (.tbl ps) → H' a = some (.tbl ps)) : TabE T H' P := by
  obtain ⟨ps, h1, h2, h3⟩ := x
  refine ⟨ps, k2 _ _ h1, h2, fun pos cv e => ?_⟩
  obtain ⟨c, o, P', e1, e2, e3, e4, qs, e5, e6⟩ := h3 pos cv e
  exact ⟨c, o, P', e1, k1 _ _ _ e2, e3, e4, qs, k2 _ _ e5, e6⟩
/-- a thing is laid or written that is neither a table nor frozen -/
theorem TabE.upd {T : List Addr} {H : Hp} {P p : Addr} {o : HO} (x : TabE T H P) (h : ∀ u, H p = some u → (∀ ps, u ≠ .tbl ps) ∧ ∀ o φ, u ≠ .frz o (.ext φ)) : TabE T (upd H p o) P :=
  x.keep (fun a o' φ e => by rw [upd_ne (by rintro rfl; exact (h _ e).2 _ _ rfl)]; exact e) fun a ps e => by rw [upd_ne (by rintro rfl; exact (h _ e).1 _ rfl)]; exact e
theorem TabE.upd0 {T : List Addr} {H : Hp} {P p : Addr} {o : HO} (x : TabE T H P) (hp : H p = none) : TabE T (L2.upd H p o) P := x.upd fun u e => by rw [hp] at e; cases e
theorem TabE.ne {T : List Addr} {H : Hp} {P : Addr} (x : TabE T H P) : H P ≠ none := by
  obtain ⟨ps, h1, _⟩ := x
  rw [h1]; exact fun z => nomatch z
structure Sto (K : PySem.W.Frag) (T : List Addr) (hid : List Addr) (H : Hp) (M : Mu) : Prop where
  mem : ∀ a m, M a = some m → MOk K hid H M a m
  tab : ∀ P ∈ T, TabE T H P
  hidn : ∀ a ∈ hid, M a = none ∧ H a ≠ none
def REnv (K : PySem.W.Frag) (hid : List Addr) (H : Hp) (M : Mu) (σ : L2.St) (ρ : Env') : Prop :=
  ρ.length = σ.length ∧ ∀ (i : Nat) (d : D), ρ[i]? = some (some d) → ∃ v, σ[i]? = some (some v) ∧ Rv K hid H M v d

abbrev XW := XD → Mu → Prop
abbrev FE := XW → Env' → Mu → (D → Mu → Prop) → Prop
abbrev FT := XW → Env' → Mu → (Bool → Mu → Prop) → Prop
abbrev FA := XW → Env' → Mu → (List D → Mu → Prop) → Prop
structure FEnds where
  nx : Env' → Mu → Prop
  rt : D → Mu → Prop
  bk : Env' → Mu → Prop := fun _ _ => False
  ct : Env' → Mu → Prop := fun _ _ => False
  xw : XD → Env' → Mu → Prop := fun _ _ _ => False
abbrev FS := FEnds → Env' → Mu → Prop

section
variable (K : PySem.W.Frag) (T hid : List Addr) (W : WX)
/-- the wish about exceptions, at the slots σ -/
def WOk (σ : L2.St) (H : Hp) (M : Mu) (xw : XW) : Prop :=
  ∀ cls dd H' M' xd, Sto K T hid H' M' → Ext hid H M H' M' → XR K hid H' M' cls dd xd → xw xd M' → W cls dd σ H'
def WOkS (H : Hp) (M : Mu) (xw : XD → Env' → Mu → Prop) : Prop :=
  ∀ cls dd σ' H' ρ' M' xd, REnv K hid H' M' σ' ρ' → Sto K T hid H' M' → Ext hid H M H' M' → XR K hid H' M' cls dd xd → xw xd ρ' M' → W cls dd σ' H'
def Pst (H : Hp) (M : Mu) (Q : D → Mu → Prop) (Qv : VK) : Prop :=
  ∀ v H' d M', Sto K T hid H' M' → Ext hid H M H' M' → Rv K hid H' M' v d → Q d M' → Qv v H'
def PstB (H : Hp) (M : Mu) (Q : Bool → Mu → Prop) (Qv : Bool → Hp → Prop) : Prop :=
  ∀ b H' M', Sto K T hid H' M' → Ext hid H M H' M' → Q b M' → Qv b H'
def PstA (H : Hp) (M : Mu) (Q : List D → Mu → Prop) (Qv : List V → Hp → Prop) : Prop :=
  ∀ vs H' ds M', Sto K T hid H' M' → Ext hid H M H' M' → Rvs K hid H' M' vs ds → Q ds M' → Qv vs H'
structure EndsOk (H : Hp) (M : Mu) (E : FEnds) (D : Ends) : Prop where
  nx : ∀ σ' H' ρ' M', REnv K hid H' M' σ' ρ' → Sto K T hid H' M' → Ext hid H M H' M' → E.nx ρ' M' → D.nx σ' H'
  rt : Pst K T hid H M E.rt D.rt
  bk : ∀ σ' H' ρ' M', REnv K hid H' M' σ' ρ' → Sto K T hid H' M' → Ext hid H M H' M' → E.bk ρ' M' → D.bk σ' H'
  ct : ∀ σ' H' ρ' M', REnv K hid H' M' σ' ρ' → Sto K T hid H' M' → Ext hid H M H' M' → E.ct ρ' M' → D.ct σ' H'
end
def ESim (K : PySem.W.Frag) (T : List Addr) (W : WX) (t : TE) (f : FE) : Prop :=
  ∀ hid σ H ρ M xw Q Qv, REnv K hid H M σ ρ → Sto K T hid H M → WOk K T hid W σ H M xw → f xw ρ M Q → Pst K T hid H M Q Qv → t σ H Qv
def TSim (K : PySem.W.Frag) (T : List Addr) (W : WX) (t : TT) (f : FT) : Prop :=
  ∀ hid σ H ρ M xw Q Qv, REnv K hid H M σ ρ → Sto K T hid H M → WOk K T hid W σ H M xw → f xw ρ M Q → PstB K T hid H M Q Qv → t σ H Qv
def ASim (K : PySem.W.Frag) (T : List Addr) (W : WX) (t : TA) (f : FA) : Prop :=
  ∀ hid σ H ρ M xw Q Qv, REnv K hid H M σ ρ → Sto K T hid H M → WOk K T hid W σ H M xw → f xw ρ M Q → PstA K T hid H M Q Qv → t σ H Qv
def SSim (K : PySem.W.Frag) (T : List Addr) (W : WX) (t : TS) (f : FS) : Prop :=
  ∀ hid σ H ρ M E D, REnv K hid H M σ ρ → Sto K T hid H M → WOkS K T hid W H M E.xw → f E ρ M → EndsOk K T hid H M E D → t D σ H

def DE (X : Cx) (T : List Addr) (W : WX) (e : Expr) (f : FE) : Prop := ∃ t, PE X e t ∧ ESim X.K T W t f
def DT (X : Cx) (T : List Addr) (W : WX) (e : Expr) (f : FT) : Prop := ∃ t, PT X e t ∧ TSim X.K T W t f
def DW (X : Cx) (T : List Addr) (W : WX) (e : Expr) (f : FT) : Prop := ∃ t, PW X e t ∧ TSim X.K T W t f
def DA (X : Cx) (T : List Addr) (W : WX) (es : List Expr) (f : FA) : Prop := ∃ t, PA X es t ∧ ASim X.K T W t f
def DS (X : Cx) (T : List Addr) (W : WX) (st : Stmt) (f : FS) : Prop := ∃ t, PS X st t ∧ SSim X.K T W t f
def DSs (X : Cx) (T : List Addr) (W : WX) (sts : List Stmt) (f : FS) : Prop := ∃ t, PSs X sts t ∧ SSim X.K T W t f

section
variable {K : PySem.W.Frag} {T hid : List Addr} {W : WX} {H H' H1 : Hp} {M M' M1 : Mu} {σ : L2.St} {ρ : Env'}
theorem REnv.ext (r : REnv K hid H M σ ρ) (e : Ext hid H M H' M') : REnv K hid H' M' σ ρ :=
  ⟨r.1, fun i d h => let ⟨v, h1, h2⟩ := r.2 i d h; ⟨v, h1, e.rv _ _ h2⟩⟩
theorem REnv.set (r : REnv K hid H M σ ρ) {v : V} {d : D} (i : Nat) (h : Rv K hid H M v d) : REnv K hid H M (σ.set i (some v)) (ρ.set i (some d)) := by
  refine ⟨by rw [List.length_set, List.length_set]; exact r.1, fun j c hj => ?_⟩
  by_cases e : i = j
  · subst e
    by_cases hl : i < ρ.length
    · rw [List.getElem?_set_self hl] at hj
      cases hj
      exact ⟨v, List.getElem?_set_self (by rw [← r.1]; exact hl), h⟩
    · rw [List.getElem?_eq_none (by rw [List.length_set]; omega)] at hj; cases hj
  · rw [List.getElem?_set_ne e] at hj
    obtain ⟨w, h1, h2⟩ := r.2 j c hj
    exact ⟨w, by rw [List.getElem?_set_ne e]; exact h1, h2⟩
theorem WOk.ext {xw : XW} (w : WOk K T hid W σ H M xw) (e : Ext hid H M H' M') : WOk K T hid W σ H' M' xw :=
  fun cls dd H1 M1 xd s e1 => w cls dd H1 M1 xd s (e.trans e1)
theorem WOkS.ext {xw : XD → Env' → Mu → Prop} (w : WOkS K T hid W H M xw) (e : Ext hid H M H' M') : WOkS K T hid W H' M' xw :=
  fun cls dd σ1 H1 ρ1 M1 xd r s e1 => w cls dd σ1 H1 ρ1 M1 xd r s (e.trans e1)
theorem WOkS.at {xw : XD → Env' → Mu → Prop} (w : WOkS K T hid W H M xw) (r : REnv K hid H M σ ρ) : WOk K T hid W σ H M (fun xd M' => xw xd ρ M') :=
  fun cls dd H1 M1 xd s e x q => w cls dd σ H1 ρ M1 xd (r.ext e) s e x q
theorem Pst.ext {Q : D → Mu → Prop} {Qv : VK} (p : Pst K T hid H M Q Qv) (e : Ext hid H M H' M') : Pst K T hid H' M' Q Qv := fun v H1 d M1 s e1 => p v H1 d M1 s (e.trans e1)
theorem EndsOk.ext {E : FEnds} {D : Ends} (p : EndsOk K T hid H M E D) (e : Ext hid H M H' M') : EndsOk K T hid H' M' E D :=
  ⟨fun σ1 H1 ρ1 M1 r s e1 => p.nx σ1 H1 ρ1 M1 r s (e.trans e1), p.rt.ext e, fun σ1 H1 ρ1 M1 r s e1 => p.bk σ1 H1 ρ1 M1 r s (e.trans e1), fun σ1 H1 ρ1 M1 r s e1 => p.ct σ1 H1 ρ1 M1 r s (e.trans e1)⟩

/-! ### new objects -/
theorem Sto.fresh (s : Sto K T hid H M) {p : Addr} (hp : H p = none) : M p = none ∧ p ∉ hid := by
  refine ⟨?_, fun h => (s.hidn p h).2 hp⟩
  cases q : M p with
  | none => rfl
  | some m =>
    have := s.mem p m q
    cases m with
    | lst ds => obtain ⟨xs, e, _⟩ := this; rw [hp] at e; cases e
    | dct kvs => obtain ⟨xs, e, _⟩ := this; rw [hp] at e; cases e
    | ins C fs => obtain ⟨dx, fvs, e, _⟩ := this; rw [hp] at e; cases e
theorem DRel.map (e1 : ∀ d v, Rv K hid H M v d → Rv K hid' H' M' v d) : ∀ {xs : List DEnt} {kvs : List (D × D)}, DRel K hid H M xs kvs → DRel K hid' H' M' xs kvs
  | [], [], _ => trivial
  | [], _ :: _, h => h.elim
  | _ :: _, [], h => h.elim
  | x :: xs, p :: kvs, ⟨a, b, c, ⟨v, d, f⟩, g⟩ => ⟨a, b, e1 _ _ c, ⟨v, d, e1 _ _ f⟩, DRel.map e1 g⟩
theorem MOk.ext (e : Ext hid H M H' M') {a : Addr} {m : MO} (h : MOk K hid H M a m) (k : H' a = H a) : MOk K hid H' M' a m := by
  cases m with
  | lst ds => obtain ⟨xs, h1, h2⟩ := h; exact ⟨xs, by rw [k]; exact h1, e.rvs _ _ h2⟩
  | dct kvs => obtain ⟨xs, h1, h2, h3⟩ := h; exact ⟨xs, by rw [k]; exact h1, h2, h3.map fun d v r => e.rv _ _ r⟩
  | ins C fs => obtain ⟨dx, fvs, h1, h3, h2⟩ := h; exact ⟨dx, fvs, by rw [k]; exact h1, h3, e.rvs _ _ h2⟩
theorem Ext.new (s : Sto K T hid H M) {p : Addr} {o : HO} (hp : H p = none) : Ext hid H M (upd H p o) M :=
  ⟨fun a xs h => by rw [upd_ne (ne_of_none h hp)]; exact h, fun a o u h => by rw [upd_ne (ne_of_none h hp)]; exact h,
   fun a xs h h' z => ⟨by rw [upd_ne (ne_of_none h hp)]; exact h, h'⟩, fun a ha xs h => by rw [upd_ne (ne_of_none h hp)]; exact h, fun a h => upd_dom a h, fun a h h' => absurd h h'⟩
theorem Sto.new (s : Sto K T hid H M) {p : Addr} {o : HO} (hp : H p = none) : Sto K T hid (upd H p o) M := by
  refine ⟨fun a m h => ?_, fun P hP => ?_, fun a ha => ?_⟩
  · have hne : a ≠ p := by rintro rfl; rw [(s.fresh hp).1] at h; cases h
    exact (s.mem a m h).ext (Ext.new s hp) (upd_ne hne)
  · exact (s.tab P hP).upd0 hp
  · obtain ⟨h1, h2⟩ := s.hidn a ha
    refine ⟨h1, ?_⟩
    by_cases e : a = p
    · subst e; exact absurd hp h2
    · rw [upd_ne e]; exact h2
theorem new_tup {Q : D → Mu → Prop} {Qv : VK} (s : Sto K T hid H M) (po : Pst K T hid H M Q Qv) {xs : List V} {ds : List D} (r : Rvs K hid H M xs ds) (q : Q (.tup ds) M) : NewT H Qv xs := fun p o hp hd =>
  po _ _ _ _ (s.new hp) (Ext.new s hp) (.tup (.inl (.inr ⟨o, upd_same⟩)) ((Ext.new s hp).rvs _ _ r) ⟨o, _, upd_same, hd⟩) q
theorem new_lst {Q : D → Mu → Prop} {Qv : VK} (s : Sto K T hid H M) (po : Pst K T hid H M Q Qv) {xs : List V} {ds : List D} (r : Rvs K hid H M xs ds) {p : Addr} (hp : H p = none) (q : Q (.lst ds) M) : Qv (.ref p) (upd H p (.lst xs)) :=
  po _ _ _ _ (s.new hp) (Ext.new s hp) (.lst (.inl ⟨upd_same, s.fresh hp⟩) ((Ext.new s hp).rvs _ _ r)) q
/-- a new list that is to be written -/
theorem Ext.own (s : Sto K T hid H M) {p : Addr} {m : MO} {o : HO} (hp : H p = none) : Ext hid H M (upd H p o) (mset M p m) :=
  ⟨fun a xs h => by rw [upd_ne (ne_of_none h hp)]; exact h, fun a o u h => by rw [upd_ne (ne_of_none h hp)]; exact h,
   fun a xs h h' z => ⟨by rw [upd_ne (ne_of_none h hp)]; exact h, by rw [mset_ne (ne_of_none h hp)]; exact h'⟩, fun a ha xs h => by rw [upd_ne (ne_of_none h hp)]; exact h, fun a h => upd_dom a h, fun a h h' => by
    by_cases q : a = p
    · rw [q]; exact hp
    · rw [mset_ne q] at h'; exact absurd h h'⟩
theorem Sto.own (s : Sto K T hid H M) {p : Addr} {xs : List V} {ds : List D} (hp : H p = none) (r : Rvs K hid H M xs ds) : Sto K T hid (upd H p (.lst xs)) (mset M p (.lst ds)) := by
  have e := Ext.own (m := .lst ds) (o := .lst xs) s hp
  refine ⟨fun a m h => ?_, fun P hP => ?_, fun a ha => ?_⟩
  · by_cases hne : a = p
    · subst hne; rw [sf] at h; cases h
      exact ⟨xs, upd_same, e.rvs _ _ r⟩
    · rw [mset_ne hne] at h
      exact (s.mem a m h).ext e (upd_ne hne)
  · exact (s.tab P hP).upd0 hp
  · obtain ⟨h1, h2⟩ := s.hidn a ha
    have hne : a ≠ p := by rintro rfl; exact h2 hp
    exact ⟨by rw [mset_ne hne]; exact h1, by rw [upd_ne hne]; exact h2⟩
/-- a list that is written is not written any more -/
theorem Ext.frees (hne : M ≠ M ∨ True) {p : Addr} : Ext hid H M H (mdel M p) :=
  ⟨fun _ _ h => h, fun _ _ _ h => h, fun a xs h h' _ => ⟨h, by unfold mdel; split <;> first | rfl | exact h'⟩, fun _ _ _ h => h, fun _ h => h, fun a h h' => absurd (by unfold mdel; split <;> first | rfl | exact h) h'⟩
theorem Sto.frees (s : Sto K T hid H M) (p : Addr) : Sto K T hid H (mdel M p) := by
  have e : Ext hid H M H (mdel M p) := Ext.frees (.inr trivial)
  refine ⟨fun a m h => ?_, s.tab, fun a ha => ?_⟩
  · have hne : a ≠ p := by rintro rfl; rw [mdel_same] at h; cases h
    rw [mdel_ne hne] at h
    exact (s.mem a m h).ext e rfl
  · obtain ⟨h1, h2⟩ := s.hidn a ha
    exact ⟨by unfold mdel; split <;> first | rfl | exact h1, h2⟩
/-- a list is written -/
theorem Sto.at (s : Sto K T hid H M) {p : Addr} {ds : List D} (h : M p = some (.lst ds)) : ∃ xs, H p = some (.lst xs) ∧ Rvs K hid H M xs ds ∧ p ∉ hid := by
  obtain ⟨xs, h1, h2⟩ := s.mem p _ h
  exact ⟨xs, h1, h2, fun z => by rw [(s.hidn p z).1] at h; cases h⟩
theorem Ext.wr (s : Sto K T hid H M) {p : Addr} {ds es : List D} {xs : List V} (h : M p = some (.lst ds)) : Ext hid H M (upd H p (.lst xs)) (mset M p (.lst es)) := by
  obtain ⟨ys, h1, _, h3⟩ := s.at h
  refine ⟨fun a zs q => ?_, fun a o u q => ?_, fun a zs q q' z => ?_, fun a ha xs q => ?_, fun a h => upd_dom a h, fun a q q' => by
    by_cases z : a = p
    · rw [z, h] at q; cases q
    · rw [mset_ne z] at q'; exact absurd q q'⟩
  · rw [upd_ne (by rintro rfl; rw [h1] at q; cases q)]; exact q
  · rw [upd_ne (by rintro rfl; rw [h1] at q; cases q)]; exact q
  · have hne : a ≠ p := by rintro rfl; rw [h] at q'; cases q'
    exact ⟨by rw [upd_ne hne]; exact q, by rw [mset_ne hne]; exact q'⟩
  · rw [upd_ne (by rintro rfl; exact h3 ha)]; exact q
theorem Sto.wr (s : Sto K T hid H M) {p : Addr} {ds es : List D} {xs : List V} (h : M p = some (.lst ds)) (r : Rvs K hid H M xs es) : Sto K T hid (upd H p (.lst xs)) (mset M p (.lst es)) := by
  have e := Ext.wr (es := es) (xs := xs) s h
  obtain ⟨ys, h1, _, h3⟩ := s.at h
  refine ⟨fun a m q => ?_, fun P hP => ?_, fun a ha => ?_⟩
  · by_cases hne : a = p
    · subst hne; rw [sf] at q; cases q
      exact ⟨xs, upd_same, e.rvs _ _ r⟩
    · rw [mset_ne hne] at q
      exact (s.mem a m q).ext e (upd_ne hne)
  · exact (s.tab P hP).upd fun u e => by rw [h1] at e; cases e; exact ⟨fun _ z => (nomatch z), fun _ _ z => (nomatch z)⟩
  · obtain ⟨h4, h5⟩ := s.hidn a ha
    have hne : a ≠ p := by rintro rfl; exact h3 ha
    exact ⟨by rw [mset_ne hne]; exact h4, by rw [upd_ne hne]; exact h5⟩
end

/-! ### names, constants -/
def fNm (i : Nat) : FE := fun _ ρ M Q => match ρ[i]? with
  | some (some d) => Q d M
  | _ => False
def fC (d : D) : FE := fun _ _ M Q => Q d M
section
variable {X : Cx} {T : List Addr} {W : WX}
theorem DE.mk {e : Expr} {t : TE} {f : FE} (h : PE X e t) (s : ESim X.K T W t f) : DE X T W e f := ⟨t, h, s⟩
theorem de_nm (i : Nat) {x : Str} {pos : Pos} (hN : X.N[i]? = some x) (hv : Vis X.env.scope x) (hd : (x == ("__debug__" : Str)) = false) (hcd : (x == ("__classdict__" : Str)) = false) : DE X T W (.Name x pos) (fNm i) := by
  refine ⟨_, pe_var hN hv hd hcd, fun hid σ H ρ M xw Q Qv r s w q p => ?_⟩
  unfold fNm at q
  split at q
  · rename_i d e
    obtain ⟨v, h1, h2⟩ := r.2 i d e
    exact ⟨v, h1, p v H d M s (Ext.refl _ _ _) h2 q⟩
  · exact q.elim
theorem de_int {i : Int} {j : Nat} {pos : Pos} : DE X T W (.Constant (.int i) j pos) (fC (.int i)) := ⟨_, pe_int, fun hid σ H ρ M xw Q Qv r s w q p => p _ H _ M s (Ext.refl _ _ _) (.int i) q⟩
theorem de_bl {b : Bool} {j : Nat} {pos : Pos} : DE X T W (.Constant (.bool b) j pos) (fC (.bl b)) := ⟨_, pe_bl, fun hid σ H ρ M xw Q Qv r s w q p => p _ H _ M s (Ext.refl _ _ _) (.bl b) q⟩
theorem de_non {j : Nat} {pos : Pos} : DE X T W (.Constant .none j pos) (fC .non) := ⟨_, pe_non, fun hid σ H ρ M xw Q Qv r s w q p => p _ H _ M s (Ext.refl _ _ _) .non q⟩
theorem de_str {x : Str} {j : Nat} {pos : Pos} : DE X T W (.Constant (.str x) j pos) (fC (.str x)) := ⟨_, pe_str, fun hid σ H ρ M xw Q Qv r s w q p => p _ H _ M s (Ext.refl _ _ _) (.str x) q⟩
/-- a module's whole number -/
theorem de_gint {i : Int} {t : Tok} {x : Str} {pos : Pos} (hg : Gl X x) (hm : X.mg x = some (.int i t)) (hd : (x == ("__debug__" : Str)) = false) : DE X T W (.Name x pos) (fC (.int i)) :=
  ⟨_, pe_glob (v := .int i) hg hm ⟨t, rfl⟩ hd, fun hid σ H ρ M xw Q Qv r s w q p => p _ H _ M s (Ext.refl _ _ _) (.int i) q⟩

/-! ### two values -/
abbrev G2 := D → D → Mu → (D → Mu → Prop) → Prop
def OSim (K : PySem.W.Frag) (T : List Addr) (r : R2) (g : G2) : Prop :=
  ∀ hid H M x y v w Q Qv, Sto K T hid H M → Rv K hid H M v x → Rv K hid H M w y → g x y M Q → Pst K T hid H M Q Qv → r v w H Qv
def fOp (g : G2) (fa fb : FE) : FE := fun xw ρ M Q => fa xw ρ M fun x M1 => fb xw ρ M1 fun y M2 => g x y M2 Q
theorem sim_op {K : PySem.W.Frag} {r : R2} {g : G2} {ta tb : TE} {fa fb : FE} (o : OSim K T r g) (a : ESim K T W ta fa) (b : ESim K T W tb fb) : ESim K T W (tOp r ta tb) (fOp g fa fb) := by
  intro hid σ H ρ M xw Q Qv r s w q p
  refine a hid σ H ρ M xw _ _ r s w q fun v H1 d M1 s1 e1 r1 q1 => ?_
  refine b hid σ H1 ρ M1 xw _ _ (r.ext e1) s1 (w.ext e1) q1 fun u H2 d2 M2 s2 e2 r2 q2 => ?_
  exact o hid H2 M2 d d2 v u Q Qv s2 (e2.rv _ _ r1) r2 q2 (p.ext (e1.trans e2))
theorem de_bin {op : Operator} {r : R2} {g : G2} {a b : Expr} {fa fb : FE} {pos : Pos} (ho : OpR X (binaryOp op) r) (o : OSim X.K T r g) (ha : DE X T W a fa) (hb : DE X T W b fb) : DE X T W (.BinOp a op b pos) (fOp g fa fb) := by
  obtain ⟨ta, pa, sa⟩ := ha
  obtain ⟨tb, pb, sb⟩ := hb
  exact ⟨_, pe_op ho pa pb, sim_op o sa sb⟩
theorem de_cmp {op : CmpOp} {r : R2} {g : G2} {a b : Expr} {fa fb : FE} {pos : Pos} (ho : OpR X (compareOp op) r) (o : OSim X.K T r g) (hm : behindInMarks op b = false) (ha : DE X T W a fa) (hb : DE X T W b fb) : DE X T W (.Compare a [op] [b] pos) (fOp g fa fb) := by
  obtain ⟨ta, pa, sa⟩ := ha
  obtain ⟨tb, pb, sb⟩ := hb
  exact ⟨_, pe_cmpR ho pa pb hm, sim_op o sa sb⟩
theorem de_ix {r : R2} {g : G2} {a b : Expr} {fa fb : FE} {pos : Pos} (ho : IxR X r) (o : OSim X.K T r g) (hs : PlainIx b) (ha : DE X T W a fa) (hb : DE X T W b fb) : DE X T W (.Subscript a b pos) (fOp g fa fb) := by
  obtain ⟨ta, pa, sa⟩ := ha
  obtain ⟨tb, pb, sb⟩ := hb
  exact ⟨_, pe_ix ho pa pb hs, sim_op o sa sb⟩

/-! ### tests -/
def fB (f : FE) : FT := fun xw ρ M Q => f xw ρ M fun d M1 => match d with
  | .bl b => Q b M1
  | _ => False
theorem simT_of {K : PySem.W.Frag} {t : TE} {f : FE} (h : ESim K T W t f) : TSim K T W (tTest t) (fB f) := by
  intro hid σ H ρ M xw Q Qv r s w q p
  refine h hid σ H ρ M xw _ _ r s w q fun v H1 d M1 s1 e1 r1 q1 => ?_
  cases d with
  | bl b => cases r1; exact ⟨b, rfl, p b H1 M1 s1 e1 q1⟩
  | _ => exact (show False from q1).elim
theorem dt_cmp {op : CmpOp} {r : R2} {g : G2} {a b : Expr} {fa fb : FE} {pos : Pos} (ho : OpR X (compareOp op) r) (o : OSim X.K T r g) (hm : behindInMarks op b = false) (ha : DE X T W a fa) (hb : DE X T W b fb) : DT X T W (.Compare a [op] [b] pos) (fB (fOp g fa fb)) := by
  obtain ⟨ta, pa, sa⟩ := ha
  obtain ⟨tb, pb, sb⟩ := hb
  exact ⟨_, pt_cmpR ho pa pb hm, simT_of (sim_op o sa sb)⟩
/-- by truth -/
def trD (M : Mu) (d : D) (Q : Bool → Prop) : Prop := match d with
  | .non => Q false
  | .bl b => Q b
  | .int i => Q (i != 0)
  | .tup ds => Q (!ds.isEmpty)
  | .lst ds => Q (!ds.isEmpty)
  | .loc a => (match M a with
    | some (.lst ds) => Q (!ds.isEmpty)
    | _ => False)
  | .str x => x.length ≤ sizeLine ∧ Q ((x.length : Int) != 0)
  | .ty _ => False
def fTr (f : FE) : FT := fun xw ρ M Q => f xw ρ M fun d M1 => trD M1 d fun b => Q b M1
theorem Rvs.isEmpty {K : PySem.W.Frag} {hid : List Addr} {H : Hp} {M : Mu} {xs : List V} {ds : List D} (r : Rvs K hid H M xs ds) : xs.isEmpty = ds.isEmpty := by cases r <;> rfl
theorem truV_of {K : PySem.W.Frag} {hid : List Addr} {H : Hp} {M : Mu} {v : V} {d : D} {Q : Bool → Prop} (s : Sto K T hid H M) (r : Rv K hid H M v d) (q : trD M d Q) : ∃ k, TruV K v H k ∧ Q k := by
  cases d with
  | non => cases r; exact ⟨false, rfl, q⟩
  | bl b => cases r; exact ⟨b, rfl, q⟩
  | int i => cases r; exact ⟨_, rfl, q⟩
  | str x => cases r; exact ⟨_, ⟨q.1, rfl⟩, q.2⟩
  | tup ds =>
    cases r with
    | tup h r => exact ⟨_, .inr (.inl ⟨_, h, rfl⟩), by rw [r.isEmpty]; exact q⟩
  | lst ds =>
    cases r with
    | lst h r => exact ⟨_, .inl ⟨_, h.sq, rfl⟩, by rw [r.isEmpty]; exact q⟩
  | loc a =>
    cases r
    unfold trD at q
    dsimp only at q
    split at q
    · rename_i ds e
      obtain ⟨xs, h1, h2, _⟩ := s.at e
      exact ⟨_, .inl ⟨xs, SqL.of h1, rfl⟩, by rw [h2.isEmpty]; exact q⟩
    · exact q.elim
  | ty n => exact (show False from q).elim
theorem dt_tr {e : Expr} {f : FE} (h : DE X T W e f) (he : ∀ whole, isTrue e X.env whole = (do let v ← whole; standAt e.pos; holding [v] (truthy v))) : DT X T W e (fTr f) := by
  obtain ⟨t, pa, sa⟩ := h
  refine ⟨_, pt_truth pa he, fun hid σ H ρ M xw Q Qv r s w q p => ?_⟩
  refine sa hid σ H ρ M xw _ _ r s w q fun v H1 d M1 s1 e1 r1 q1 => ?_
  obtain ⟨k, h1, h2⟩ := truV_of s1 r1 q1
  exact ⟨k, h1, p k H1 M1 s1 e1 h2⟩
def fAnd (f g : FT) : FT := fun xw ρ M Q => f xw ρ M fun c M1 => if c = true then g xw ρ M1 Q else Q false M1
def fOr (f g : FT) : FT := fun xw ρ M Q => f xw ρ M fun c M1 => if c = true then Q true M1 else g xw ρ M1 Q
def fNot (f : FT) : FT := fun xw ρ M Q => f xw ρ M fun c M1 => Q (!c) M1
theorem dw_or1 {a : Expr} {f : FT} {pos : Pos} (h : DT X T W a f) : DW X T W (.BoolOp .Or [a] pos) f := let ⟨t, p, s⟩ := h; ⟨t, pw_or1 p, s⟩
theorem dw_or {a b : Expr} {rest : List Expr} {f g : FT} {pos : Pos} (h : DT X T W a f) (h2 : DW X T W (.BoolOp .Or (b :: rest) pos) g) : DW X T W (.BoolOp .Or (a :: b :: rest) pos) (fOr f g) := by
  obtain ⟨t, p, sa⟩ := h
  obtain ⟨u, p2, sb⟩ := h2
  refine ⟨_, pw_or p p2, fun hid σ H ρ M xw Q Qv r s w q p => ?_⟩
  refine sa hid σ H ρ M xw _ _ r s w q fun c H1 M1 s1 e1 q1 => ?_
  cases c with
  | false => exact sb hid σ H1 ρ M1 xw Q Qv (r.ext e1) s1 (w.ext e1) q1 fun b H2 M2 s2 e2 => p b H2 M2 s2 (e1.trans e2)
  | true => exact p true H1 M1 s1 e1 q1
theorem DW.dt {e : Expr} {f : FT} (h : DW X T W e f) : DT X T W e f := let ⟨t, p, s⟩ := h; ⟨t, p.pt, s⟩
theorem dt_not {a : Expr} {f : FT} {pos : Pos} (h : DT X T W a f) : DT X T W (.UnaryOp .Not a pos) (fNot f) := by
  obtain ⟨t, p, sa⟩ := h
  exact ⟨_, pt_not p, fun hid σ H ρ M xw Q Qv r s w q p => sa hid σ H ρ M xw _ _ r s w q fun c H1 M1 s1 e1 q1 => p _ H1 M1 s1 e1 q1⟩
/-- and, or, not as values; of bools -/
def fAndV (f g : FE) : FE := fun xw ρ M Q => f xw ρ M fun d M1 => match d with
  | .bl b => if b = true then g xw ρ M1 Q else Q (.bl false) M1
  | _ => False
def fOrV (f g : FE) : FE := fun xw ρ M Q => f xw ρ M fun d M1 => match d with
  | .bl b => if b = true then Q (.bl true) M1 else g xw ρ M1 Q
  | _ => False
def fNotV (f : FE) : FE := fun xw ρ M Q => f xw ρ M fun d M1 => match d with
  | .bl b => Q (.bl (!b)) M1
  | _ => False
theorem de_one {op : BoolOp} {a : Expr} {f : FE} {pos : Pos} (h : DE X T W a f) : DE X T W (.BoolOp op [a] pos) f := let ⟨t, p, s⟩ := h; ⟨t, pe_one p, s⟩
theorem de_and {a b : Expr} {rest : List Expr} {f g : FE} {pos : Pos} (h : DE X T W a f) (h2 : DE X T W (.BoolOp .And (b :: rest) pos) g) : DE X T W (.BoolOp .And (a :: b :: rest) pos) (fAndV f g) := by
  obtain ⟨t, p, sa⟩ := h
  obtain ⟨u, p2, sb⟩ := h2
  refine ⟨_, pe_and p p2, fun hid σ H ρ M xw Q Qv r s w q p => ?_⟩
  refine sa hid σ H ρ M xw _ _ r s w q fun v H1 d M1 s1 e1 r1 q1 => ?_
  cases d with
  | bl c =>
    cases r1
    refine ⟨c, rfl, ?_⟩
    cases c with
    | true => exact sb hid σ H1 ρ M1 xw Q Qv (r.ext e1) s1 (w.ext e1) q1 (p.ext e1)
    | false => exact p _ H1 _ M1 s1 e1 (.bl false) q1
  | _ => exact (show False from q1).elim
def fIf (c : FT) (f g : FE) : FE := fun xw ρ M Q => c xw ρ M fun b M1 => if b = true then f xw ρ M1 Q else g xw ρ M1 Q
/-! ### arguments and displays -/
def fNil : FA := fun _ _ M Q => Q [] M
def fCons (f : FE) (g : FA) : FA := fun xw ρ M Q => f xw ρ M fun d M1 => g xw ρ M1 fun ds M2 => Q (d :: ds) M2
theorem da_nil : DA X T W [] fNil := ⟨_, pa_nil, fun hid σ H ρ M xw Q Qv r s w q p => p _ H _ M s (Ext.refl _ _ _) .nil q⟩
theorem da_cons {e : Expr} {es : List Expr} {f : FE} {g : FA} (h : DE X T W e f) (h2 : DA X T W es g) (hs : starEach (e :: es) X.env = (false, eval e X.env) :: starEach es X.env) : DA X T W (e :: es) (fCons f g) := by
  obtain ⟨t, p, sa⟩ := h
  obtain ⟨u, p2, sb⟩ := h2
  refine ⟨_, pa_cons p p2 hs, fun hid σ H ρ M xw Q Qv r s w q p => ?_⟩
  refine sa hid σ H ρ M xw _ _ r s w q fun v H1 d M1 s1 e1 r1 q1 => ?_
  refine sb hid σ H1 ρ M1 xw _ _ (r.ext e1) s1 (w.ext e1) q1 fun vs H2 ds M2 s2 e2 r2 q2 => ?_
  exact p _ H2 _ M2 s2 (e1.trans e2) (.cons (e2.rv _ _ r1) r2) q2
def fTup (g : FA) : FE := fun xw ρ M Q => g xw ρ M fun ds M1 => ds.length ≤ sizeLine ∧ Q (.tup ds) M1
theorem de_tup {es : List Expr} {k : Nat} {g : FA} {pos : Pos} (h : DA X T W es g) : DE X T W (.Tuple es k pos) (fTup g) := by
  obtain ⟨t, p, sa⟩ := h
  refine ⟨_, pe_tupF p, fun hid σ H ρ M xw Q Qv r s w q p => ?_⟩
  refine sa hid σ H ρ M xw _ _ r s w q fun vs H1 ds M1 s1 e1 r1 q1 => ?_
  exact ⟨by rw [r1.length]; exact q1.1, new_tup s1 (p.ext e1) r1 q1.2⟩
end
end U

set_option Elab.async false
set_option linter.all false
set_option maxRecDepth 100000
set_option maxHeartbeats 1000000
/-! U3: operators by data. -/
namespace U
open PySem PySem.Spec PyProof.Rows L2

/-- the items of a list | tuple, read at its place -/
def lstOf (M : Mu) : D → Option (List D)
  | .lst ds => some ds
  | .loc a => (match M a with
    | some (.lst ds) => some ds
    | _ => none)
  | _ => none
/-- a list that is written, as it stands -/
def rsv (M : Mu) : D → D
  | .loc a => (match M a with
    | some (.lst ds) => .lst ds
    | _ => .loc a)
  | d => d
section
variable {K : PySem.W.Frag} {T hid : List Addr} {H : Hp} {M : Mu}
theorem lstOf_ok (s : Sto K T hid H M) {v : V} {d : D} {ds : List D} (r : Rv K hid H M v d) (e : lstOf M d = some ds) : ∃ a xs, v = .ref a ∧ SqL K H a xs ∧ Rvs K hid H M xs ds := by
  cases d with
  | lst es =>
    cases e
    cases r with
    | lst h r => exact ⟨_, _, rfl, h.sq, r⟩
  | loc a =>
    cases r
    unfold lstOf at e
    dsimp only at e
    split at e
    · rename_i es q
      cases e
      obtain ⟨xs, h1, h2, _⟩ := s.at q
      exact ⟨a, xs, rfl, SqL.of h1, h2⟩
    · cases e
  | _ => cases e
theorem rsv_dp (s : Sto K T hid H M) {v : V} {d : D} (r : Rv K hid H M v d) (h : dle 60 (rsv M d) = true) : Dp K H v (rsv M d).pd := by
  cases d with
  | loc a =>
    cases r
    unfold rsv at h ⊢
    dsimp only at h ⊢
    split at h
    · rename_i es q
      obtain ⟨xs, h1, h2, _⟩ := s.at q
      exact .lst (SqL.of h1) (Rvs.dp es 59 xs (by simpa only [dle] using h) h2)
    · simp [dle] at h
  | _ => exact r.dp _ _ _ h
end

/-! ### arithmetic -/
section
variable {X : Cx} {T : List Addr} {W : WX}
def rCatL (K : PySem.W.Frag) : R2 := fun x y H Q => ∃ l b xs zs, x = .ref l ∧ y = .ref b ∧ SqL K H l xs ∧ SqL K H b zs ∧ xs.length + zs.length ≤ sizeLine ∧ ∀ p, H p = none → Q (.ref p) (upd H p (.lst (xs ++ zs)))
theorem op_catL : OpR X (binaryOp .Add) (rCatL X.K) := by
  intro pins s σ H x y v u Q I rx ry h
  obtain ⟨l, b, xs, zs, rfl, rfl, hH, hB, hz, q⟩ := h
  cases rx
  cases ry
  obtain ⟨its, r, ⟨⟨cls, dd, data, sl⟩, n, ho, hc, hdn, hd⟩, z⟩ := I.list hH
  obtain ⟨its2, r2, ⟨⟨cls2, dd2, data2, sl2⟩, n2, ho2, hc2, hdn2, hd2⟩, z2⟩ := I.list hB
  simp only at hc hdn hd hc2 hdn2 hd2
  subst hc hdn hd hc2 hdn2 hd2
  have hl := r.length
  have hl2 := r2.length
  have ea : its.toArray ++ its2.toArray = (its ++ its2).toArray := by simp
  refine concat_meets ⟨_, ho, rfl⟩ ⟨_, ho2, rfl⟩ noFill_list_add seq_list_add PySem.F.slot_list_add PySem.F.entry_list_add (PySem.F.args_list_add_2 _ _) (list_addW l b its.toArray its2.toArray n n2 none none sl sl2 (by rw [List.size_toArray, List.size_toArray]; omega)) ⟨ho, ho2, ?_⟩
  rw [ea]
  exact ⟨.ref _, _, I.lnew (t' := s.toks) (r.append r2) (by rw [List.length_append]; omega), rfl, q _ I.fresh⟩
def rAddA (K : PySem.W.Frag) : R2 := fun x y H Q => rI0 (fun i j => .int (i + j)) x y H Q ∨ (rCatF K x y H Q ∨ (rCatL K x y H Q ∨ (∃ i j, x = .str i ∧ y = .str j ∧ i.length + j.length ≤ sizeLine ∧ Q (.str (i ++ j)) H)))
theorem op_addA : OpR X (binaryOp .Add) (rAddA X.K) := op_add.or (op_catF.or (op_catL.or op_add_str))
def gAdd : G2 := fun x y M Q => match x, y with
  | .int i, .int j => Q (.int (i + j)) M
  | .tup a, .tup b => a.length + b.length ≤ sizeLine ∧ Q (.tup (a ++ b)) M
  | .str i, .str j => i.length + j.length ≤ sizeLine ∧ Q (.str (i ++ j)) M
  | x, y => (match lstOf M x, lstOf M y with
    | some a, some b => a.length + b.length ≤ sizeLine ∧ Q (.lst (a ++ b)) M
    | _, _ => False)
theorem o_add {K : PySem.W.Frag} : OSim K T (rAddA K) gAdd := by
  intro hid H M x y v w Q Qv s r1 r2 q p
  unfold gAdd at q
  split at q
  · cases r1; cases r2
    exact .inl ⟨_, _, rfl, rfl, p _ H _ M s (Ext.refl _ _ _) (.int _) q⟩
  · rename_i a b
    cases r1 with
    | tup h1 k1 =>
      cases r2 with
      | tup h2 k2 =>
        rename_i p1 xs _ p2 ys _
        have l1 := k1.length
        have l2 := k2.length
        refine .inr (.inl ⟨_, _, _, _, rfl, rfl, h1, h2, by omega, fun e => ?_, fun _ e => ?_, fun _ _ => new_tup s p (k1.append k2) q.2⟩)
        · subst e
          cases k1
          exact p _ H _ M s (Ext.refl _ _ _) (.tup h2 k2) (by simpa using q.2)
        · subst e
          cases k2
          exact p _ H _ M s (Ext.refl _ _ _) (.tup h1 k1) (by simpa using q.2)
  · cases r1; cases r2
    exact .inr (.inr (.inr ⟨_, _, rfl, rfl, q.1, p _ H _ M s (Ext.refl _ _ _) (.str _) q.2⟩))
  · split at q
    · rename_i a b e1 e2
      obtain ⟨l, xs, rfl, h1, k1⟩ := lstOf_ok s r1 e1
      obtain ⟨l2, ys, rfl, h2, k2⟩ := lstOf_ok s r2 e2
      have i1 := k1.length
      have i2 := k2.length
      exact .inr (.inr (.inl ⟨_, _, _, _, rfl, rfl, h1, h2, by omega, fun c hc => new_lst s p (k1.append k2) hc q.2⟩))
    · exact q.elim
/-- two ints -/
def gI (C : Int → Int → Prop) (g : Int → Int → D) : G2 := fun x y M Q => match x, y with
  | .int i, .int j => C i j ∧ Q (g i j) M
  | _, _ => False
def gI0 (g : Int → Int → D) : G2 := fun x y M Q => match x, y with
  | .int i, .int j => Q (g i j) M
  | _, _ => False
theorem o_I {K : PySem.W.Frag} {C : Int → Int → Prop} {gv : Int → Int → V} {g : Int → Int → D} (h : ∀ hid H M i j, Rv K hid H M (gv i j) (g i j)) : OSim K T (rI C gv) (gI C g) := by
  intro hid H M x y v w Q Qv s r1 r2 q p
  unfold gI at q
  split at q
  · cases r1; cases r2
    exact ⟨_, _, rfl, rfl, q.1, p _ H _ M s (Ext.refl _ _ _) (h _ _ _ _ _) q.2⟩
  · exact q.elim
theorem o_I0 {K : PySem.W.Frag} {gv : Int → Int → V} {g : Int → Int → D} (h : ∀ hid H M i j, Rv K hid H M (gv i j) (g i j)) : OSim K T (rI0 gv) (gI0 g) := by
  intro hid H M x y v w Q Qv s r1 r2 q p
  unfold gI0 at q
  split at q
  · cases r1; cases r2
    exact ⟨_, _, rfl, rfl, p _ H _ M s (Ext.refl _ _ _) (h _ _ _ _ _) q⟩
  · exact q.elim
abbrev gSub : G2 := gI0 fun i j => .int (i - j)
abbrev gFdiv : G2 := gI CDivW fun i j => .int (i / j)
abbrev gMod : G2 := gI (fun _ j => 0 < j) fun i j => .int (i % j)
abbrev gPow : G2 := gI CPow fun i j => .int (i ^ j.toNat)
abbrev gLt : G2 := gI0 fun i j => .bl (decide (i < j))
abbrev gLe : G2 := gI0 fun i j => .bl (decide (i ≤ j))
abbrev gGt : G2 := gI0 fun i j => .bl (decide (j < i))
abbrev gGe : G2 := gI0 fun i j => .bl (decide (j ≤ i))
theorem o_sub {K : PySem.W.Frag} : OSim K T (rI0 fun i j => .int (i - j)) gSub := o_I0 fun _ _ _ _ _ => .int _
theorem o_fdiv {K : PySem.W.Frag} : OSim K T (rI CDivW fun i j => .int (i / j)) gFdiv := o_I fun _ _ _ _ _ => .int _
theorem o_mod {K : PySem.W.Frag} : OSim K T (rI (fun _ j => 0 < j) fun i j => .int (i % j)) gMod := o_I fun _ _ _ _ _ => .int _
theorem o_pow {K : PySem.W.Frag} : OSim K T (rI CPow fun i j => .int (i ^ j.toNat)) gPow := o_I fun _ _ _ _ _ => .int _
theorem o_lt {K : PySem.W.Frag} : OSim K T (rI0 fun i j => .bl (decide (i < j))) gLt := o_I0 fun _ _ _ _ _ => .bl _
theorem o_le {K : PySem.W.Frag} : OSim K T (rI0 fun i j => .bl (decide (i ≤ j))) gLe := o_I0 fun _ _ _ _ _ => .bl _
theorem o_gt {K : PySem.W.Frag} : OSim K T (rI0 fun i j => .bl (decide (j < i))) gGt := o_I0 fun _ _ _ _ _ => .bl _
theorem o_ge {K : PySem.W.Frag} : OSim K T (rI0 fun i j => .bl (decide (j ≤ i))) gGe := o_I0 fun _ _ _ _ _ => .bl _
/-- a product: of ints; of a tuple and an int -/
def rMulA (K : PySem.W.Frag) : R2 := fun x y H Q => rI CMul (fun i j => .int (i * j)) x y H Q ∨ (rI CMulW (fun i j => .int (i * j)) x y H Q ∨ (rRepF K x y H Q ∨ (rRepE K x y H Q ∨ rRepZ K x y H Q)))
theorem op_mulA : OpR X (binaryOp .Mult) (rMulA X.K) := op_mul.or (op_mulW.or (op_repF.or (op_repE.or op_repZ)))
def gMul : G2 := fun x y M Q => match x, y with
  | .int i, .int j => (CMul i j ∨ CMulW i j) ∧ Q (.int (i * j)) M
  | .tup a, .int k => 0 ≤ k ∧ k ≤ 1000 ∧ a.length ≤ 1000 ∧ Q (.tup (List.replicate k.toNat a).flatten) M
  | _, _ => False
theorem o_mul {K : PySem.W.Frag} : OSim K T (rMulA K) gMul := by
  intro hid H M x y v w Q Qv s r1 r2 q p
  unfold gMul at q
  split at q
  · cases r1; cases r2
    have q2 := p _ H _ M s (Ext.refl _ _ _) (.int _) q.2
    rcases q.1 with q1 | q1
    · exact .inl ⟨_, _, rfl, rfl, q1, q2⟩
    · exact .inr (.inl ⟨_, _, rfl, rfl, q1, q2⟩)
  · cases r2
    cases r1 with
    | tup h1 k1 =>
      have l1 := k1.length
      obtain ⟨q1, q2, q3, q4⟩ := q
      rename_i a k _ _ _
      by_cases he : a = [] ∨ k = 1
      · have e : (List.replicate k.toNat a).flatten = a := by
          rcases he with rfl | rfl
          · rw [List.flatten_eq_nil_iff]
            exact fun l hl => (List.mem_replicate.mp hl).2
          · show (List.replicate 1 a).flatten = a
            rw [List.replicate_one, List.flatten_singleton]
        rw [e] at q4
        refine .inr (.inr (.inr (.inl ⟨_, _, _, rfl, rfl, h1, ?_, q1, q2, p _ H _ M s (Ext.refl _ _ _) (.tup h1 k1) q4⟩)))
        rcases he with rfl | rfl
        · cases k1
          exact .inl rfl
        · exact .inr rfl
      · by_cases hz : k = 0
        · subst hz
          refine .inr (.inr (.inr (.inr ⟨_, _, _, rfl, rfl, h1, fun e => he (.inl ?_), rfl, new_tup s p .nil q4⟩)))
          subst e
          cases k1
          rfl
        have q1' : 2 ≤ k := by
          have : k ≠ 1 := fun e => he (.inr e)
          omega
        refine .inr (.inr (.inl ⟨_, _, _, rfl, rfl, h1, fun e => he (.inl ?_), q1', q2, by rw [l1]; exact q3, new_tup s p (k1.rep _) q4⟩))
        subst e
        cases k1
        rfl
  · exact q.elim
def fNeg (f : FE) : FE := fun xw ρ M Q => f xw ρ M fun d M1 => match d with
  | .int i => Q (.int (-i)) M1
  | _ => False
theorem de_neg {a : Expr} {f : FE} {pos : Pos} (h : DE X T W a f) : DE X T W (.UnaryOp .USub a pos) (fNeg f) := by
  obtain ⟨t, pa, sa⟩ := h
  refine ⟨_, pe_un un_neg pa, fun hid σ H ρ M xw Q Qv r s w q p => ?_⟩
  refine sa hid σ H ρ M xw _ _ r s w q fun v H1 d M1 s1 e1 r1 q1 => ?_
  cases d with
  | int i => cases r1; exact ⟨i, rfl, p _ H1 _ M1 s1 e1 (.int _) q1⟩
  | _ => exact (show False from q1).elim

/-! ### equality, identity, membership -/
def gEq : G2 := fun x y M Q => dle 60 (rsv M x) = true ∧ dle 60 (rsv M y) = true ∧ Q (.bl (eqD (rsv M x) (rsv M y))) M
def gNe : G2 := fun x y M Q => dle 60 (rsv M x) = true ∧ dle 60 (rsv M y) = true ∧ Q (.bl (!eqD (rsv M x) (rsv M y))) M
theorem o_eq {K : PySem.W.Frag} : OSim K T (rEqD K) gEq := fun hid H M x y v w Q Qv s r1 r2 q p =>
  ⟨_, _, rsv_dp s r1 q.1, rsv_dp s r2 q.2.1, dle_shaped q.1, dle_shaped q.2.1, p _ H _ M s (Ext.refl _ _ _) (.bl _) q.2.2⟩
theorem o_ne {K : PySem.W.Frag} : OSim K T (rNeD K) gNe := fun hid H M x y v w Q Qv s r1 r2 q p =>
  ⟨_, _, rsv_dp s r1 q.1, rsv_dp s r2 q.2.1, dle_shaped q.1, dle_shaped q.2.1, p _ H _ M s (Ext.refl _ _ _) (.bl _) q.2.2⟩
def u3 : D → Bool
  | .non => true
  | _ => false
theorem isNon_of {K : PySem.W.Frag} {hid : List Addr} {H : Hp} {M : Mu} {v : V} {d : D} (r : Rv K hid H M v d) : decide (v = .non) = u3 d := by
  cases r <;> simp [u3]
def rNotA : R2 := fun x y H Q => (y = .non ∧ Q (.bl (!decide (x = .non))) H) ∨ rNotB x y H Q
theorem op_notA : OpR X (compareOp .IsNot) rNotA := op_notN.or op_notBl
def gIs : G2 := fun x y M Q => match y with
  | .non => Q (.bl (u3 x)) M
  | .bl b => (match x with
    | .bl a => Q (.bl (decide (a = b))) M
    | _ => False)
  | _ => False
def gIsNot : G2 := fun x y M Q => match y with
  | .non => Q (.bl (!u3 x)) M
  | .bl b => (match x with
    | .bl a => Q (.bl (!decide (a = b))) M
    | _ => False)
  | _ => False
theorem o_isNot {K : PySem.W.Frag} : OSim K T rNotA gIsNot := by
  intro hid H M x y v w Q Qv s r1 r2 q p
  unfold gIsNot at q
  split at q
  · cases r2
    exact .inl ⟨rfl, by rw [isNon_of r1]; exact p _ H _ M s (Ext.refl _ _ _) (.bl _) q⟩
  · cases r2
    split at q
    · cases r1
      exact .inr ⟨_, _, rfl, rfl, p _ H _ M s (Ext.refl _ _ _) (.bl _) q⟩
    · exact q.elim
  · exact q.elim
/-- x in a tuple or a list of data -/
def rInA (K : PySem.W.Frag) : R2 := fun x y H Q => rInD K x y H Q ∨ ∃ d ds, Dp K H x d ∧ Dp K H y (.tuple ds) ∧ SeqAt.shaped d = true ∧ SeqAt.shaped (.tuple ds) = true ∧ Q (.bl (ds.any fun z => PyData.eqv z d)) H
theorem op_inA (hu : X.A.units + 65 < cLine) : OpR X (compareOp .In) (rInA X.K) := by
  refine (op_inD hu).or ?_
  intro pins s σ H x y v u Q I rx ry h
  obtain ⟨d, ds, hd, he, sd, se, q⟩ := h
  obtain ⟨as, r1⟩ := Dp.reads I d x v hd rx
  obtain ⟨bs, r2⟩ := Dp.reads I (.tuple ds) y u he ry
  have hu' : X.A.units + 1 + min (PyData.depthAll ds) d.depth < cLine := by
    have h1 := SeqAt.depth_of_shaped sd
    have h2 : min (PyData.depthAll ds) d.depth ≤ d.depth := Nat.min_le_right _ _
    omega
  exact SeqAt.in_tuple_reads r2 r1 (SeqAt.canLay_of_shaped se) (SeqAt.canLay_of_shaped sd) hu' ⟨.bl _, H, I, rfl, q⟩
def seqOf (M : Mu) : D → Option (List D)
  | .tup ds => some ds
  | d => lstOf M d
theorem pds_any (x : D) : ∀ ds : List D, (D.pds ds).any (fun z => PyData.eqv z x.pd) = ds.any fun y => eqD y x
  | [] => rfl
  | d :: ds => by
    show (PyData.eqv d.pd x.pd || (D.pds ds).any _) = _
    rw [pds_any x ds]; rfl
def gInB (k : Bool) : G2 := fun x y M Q => match seqOf M y with
  | some ds => dle 60 (rsv M x) = true ∧ ds.all (dle 59) = true ∧ Q (.bl (if k then !ds.any (fun y => eqD y (rsv M x)) else ds.any fun y => eqD y (rsv M x))) M
  | none => False
abbrev gIn : G2 := gInB false
abbrev gNotIn : G2 := gInB true
theorem seq_dp {K : PySem.W.Frag} {hid : List Addr} {H : Hp} {M : Mu} (s : Sto K T hid H M) {v : V} {y : D} {ds : List D} (r : Rv K hid H M v y) (e : seqOf M y = some ds) (h : ds.all (dle 59) = true) :
    (Dp K H v (.tuple (D.pds ds)) ∧ SeqAt.shaped (.tuple (D.pds ds)) = true) ∨ (Dp K H v (.list (D.pds ds)) ∧ SeqAt.shaped (.list (D.pds ds)) = true) := by
  have h1 : dle 60 (.tup ds) = true := by simpa only [dle] using h
  have h2 : dle 60 (.lst ds) = true := by simpa only [dle] using h
  have k2 : ∀ e : lstOf M y = some ds, (Dp K H v (.list (D.pds ds)) ∧ SeqAt.shaped (.list (D.pds ds)) = true) := fun e => by
    obtain ⟨a, xs, rfl, h3, h4⟩ := lstOf_ok s r e
    exact ⟨.lst h3 (Rvs.dp ds 59 xs h h4), dle_shaped h2⟩
  cases y with
  | tup es =>
    cases e
    cases r with
    | tup h3 h4 => exact .inl ⟨.tup h3 (Rvs.dp ds 59 _ h h4), dle_shaped h1⟩
  | lst es => exact .inr (k2 e)
  | loc a => exact .inr (k2 e)
  | _ => cases e
theorem o_in {K : PySem.W.Frag} : OSim K T (rInA K) gIn := by
  intro hid H M x y v w Q Qv s r1 r2 q p
  unfold gIn gInB at q
  split at q
  · rename_i ds e
    obtain ⟨q1, q2, q3⟩ := q
    have q4 := p _ H _ M s (Ext.refl _ _ _) (.bl _) q3
    rcases seq_dp s r2 e q2 with ⟨h1, h2⟩ | ⟨h1, h2⟩
    · exact .inr ⟨_, _, rsv_dp s r1 q1, h1, dle_shaped q1, h2, by rw [pds_any]; exact q4⟩
    · exact .inl ⟨_, _, rsv_dp s r1 q1, h1, dle_shaped q1, h2, by rw [pds_any]; exact q4⟩
  · exact q.elim
/-! ### subscripts, slices -/
theorem Rvs.atI {K : PySem.W.Frag} {hid : List Addr} {H : Hp} {M : Mu} {xs : List V} {ds : List D} (r : Rvs K hid H M xs ds) {i : Int} {d : D} (e : L2.atI ds i = some d) : ∃ v, L2.atI xs i = some v ∧ Rv K hid H M v d := by
  unfold L2.atI at e ⊢
  rw [r.length]
  cases h : ixN ds.length i with
  | none => rw [h] at e; cases e
  | some j =>
    rw [h] at e
    obtain ⟨v, h1, h2⟩ := r.get j (d := d) e
    exact ⟨v, h1, h2⟩
def gIx : G2 := fun x y M Q => match y with
  | .int i => (match x with
    | .str z => z.length ≤ sizeLine ∧ (match L2.atI z.cps.toList i with
      | some c => Q (.str ⟨#[c]⟩) M
      | none => False)
    | x => (match seqOf M x with
      | some ds => (match L2.atI ds i with
        | some d => Q d M
        | none => False)
      | none => False))
  | _ => False
theorem o_ix {K : PySem.W.Frag} : OSim K T (rIx K) gIx := by
  intro hid H M x y v w Q Qv s r1 r2 q p
  unfold gIx at q
  split at q
  · rename_i i
    cases r2
    split at q
    · cases r1
      obtain ⟨q0, q⟩ := q
      split at q
      · rename_i c e
        exact .inr (.inr ⟨_, _, _, rfl, rfl, q0, e, p _ H _ M s (Ext.refl _ _ _) (.str _) q⟩)
      · exact q.elim
    · split at q
      · rename_i ds e
        split at q
        · rename_i d e2
          have k2 : ∀ e : lstOf M x = some ds, rIxL K v (.int i) H Qv := fun e => by
            obtain ⟨a, xs, rfl, h3, h4⟩ := lstOf_ok s r1 e
            obtain ⟨z, h5, h6⟩ := h4.atI e2
            exact ⟨_, _, _, _, rfl, rfl, h3, h5, p _ H _ M s (Ext.refl _ _ _) h6 q⟩
          cases x with
          | tup es =>
            cases e
            cases r1 with
            | tup h3 h4 =>
              obtain ⟨z, h5, h6⟩ := h4.atI e2
              exact .inr (.inl ⟨_, _, _, _, rfl, rfl, h3, h5, p _ H _ M s (Ext.refl _ _ _) h6 q⟩)
          | lst es => exact .inl (k2 e)
          | loc a => exact .inl (k2 e)
          | _ => cases e
        · exact q.elim
      · exact q.elim
  · exact q.elim
/-- a part of a slice -/
abbrev FO := XW → Env' → Mu → (Option Int → Mu → Prop) → Prop
def fNo : FO := fun _ _ M Q => Q none M
def fSome (f : FE) : FO := fun xw ρ M Q => f xw ρ M fun d M1 => match d with
  | .int i => Q (some i) M1
  | _ => False
def DO (X : Cx) (T : List Addr) (W : WX) (e : Option Expr) (f : FO) : Prop := ∃ t, PO X e t ∧ ∀ hid σ H ρ M xw Q (Qv : Option Int → Hp → Prop), REnv X.K hid H M σ ρ → Sto X.K T hid H M → WOk X.K T hid W σ H M xw → f xw ρ M Q →
  (∀ o H' M', Sto X.K T hid H' M' → Ext hid H M H' M' → Q o M' → Qv o H') → t σ H Qv
theorem do_no : DO X T W none fNo := ⟨_, po_none, fun hid σ H ρ M xw Q Qv r s w q p => p none H M s (Ext.refl _ _ _) q⟩
theorem do_some {e : Expr} {f : FE} (h : DE X T W e f) : DO X T W (some e) (fSome f) := by
  obtain ⟨t, pa, sa⟩ := h
  refine ⟨_, po_some pa, fun hid σ H ρ M xw Q Qv r s w q p => ?_⟩
  refine sa hid σ H ρ M xw _ _ r s w q fun v H1 d M1 s1 e1 r1 q1 => ?_
  cases d with
  | int i => cases r1; exact ⟨i, rfl, p _ H1 M1 s1 e1 q1⟩
  | _ => exact (show False from q1).elim
def cutD (xs : List D) (lo hi : Option Int) : List D := (xs.drop (HT.sIx xs.length 0 lo)).take (HT.sIx xs.length xs.length hi - HT.sIx xs.length 0 lo)
theorem Rvs.cut {K : PySem.W.Frag} {hid : List Addr} {H : Hp} {M : Mu} {xs : List V} {ds : List D} (r : Rvs K hid H M xs ds) (lo hi : Option Int) : Rvs K hid H M (cutV xs lo hi) (cutD ds lo hi) := by
  unfold cutV cutD
  rw [r.length]
  exact (r.drop _).take _
def gSl (x : D) (lo hi : Option Int) (M : Mu) (Q : D → Mu → Prop) : Prop := match x with
  | .tup ds => Q (.tup (cutD ds lo hi)) M
  | .str z => z.length ≤ sizeLine ∧ Q (.str (cutS z lo hi)) M
  | x => (match lstOf M x with
    | some ds => Q (.lst (cutD ds lo hi)) M
    | none => False)
def rSl (K : PySem.W.Frag) : V → Option Int → Option Int → Hp → VK → Prop := fun x lo hi H Q => rSlF K x lo hi H Q ∨ rSlL K x lo hi H Q
theorem sl_any : SlR X (rSl X.K) := sl_tupF.or sl_list
theorem sl_sim {K : PySem.W.Frag} {hid : List Addr} {H : Hp} {M : Mu} {v : V} {x : D} {lo hi : Option Int} {Q : D → Mu → Prop} {Qv : VK} (s : Sto K T hid H M) (r : Rv K hid H M v x) (hx : ∀ z, x ≠ .str z) (q : gSl x lo hi M Q) (p : Pst K T hid H M Q Qv) : rSl K v lo hi H Qv := by
  have k2 : ∀ ds, lstOf M x = some ds → Q (.lst (cutD ds lo hi)) M → rSl K v lo hi H Qv := fun ds e q => by
    obtain ⟨a, xs, rfl, h3, h4⟩ := lstOf_ok s r e
    exact .inr ⟨_, _, rfl, h3, fun c hc => new_lst s p (h4.cut lo hi) hc q⟩
  unfold gSl at q
  split at q
  · rename_i ds
    cases r with
    | tup h3 h4 =>
      rename_i a xs _
      refine .inl ⟨_, _, rfl, h3, fun e => ?_, fun _ => new_tup s p (h4.cut lo hi) q⟩
      have e2 : cutD ds lo hi = ds := by
        unfold cutD
        rw [h4.length] at e
        rw [e.1, e.2]
        simp
      rw [e2] at q
      exact p _ H _ M s (Ext.refl _ _ _) (.tup h3 h4) q
  · rename_i z
    exact absurd rfl (hx z)
  · split at q
    · rename_i ds e
      exact k2 ds e q
    · exact q.elim
/-- a slice of a tuple or a list -/
def fSl' (f : FE) (l u : FO) : FE := fun xw ρ M Q => f xw ρ M fun x M1 => l xw ρ M1 fun lo M2 => u xw ρ M2 fun hi M3 => (match x with
  | .str _ => False
  | x => gSl x lo hi M3 Q)
theorem de_sl {e : Expr} {lo hi : Option Expr} {f : FE} {l u : FO} {p2 pos : Pos} (h : DE X T W e f) (hl : DO X T W lo l) (hu : DO X T W hi u) : DE X T W (.Subscript e (.Slice lo hi none p2) pos) (fSl' f l u) := by
  obtain ⟨t, pa, sa⟩ := h
  obtain ⟨tl, pl, sl⟩ := hl
  obtain ⟨tu, pu, su⟩ := hu
  refine ⟨_, pe_slice sl_any pa pl pu, fun hid σ H ρ M xw Q Qv r s w q p => ?_⟩
  refine sa hid σ H ρ M xw _ _ r s w q fun v H1 d M1 s1 e1 r1 q1 => ?_
  refine sl hid σ H1 ρ M1 xw _ _ (r.ext e1) s1 (w.ext e1) q1 fun o H2 M2 s2 e2 q2 => ?_
  refine su hid σ H2 ρ M2 xw _ _ (r.ext (e1.trans e2)) s2 (w.ext (e1.trans e2)) q2 fun o3 H3 M3 s3 e3 q3 => ?_
  split at q3
  · exact q3.elim
  · rename_i hx
    exact sl_sim s3 ((e2.trans e3).rv _ _ r1) hx q3 (p.ext ((e1.trans e2).trans e3))

/-! ### calls of built-ins, by values -/
abbrev GC := List D → Mu → (D → Mu → Prop) → Prop
def CSim (K : PySem.W.Frag) (T : List Addr) (r : List V → Hp → VK → Prop) (g : GC) : Prop :=
  ∀ hid H M ds vs Q Qv, Sto K T hid H M → Rvs K hid H M vs ds → g ds M Q → Pst K T hid H M Q Qv → r vs H Qv
def fCB (g : GC) (fa : FA) : FE := fun xw ρ M Q => fa xw ρ M fun ds M1 => g ds M1 Q
theorem sim_cb {K : PySem.W.Frag} {r : List V → Hp → VK → Prop} {g : GC} {ta : TA} {fa : FA} (o : CSim K T r g) (a : ASim K T W ta fa) : ESim K T W (tCB r ta) (fCB g fa) := by
  intro hid σ H ρ M xw Q Qv r s w q p
  refine a hid σ H ρ M xw _ _ r s w q fun vs H1 ds M1 s1 e1 r1 q1 => ?_
  exact o hid H1 M1 ds vs Q Qv s1 r1 q1 (p.ext e1)
theorem de_callB {id : String} {x : Str} {p pos : Pos} {e : Expr} {es : List Expr} {r : List V → Hp → VK → Prop} {g : GC} {fa : FA} (hc : CallR X (.builtin id) r) (o : CSim X.K T r g) (hg : Gl X x) (hm : X.mg x = none) (hv : bootBuiltins x = some (.builtin id)) (ha : DA X T W (e :: es) fa)
    (hn : x ≠ "__name__") (hdb : (x == ("__debug__" : Str)) = false)
    (he : starEach (e :: es) X.env = (false, eval e X.env) :: starEach es X.env) (hpl : (backTo pos (starEach es X.env)).any (·.1) = false) : DE X T W (.Call (.Name x p) (e :: es) [] pos) (fCB g fa) := by
  obtain ⟨t, pa, sa⟩ := ha
  exact ⟨_, pe_callB hc hg hm hv pa hn hdb he hpl, sim_cb o sa⟩
theorem de_callTy {id : String} {x : Str} {p pos : Pos} {e : Expr} {es : List Expr} {r : List V → Hp → VK → Prop} {g : GC} {fa : FA} (hc : CallR X (.type id) r) (o : CSim X.K T r g) (hg : Gl X x) (hm : X.mg x = none) (hv : bootBuiltins x = some (.type id)) (ha : DA X T W (e :: es) fa)
    (hn : x ≠ "__name__") (hdb : (x == ("__debug__" : Str)) = false)
    (he : starEach (e :: es) X.env = (false, eval e X.env) :: starEach es X.env) (hpl : (backTo pos (starEach es X.env)).any (·.1) = false) : DE X T W (.Call (.Name x p) (e :: es) [] pos) (fCB g fa) := by
  obtain ⟨t, pa, sa⟩ := ha
  exact ⟨_, pe_callTy hc hg hm hv pa hn hdb he hpl, sim_cb o sa⟩
def gLen : GC := fun ds M Q => match ds with
  | [.str x] => x.length ≤ sizeLine ∧ Q (.int x.length) M
  | [d] => (match seqOf M d with
    | some es => Q (.int es.length) M
    | none => False)
  | _ => False
theorem seq_ok {K : PySem.W.Frag} {hid : List Addr} {H : Hp} {M : Mu} (s : Sto K T hid H M) {v : V} {y : D} {ds : List D} (r : Rv K hid H M v y) (e : seqOf M y = some ds) : ∃ a xs, v = .ref a ∧ (SqL K H a xs ∨ SqT K H a xs) ∧ Rvs K hid H M xs ds := by
  have k2 : ∀ e : lstOf M y = some ds, ∃ a xs, v = .ref a ∧ (SqL K H a xs ∨ SqT K H a xs) ∧ Rvs K hid H M xs ds := fun e => by
    obtain ⟨a, xs, h1, h3, h4⟩ := lstOf_ok s r e
    exact ⟨a, xs, h1, .inl h3, h4⟩
  cases y with
  | tup es =>
    cases e
    cases r with
    | tup h3 h4 => exact ⟨_, _, rfl, .inr h3, h4⟩
  | lst es => exact k2 e
  | loc a => exact k2 e
  | _ => cases e
theorem c_len {K : PySem.W.Frag} : CSim K T (fun xs H Q => ∃ x n, xs = [x] ∧ LenV K x H n ∧ Q (.int n) H) gLen := by
  intro hid H M ds vs Q Qv s r q p
  unfold gLen at q
  split at q
  · cases r with
    | cons h r => cases r; cases h; exact ⟨_, _, rfl, ⟨q.1, rfl⟩, p _ H _ M s (Ext.refl _ _ _) (.int _) q.2⟩
  · split at q
    · rename_i d hne es e
      cases r with
      | cons h r =>
        cases r
        obtain ⟨a, xs, rfl, h3, h4⟩ := seq_ok s h e
        have hl := h4.length
        refine ⟨_, es.length, rfl, ?_, p _ H _ M s (Ext.refl _ _ _) (.int _) q⟩
        rcases h3 with h3 | h3
        · exact .inl ⟨xs, h3, hl.symm⟩
        · exact .inr ⟨xs, h3, hl.symm⟩
    · exact q.elim
  · exact q.elim
def gInt : GC := fun ds M Q => match ds with
  | [.int i] => Q (.int i) M
  | [.bl b] => Q (.int (if b then 1 else 0)) M
  | _ => False
theorem c_int {K : PySem.W.Frag} : CSim K T (fun xs H Q => (∃ i, xs = [.int i] ∧ Q (.int i) H) ∨ ∃ k, xs = [.bl k] ∧ Q (.int (if k then 1 else 0)) H) gInt := by
  intro hid H M ds vs Q Qv s r q p
  unfold gInt at q
  split at q
  · cases r with
    | cons h r => cases r; cases h; exact .inl ⟨_, rfl, p _ H _ M s (Ext.refl _ _ _) (.int _) q⟩
  · cases r with
    | cons h r => cases r; cases h; exact .inr ⟨_, rfl, p _ H _ M s (Ext.refl _ _ _) (.int _) q⟩
  · exact q.elim
def gTuple : GC := fun ds M Q => match ds with
  | [d] => (match seqOf M d with
    | some es => Q (.tup es) M
    | none => False)
  | _ => False
theorem c_tuple {K : PySem.W.Frag} : CSim K T (fun xs H Q => ∃ p ys, xs = [.ref p] ∧ ((SqL K H p ys ∧ NewT H Q ys) ∨ (SqT K H p ys ∧ Q (.ref p) H))) gTuple := by
  intro hid H M ds vs Q Qv s r q p
  unfold gTuple at q
  split at q
  · rename_i d
    split at q
    · rename_i es e
      cases r with
      | cons h r =>
        cases r
        have k2 : ∀ (e : lstOf M d = some es) (w : V), Rv K hid H M w d → ∃ p ys, [w] = [.ref p] ∧ ((SqL K H p ys ∧ NewT H Qv ys) ∨ (SqT K H p ys ∧ Qv (.ref p) H)) := fun e w h => by
          obtain ⟨a, xs, rfl, h3, h4⟩ := lstOf_ok s h e
          exact ⟨_, _, rfl, .inl ⟨h3, new_tup s p h4 q⟩⟩
        cases d with
        | tup es' =>
          cases e
          cases h with
          | tup h3 h4 => exact ⟨_, _, rfl, .inr ⟨h3, p _ H _ M s (Ext.refl _ _ _) (.tup h3 h4) q⟩⟩
        | lst es' => exact k2 e _ h
        | loc a => exact k2 e _ h
        | _ => cases e
    · exact q.elim
  · exact q.elim
def gMax : GC := fun ds M Q => match ds with
  | [.int i, .int j] => Q (.int (if j > i then j else i)) M
  | _ => False
def gMin : GC := fun ds M Q => match ds with
  | [.int i, .int j] => Q (.int (if j < i then j else i)) M
  | _ => False
/-- isinstance(x, bool) -/
def gIsBool : GC := fun ds M Q => match ds with
  | [.bl _, .ty n] => n = "bool" ∧ Q (.bl true) M
  | [.int _, .ty n] => n = "bool" ∧ Q (.bl false) M
  | _ => False
end
end U

set_option Elab.async false
set_option linter.all false
set_option maxRecDepth 100000
set_option maxHeartbeats 1000000
/-! U4: targets, what is walked, comprehensions, statements. -/
namespace U
open PySem PySem.Spec PyProof.Rows L2

/-! ### uniform readings -/
def canE (K : PySem.W.Frag) (T : List Addr) (W : WX) (f : FE) : TE := fun σ H Qv => ∃ hid ρ M xw Q, REnv K hid H M σ ρ ∧ Sto K T hid H M ∧ WOk K T hid W σ H M xw ∧ f xw ρ M Q ∧ Pst K T hid H M Q Qv
def canT (K : PySem.W.Frag) (T : List Addr) (W : WX) (f : FT) : TT := fun σ H Qv => ∃ hid ρ M xw Q, REnv K hid H M σ ρ ∧ Sto K T hid H M ∧ WOk K T hid W σ H M xw ∧ f xw ρ M Q ∧ PstB K T hid H M Q Qv
section
variable {X : Cx} {K : PySem.W.Frag} {T : List Addr} {W : WX}
theorem DE.can {e : Expr} {f : FE} (h : DE X T W e f) : PE X e (canE X.K T W f) := by
  obtain ⟨t, p, s⟩ := h
  exact ⟨fun pins s1 σ H Q I q => p.run pins s1 σ H Q I (let ⟨hid, ρ, M, xw, Q', a, b, c, d, e⟩ := q; s hid σ H ρ M xw Q' Q a b c d e)⟩
theorem canE_sim {f : FE} : ESim K T W (canE K T W f) f := fun hid σ H ρ M xw Q Qv a b c d e => ⟨hid, ρ, M, xw, Q, a, b, c, d, e⟩
theorem canT_sim {f : FT} : TSim K T W (canT K T W f) f := fun hid σ H ρ M xw Q Qv a b c d e => ⟨hid, ρ, M, xw, Q, a, b, c, d, e⟩
/-- a clause's tests -/
def DTs (X : Cx) (T : List Addr) (W : WX) (ifs : List Expr) (f : FT) : Prop := ∃ t, PTs X ifs t ∧ TSim X.K T W t f
def fYes : FT := fun _ _ M Q => Q true M
theorem dts_nil : DTs X T W [] fYes := ⟨_, pts_nil, fun hid σ H ρ M xw Q Qv r s w q p => p true H M s (Ext.refl _ _ _) q⟩
theorem DTs.can {ifs : List Expr} {f : FT} (h : DTs X T W ifs f) : PTs X ifs (canT X.K T W f) := by
  obtain ⟨t, p, s⟩ := h
  exact ⟨fun pins s1 σ H Q I q => p.run pins s1 σ H Q I (let ⟨hid, ρ, M, xw, Q', a, b, c, d, e⟩ := q; s hid σ H ρ M xw Q' Q a b c d e)⟩
end

/-! ### carried from one place to another -/
structure Car (K : PySem.W.Frag) (hid : List Addr) (H : Hp) (M : Mu) (hid' : List Addr) (H' : Hp) (M' : Mu) : Prop where
  sqT : ∀ a xs, SqT K H a xs → SqT K H' a xs
  fzL : ∀ a xs, FzL K hid H M a xs → FzL K hid' H' M' a xs
  td : ∀ a, TD H a → TD H' a
section
variable {K : PySem.W.Frag} {T hid hid' hid2 : List Addr} {H H' H2 : Hp} {M M' M2 : Mu} {σ : L2.St} {ρ : Env'}
mutual
theorem Car.rv (e : Car K hid H M hid' H' M') : ∀ (d : D) (v : V), Rv K hid H M v d → Rv K hid' H' M' v d
  | .non, _, h => by cases h; exact .non
  | .bl b, _, h => by cases h; exact .bl b
  | .int i, _, h => by cases h; exact .int i
  | .str x, _, h => by cases h; exact .str x
  | .tup ds, _, h => by
    cases h with
    | tup h r d => exact .tup (e.sqT _ _ h) (Car.rvs e ds _ r) (e.td _ d)
  | .lst ds, _, h => by
    cases h with
    | lst h r => exact .lst (e.fzL _ _ h) (Car.rvs e ds _ r)
  | .loc a, _, h => by cases h; exact .loc a
  | .ty n, _, h => by cases h; exact .ty n
theorem Car.rvs (e : Car K hid H M hid' H' M') : ∀ (ds : List D) (vs : List V), Rvs K hid H M vs ds → Rvs K hid' H' M' vs ds
  | [], _, h => by cases h; exact .nil
  | d :: ds, _, h => by
    cases h with
    | cons h r => exact .cons (Car.rv e d _ h) (Car.rvs e ds _ r)
end
theorem Car.trans (a : Car K hid H M hid' H' M') (b : Car K hid' H' M' hid2 H2 M2) : Car K hid H M hid2 H2 M2 := ⟨fun x xs h => b.sqT _ _ (a.sqT _ _ h), fun x xs h => b.fzL _ _ (a.fzL _ _ h), fun x h => b.td _ (a.td _ h)⟩
theorem Car.refl : Car K hid H M hid H M := ⟨fun _ _ h => h, fun _ _ h => h, fun _ h => h⟩
theorem Ext.car (e : Ext hid H M H' M') : Car K hid H M hid H' M' := ⟨fun _ _ h => e.sqT h, fun _ _ h => e.fzL h, fun _ h => e.td h⟩
theorem REnv.car (r : REnv K hid H M σ ρ) (e : Car K hid H M hid' H' M') : REnv K hid' H' M' σ ρ :=
  ⟨r.1, fun i d h => let ⟨v, h1, h2⟩ := r.2 i d h; ⟨v, h1, e.rv _ _ h2⟩⟩
theorem MOk.car (e : Car K hid H M hid' H' M') {a : Addr} {m : MO} (h : MOk K hid H M a m) (k : H' a = H a) : MOk K hid' H' M' a m := by
  cases m with
  | lst ds => obtain ⟨xs, h1, h2⟩ := h; exact ⟨xs, by rw [k]; exact h1, e.rvs _ _ h2⟩
  | dct kvs => obtain ⟨xs, h1, h2, h3⟩ := h; exact ⟨xs, by rw [k]; exact h1, h2, h3.map fun d v r => e.rv _ _ r⟩
  | ins C fs => obtain ⟨dx, fvs, h1, h3, h2⟩ := h; exact ⟨dx, fvs, by rw [k]; exact h1, h3, e.rvs _ _ h2⟩
theorem Sto.lst_at (s : Sto K T hid H M) {p : Addr} (hp : p ∈ hid) {a : Addr} {m : MO} (h : M a = some m) : a ≠ p := by
  rintro rfl; rw [(s.hidn a hp).1] at h; cases h
/-- a list under way at D, hidden -/
theorem Car.hide (s : Sto K T hid H M) {D : Addr} {o : HO} (hD : H D = none) : Car K hid H M (D :: hid) (upd H D o) M := by
  have e := Ext.new (o := o) s hD
  refine ⟨fun _ _ h => e.sqT h, fun a xs h => ?_, fun _ h => e.td h⟩
  rcases h with ⟨h1, h2, h3⟩ | ⟨ob, h⟩ | h
  · refine .inl ⟨by rw [upd_ne (ne_of_none h1 hD)]; exact h1, h2, ?_⟩
    rw [List.mem_cons, not_or]
    exact ⟨ne_of_none h1 hD, h3⟩
  · exact .inr (.inl ⟨ob, e.frz _ _ _ h⟩)
  · exact .inr (.inr h)
theorem Sto.hide (s : Sto K T hid H M) {D : Addr} {o : HO} (hD : H D = none) : Sto K T (D :: hid) (upd H D o) M := by
  have c := Car.hide (o := o) s hD
  have s1 := s.new (o := o) hD
  refine ⟨fun a m h => ?_, s1.tab, fun a ha => ?_⟩
  · have hne : a ≠ D := by rintro rfl; rw [(s.fresh hD).1] at h; cases h
    exact (s.mem a m h).car c (upd_ne hne)
  · rcases List.mem_cons.mp ha with rfl | ha
    · exact ⟨(s.fresh hD).1, by rw [upd_same]; exact fun z => nomatch z⟩
    · exact s1.hidn a ha
theorem Car.unhide {D : Addr} : Car K (D :: hid) H M hid H M := by
  refine ⟨fun _ _ h => h, fun a xs h => ?_, fun _ h => h⟩
  rcases h with ⟨h1, h2, h3⟩ | h | h
  · exact .inl ⟨h1, h2, fun z => h3 (List.mem_cons_of_mem _ z)⟩
  · exact .inr (.inl h)
  · exact .inr (.inr h)
theorem Sto.unhide {D : Addr} (s : Sto K T (D :: hid) H M) : Sto K T hid H M :=
  ⟨fun a m h => (s.mem a m h).car Car.unhide rfl, s.tab, fun a ha => s.hidn a (List.mem_cons_of_mem _ ha)⟩
theorem Ext.under {H1 : Hp} {M1 : Mu} {D : Addr} (a : Ext hid H1 M1 H M) (hD : H1 D = none) (b : Ext (D :: hid) H M H' M') : Ext hid H1 M1 H' M' := by
  refine ⟨fun x xs h => b.tup _ _ (a.tup x xs h), fun x o u h => b.frz _ _ _ (a.frz x o u h), fun x xs h h' z => ?_, fun x hx xs h => b.hid x (List.mem_cons_of_mem _ hx) xs (a.hid x hx xs h), fun x h => b.dom x (a.dom x h), fun x h h' => by
    cases q : M x with
    | none => exact Classical.byContradiction fun z => a.dom x z (b.nl x q h')
    | some m => exact a.nl x h (by rw [q]; exact fun z => nomatch z)⟩
  obtain ⟨p, q⟩ := a.lst x xs h h' z
  exact b.lst x xs p q (by rw [List.mem_cons, not_or]; exact ⟨ne_of_none h hD, z⟩)
theorem Car.of_under {H1 : Hp} {M1 : Mu} {D : Addr} (a : Ext hid H1 M1 H M) (hD : H1 D = none) : Car K hid H1 M1 (D :: hid) H M := by
  refine ⟨fun _ _ h => a.sqT h, fun x xs h => ?_, fun _ h => a.td h⟩
  rcases h with ⟨h1, h2, h3⟩ | ⟨ob, h⟩ | h
  · obtain ⟨p, q⟩ := a.lst x xs h1 h2 h3
    exact .inl ⟨p, q, by rw [List.mem_cons, not_or]; exact ⟨ne_of_none h1 hD, h3⟩⟩
  · exact .inr (.inl ⟨ob, a.frz _ _ _ h⟩)
  · exact .inr (.inr h)
/-- the hidden list is written -/
theorem Car.whid {D : Addr} {xs : List V} {o : HO} (h : H D = some (.lst xs)) : Car K (D :: hid) H M (D :: hid) (upd H D o) M := by
  refine ⟨fun a ys q => ?_, fun a ys q => ?_, fun a ⟨ob, u, q, d⟩ => ⟨ob, u, by rw [upd_ne (by rintro rfl; rw [h] at q; cases q)]; exact q, d⟩⟩
  · rcases q with (q | ⟨ob, q⟩) | q
    · exact .inl (.inl (by rw [upd_ne (by rintro rfl; rw [h] at q; cases q)]; exact q))
    · exact .inl (.inr ⟨ob, by rw [upd_ne (by rintro rfl; rw [h] at q; cases q)]; exact q⟩)
    · exact .inr q
  · rcases q with ⟨h1, h2, h3⟩ | ⟨ob, q⟩ | q
    · exact .inl ⟨by rw [upd_ne (fun e => h3 (by rw [e]; exact List.mem_cons_self))]; exact h1, h2, h3⟩
    · exact .inr (.inl ⟨ob, by rw [upd_ne (by rintro rfl; rw [h] at q; cases q)]; exact q⟩)
    · exact .inr (.inr q)
theorem Sto.whid {D : Addr} {xs ys : List V} (s : Sto K T (D :: hid) H M) (h : H D = some (.lst xs)) : Sto K T (D :: hid) (upd H D (.lst ys)) M := by
  refine ⟨fun a m q => (s.mem a m q).car (Car.whid h) (upd_ne (s.lst_at List.mem_cons_self q)), fun P hP => ?_, fun a ha => ?_⟩
  · exact (s.tab P hP).upd fun u e => by rw [h] at e; cases e; exact ⟨fun _ z => (nomatch z), fun _ _ z => (nomatch z)⟩
  · obtain ⟨h1, h2⟩ := s.hidn a ha
    refine ⟨h1, ?_⟩
    by_cases e : a = D
    · subst e; rw [upd_same]; exact fun z => nomatch z
    · rw [upd_ne e]; exact h2
theorem Ext.whid {H1 : Hp} {M1 : Mu} {D : Addr} {o : HO} (a : Ext hid H1 M1 H M) (hD : H1 D = none) (hn : D ∉ hid) : Ext hid H1 M1 (upd H D o) M := by
  refine ⟨fun x xs h => by rw [upd_ne (ne_of_none h hD)]; exact a.tup x xs h, fun x o u h => by rw [upd_ne (ne_of_none h hD)]; exact a.frz x o u h, fun x xs h h' z => ?_, fun x hx xs h => ?_, fun x h => upd_dom x (a.dom x h), a.nl⟩
  · obtain ⟨p, q⟩ := a.lst x xs h h' z
    exact ⟨by rw [upd_ne (ne_of_none h hD)]; exact p, q⟩
  · rw [upd_ne (ne_of_none h hD)]; exact a.hid x hx xs h
end

/-! ### slots wiped -/
theorem wipe_get (σ : L2.St) (j : Nat) : ∀ vs : List Nat, (wipe σ vs)[j]? = if j ∈ vs then σ[j]?.map (fun _ => none) else σ[j]?
  | [] => by simp [wipe]
  | v :: vs => by
    unfold wipe
    rw [List.getElem?_set]
    by_cases e : v = j
    · subst e
      rw [if_pos rfl, if_pos List.mem_cons_self, wipe_length]
      by_cases h : v < σ.length
      · rw [if_pos h, List.getElem?_eq_getElem h]; rfl
      · rw [if_neg h, List.getElem?_eq_none (by omega)]; rfl
    · rw [if_neg e, wipe_get σ j vs]
      have : (j ∈ v :: vs) ↔ j ∈ vs := by rw [List.mem_cons]; exact ⟨fun h => h.resolve_left (Ne.symm e), .inr⟩
      simp only [this]
theorem wipe_set {σ : L2.St} {i : Nat} {x : Option V} {vs : List Nat} (h : i ∈ vs) : wipe (σ.set i x) vs = wipe σ vs := by
  apply List.ext_getElem?
  intro j
  rw [wipe_get, wipe_get]
  by_cases e : j ∈ vs
  · rw [if_pos e, if_pos e]
    by_cases z : i = j
    · subst z
      rw [List.getElem?_set]
      by_cases hl : i < σ.length
      · rw [if_pos rfl, if_pos hl, List.getElem?_eq_getElem hl]; rfl
      · rw [if_pos rfl, if_neg hl, List.getElem?_eq_none (by omega)] <;> rfl
    · rw [List.getElem?_set_ne z]
  · rw [if_neg e, if_neg e, List.getElem?_set_ne (by rintro rfl; exact e h)]
theorem wipe_wipe {σ : L2.St} {vs : List Nat} : wipe (wipe σ vs) vs = wipe σ vs := by
  apply List.ext_getElem?
  intro j
  rw [wipe_get, wipe_get]
  by_cases e : j ∈ vs
  · rw [if_pos e, if_pos e]; cases σ[j]? <;> rfl
  · rw [if_neg e, if_neg e]
def wipeE (ρ : Env') : List Nat → Env'
  | [] => ρ
  | v :: vs => (wipeE ρ vs).set v none
theorem wipeE_get (ρ : Env') (j : Nat) : ∀ vs : List Nat, (wipeE ρ vs)[j]? = if j ∈ vs then ρ[j]?.map (fun _ => none) else ρ[j]?
  | [] => by simp [wipeE]
  | v :: vs => by
    have hl : ∀ us : List Nat, (wipeE ρ us).length = ρ.length := fun us => by
      induction us with
      | nil => rfl
      | cons u us ih => unfold wipeE; rw [List.length_set]; exact ih
    unfold wipeE
    rw [List.getElem?_set]
    by_cases e : v = j
    · subst e
      rw [if_pos rfl, if_pos List.mem_cons_self, hl]
      by_cases h : v < ρ.length
      · rw [if_pos h, List.getElem?_eq_getElem h]; rfl
      · rw [if_neg h, List.getElem?_eq_none (by omega)]; rfl
    · rw [if_neg e, wipeE_get ρ j vs]
      have : (j ∈ v :: vs) ↔ j ∈ vs := by rw [List.mem_cons]; exact ⟨fun h => h.resolve_left (Ne.symm e), .inr⟩
      simp only [this]
theorem wipeE_length (ρ : Env') : ∀ vs : List Nat, (wipeE ρ vs).length = ρ.length
  | [] => rfl
  | v :: vs => by unfold wipeE; rw [List.length_set]; exact wipeE_length ρ vs
theorem REnv.wipe {K : PySem.W.Frag} {hid : List Addr} {H : Hp} {M : Mu} {σ : L2.St} {ρ : Env'} (r : REnv K hid H M σ ρ) (vs : List Nat) : REnv K hid H M (L2.wipe σ vs) (wipeE ρ vs) := by
  refine ⟨by rw [wipeE_length, wipe_length]; exact r.1, fun i d h => ?_⟩
  rw [wipeE_get] at h
  by_cases e : i ∈ vs
  · rw [if_pos e] at h
    cases q : ρ[i]? with
    | none => rw [q] at h; cases h
    | some o => rw [q] at h; cases h
  · rw [if_neg e] at h
    obtain ⟨v, h1, h2⟩ := r.2 i d h
    exact ⟨v, by rw [wipe_get, if_neg e]; exact h1, h2⟩
end U

set_option Elab.async false
set_option linter.all false
set_option maxRecDepth 100000
set_option maxHeartbeats 1000000
/-! U5: targets, what is walked, new lists, comprehensions. -/
namespace U
open PySem PySem.Spec PyProof.Rows L2

/-! ### targets -/
abbrev BD := D → Env' → Option Env'
abbrev BL := List D → Env' → Option Env'
def GSim (K : PySem.W.Frag) (T : List Addr) (g : TG) (b : BD) (vs : List Nat) : Prop :=
  ∀ hid H M σ ρ v d ρ' (Q : L2.St → Hp → Prop), REnv K hid H M σ ρ → Sto K T hid H M → Rv K hid H M v d → b d ρ = some ρ' → (∀ σ', REnv K hid H M σ' ρ' → wipe σ' vs = wipe σ vs → Q σ' H) → g v σ H Q
def GLSim (K : PySem.W.Frag) (T : List Addr) (g : TGs) (b : BL) (vs : List Nat) : Prop :=
  ∀ hid H M σ ρ xs ds ρ' (Q : L2.St → Hp → Prop), REnv K hid H M σ ρ → Sto K T hid H M → Rvs K hid H M xs ds → b ds ρ = some ρ' → (∀ σ', REnv K hid H M σ' ρ' → wipe σ' vs = wipe σ vs → Q σ' H) → g xs σ H Q
def DG (X : Cx) (T : List Addr) (tg : Expr) (b : BD) (vs : List Nat) : Prop := ∃ g, PG X tg g ∧ GSim X.K T g b vs
def DGs (X : Cx) (T : List Addr) (tgs : List Expr) (b : BL) (vs : List Nat) : Prop := ∃ g, PGs X tgs g ∧ GLSim X.K T g b vs
def canG (K : PySem.W.Frag) (T : List Addr) (b : BD) (vs : List Nat) : TG := fun v σ H Q => ∃ hid M ρ d ρ', REnv K hid H M σ ρ ∧ Sto K T hid H M ∧ Rv K hid H M v d ∧ b d ρ = some ρ' ∧ ∀ σ', REnv K hid H M σ' ρ' → wipe σ' vs = wipe σ vs → Q σ' H
def bNm (i : Nat) : BD := fun d ρ => some (ρ.set i (some d))
def bNil : BL := fun ds ρ => match ds with
  | [] => some ρ
  | _ => none
def bCons (b : BD) (bs : BL) : BL := fun ds ρ => match ds with
  | d :: ds => (b d ρ).bind (bs ds)
  | [] => none
def bTup (n : Nat) (bs : BL) : BD := fun d ρ => match d with
  | .tup ds => if ds.length = n then bs ds ρ else none
  | _ => none
section
variable {X : Cx} {T : List Addr} {W : WX} {vs : List Nat}
theorem DG.can {tg : Expr} {b : BD} (h : DG X T tg b vs) : PG X tg (canG X.K T b vs) := by
  obtain ⟨g, p, s⟩ := h
  exact ⟨fun pins s1 σ H v u Q I r q => p.run pins s1 σ H v u Q I r (let ⟨hid, M, ρ, d, ρ', a, b, c, e, k⟩ := q; s hid H M σ ρ v d ρ' Q a b c e k)⟩
theorem canG_sim {K : PySem.W.Frag} {b : BD} : GSim K T (canG K T b vs) b vs := fun hid H M σ ρ v d ρ' Q a b c e k => ⟨hid, M, ρ, d, ρ', a, b, c, e, k⟩
theorem dg_nm {i : Nat} {x : Str} {pos : Pos} (hN : X.N.Nodup) (hi : X.N[i]? = some x) (hx : Loc X.env.scope x) (hf : X.fn x = true ∨ X.env.scope.names.lookup x = some .local) (hv : i ∈ vs) : DG X T (.Name x pos) (bNm i) vs := by
  refine ⟨_, pg_name hN hi hx hf, fun hid H M σ ρ v d ρ' Q r s rv e q => ?_⟩
  cases e
  exact q _ (r.set i rv) (wipe_set hv)
theorem dgs_nil : DGs X T [] bNil vs := by
  refine ⟨_, pgs_nil, fun hid H M σ ρ xs ds ρ' Q r s rv e q => ?_⟩
  cases rv with
  | nil => cases e; exact ⟨rfl, q _ r rfl⟩
  | cons => cases e
theorem dgs_cons {e : Expr} {es : List Expr} {b : BD} {bs : BL} (h1 : DG X T e b vs) (h2 : DGs X T es bs vs) (hs : (assignEach (e :: es) X.env).map (·.2) = assign e X.env :: (assignEach es X.env).map (·.2)) : DGs X T (e :: es) (bCons b bs) vs := by
  obtain ⟨g, p, s⟩ := h1
  obtain ⟨g2, p2, s2⟩ := h2
  refine ⟨_, pgs_cons p p2 hs, fun hid H M σ ρ xs ds ρ' Q r st rv e q => ?_⟩
  cases rv with
  | nil => cases e
  | cons hv rv =>
    rename_i v vr d dr
    unfold bCons at e
    dsimp only at e
    cases e1 : b d ρ with
    | none => rw [e1] at e; cases e
    | some ρ1 =>
      rw [e1] at e
      refine ⟨v, vr, rfl, s hid H M σ ρ v d ρ1 _ r st hv e1 fun σ1 r1 w1 => ?_⟩
      exact s2 hid H M σ1 ρ1 vr dr ρ' Q r1 st rv e fun σ2 r2 w2 => q σ2 r2 (w2.trans w1)
theorem dg_tup {es : List Expr} {k n : Nat} {bs : BL} {pos : Pos} (hc : X.calm = true) (h : DGs X T es bs vs) (hn : (assignEach es X.env).length = n) (hst : (assignEach es X.env).findIdx? (·.1) = none) : DG X T (.Tuple es k pos) (bTup n bs) vs := by
  obtain ⟨g, p, s⟩ := h
  refine ⟨_, pg_tup hc p hn hst, fun hid H M σ ρ v d ρ' Q r st rv e q => ?_⟩
  cases d with
  | tup ds =>
    cases rv with
    | tup h1 h2 =>
      unfold bTup at e
      dsimp only at e
      by_cases hl : ds.length = n
      · rw [if_pos hl] at e
        exact ⟨_, _, rfl, h1, by rw [h2.length]; exact hl, s hid H M σ ρ _ ds ρ' Q r st h2 e q⟩
      · rw [if_neg hl] at e; cases e
  | _ => cases e
end

/-! ### what is walked -/
abbrev FI := XW → Env' → Mu → (List D → Mu → Prop) → Prop
def Itm (K : PySem.W.Frag) (T hid : List Addr) (J : It) (H0 : Hp) (M0 : Mu) (ds : List D) : Prop :=
  ∀ hid' H M, Sto K T hid' H M → Car K hid H0 M0 hid' H M →
    (∀ i, i < ds.length → J.go i H ∧ ∀ x H', J.yld i H x H' → ∃ d, ds[i]? = some d ∧ Sto K T hid' H' M ∧ Ext hid' H M H' M ∧ Rv K hid' H' M x d) ∧ J.stop ds.length H
def ISim (K : PySem.W.Frag) (T : List Addr) (W : WX) (wi : TI) (fi : FI) : Prop :=
  ∀ hid σ H ρ M xw Q (R : It → Hp → Prop), REnv K hid H M σ ρ → Sto K T hid H M → WOk K T hid W σ H M xw → fi xw ρ M Q →
    (∀ J H' M' ds, Sto K T hid H' M' → Ext hid H M H' M' → Itm K T hid J H' M' ds → Q ds M' → R J H') → wi σ H R
def DI (X : Cx) (T : List Addr) (W : WX) (tg iter : Expr) (fi : FI) : Prop := ∃ wi, PI X tg iter wi ∧ ISim X.K T W wi fi
theorem Itm.car {K : PySem.W.Frag} {T hid hid2 : List Addr} {J : It} {H0 H2 : Hp} {M0 M2 : Mu} {ds : List D} (h : Itm K T hid J H0 M0 ds) (c : Car K hid H0 M0 hid2 H2 M2) : Itm K T hid2 J H2 M2 ds :=
  fun hid' H M s c2 => h hid' H M s (c.trans c2)
/-- a list or a tuple -/
def iLT (K : PySem.W.Frag) (tl : TE) : TI := fun σ H R => tl σ H fun x H1 => ∃ a, x = .ref a ∧ (((∃ xs, SqL K H1 a xs) ∧ R (Itl K a) H1) ∨ ((∃ xs, SqT K H1 a xs) ∧ R (Itt K a) H1))
theorem pi_lt {X : Cx} {tg l : Expr} {tl : TE} (hl : PE X l tl) : PI X tg l (iLT X.K tl) := by
  refine ⟨fun pins s σ H R I h => ?_⟩
  refine thn (hl.run pins s σ H _ I h) fun v s1 ⟨x, H1, I1, r1, q1⟩ => ?_
  obtain ⟨a, e, q1⟩ := q1
  subst e
  cases r1
  rcases q1 with ⟨⟨xs, hq⟩, q⟩ | ⟨⟨xs, hq⟩, q⟩
  · obtain ⟨its, rv, p, hz⟩ := I1.list hq
    refine wpAny_pyIter_list p.isList ?_
    refine ⟨s1.heap.objs.size, [s1.heap.objs.size], _, _, H1, rfl, I1.kept (t' := s1.toks) fun b o e => Heap.get?_push_of_some _ e, turn_list a _, ⟨_, Heap.get?_push_size _ rfl, rfl, rfl⟩, fun b hb => ?_, q⟩
    have e : b = s1.heap.objs.size := by simpa using hb
    subst e
    exact I1.fpOk (Nat.le_refl _) (I1.hok.fresh (Nat.le_refl _))
  · obtain ⟨its, rv, p, hz⟩ := I1.tuple hq
    refine wpAny_pyIter_tuple (show s1.heap.IsTuple a its.toArray from p) ?_
    refine ⟨s1.heap.objs.size, [s1.heap.objs.size], _, _, H1, rfl, I1.kept (t' := s1.toks) fun b o e => Heap.get?_push_of_some _ e, turn_tuple a _, ⟨_, Heap.get?_push_size _ rfl, rfl, rfl⟩, fun b hb => ?_, q⟩
    have e : b = s1.heap.objs.size := by simpa using hb
    subst e
    exact I1.fpOk (Nat.le_refl _) (I1.hok.fresh (Nat.le_refl _))
def fSeq (f : FE) : FI := fun xw ρ M Q => f xw ρ M fun d M1 => match d with
  | .tup ds => Q ds M1
  | .lst ds => Q ds M1
  | _ => False
theorem itm_list {K : PySem.W.Frag} {T hid : List Addr} {H : Hp} {M : Mu} {a : Addr} {xs : List V} {ds : List D} (h : FzL K hid H M a xs) (r : Rvs K hid H M xs ds) : Itm K T hid (Itl K a) H M ds := by
  intro hid' H' M' s c
  have h' := (c.fzL _ _ h).sq
  have r' := c.rvs _ _ r
  have hl := r.length
  refine ⟨fun i hi => ⟨⟨xs, xs[i]'(by omega), h', List.getElem?_eq_getElem (by omega)⟩, fun x H2 y => ?_⟩, ⟨xs, h', by omega⟩⟩
  obtain ⟨rfl, y⟩ := y
  obtain ⟨v, h1, h2⟩ := r'.get i (d := ds[i]) (List.getElem?_eq_getElem hi)
  rw [y xs h'] at h1
  cases h1
  exact ⟨_, List.getElem?_eq_getElem hi, s, Ext.refl _ _ _, h2⟩
theorem itm_tup {K : PySem.W.Frag} {T hid : List Addr} {H : Hp} {M : Mu} {a : Addr} {xs : List V} {ds : List D} (h : SqT K H a xs) (r : Rvs K hid H M xs ds) : Itm K T hid (Itt K a) H M ds := by
  intro hid' H' M' s c
  have h' := c.sqT _ _ h
  have r' := c.rvs _ _ r
  have hl := r.length
  refine ⟨fun i hi => ⟨⟨xs, xs[i]'(by omega), h', List.getElem?_eq_getElem (by omega)⟩, fun x H2 y => ?_⟩, ⟨xs, h', by omega⟩⟩
  obtain ⟨rfl, y⟩ := y
  obtain ⟨v, h1, h2⟩ := r'.get i (d := ds[i]) (List.getElem?_eq_getElem hi)
  rw [y xs h'] at h1
  cases h1
  exact ⟨_, List.getElem?_eq_getElem hi, s, Ext.refl _ _ _, h2⟩
section
variable {X : Cx} {T : List Addr} {W : WX} {tg : Expr}
theorem di_seq {e : Expr} {f : FE} (h : DE X T W e f) : DI X T W tg e (fSeq f) := by
  obtain ⟨t, p, sa⟩ := h
  refine ⟨_, pi_lt p, fun hid σ H ρ M xw Q R r s w q k => ?_⟩
  refine sa hid σ H ρ M xw _ _ r s w q fun v H1 d M1 s1 e1 r1 q1 => ?_
  cases d with
  | tup ds =>
    cases r1 with
    | tup h1 h2 => exact ⟨_, rfl, .inr ⟨⟨_, h1⟩, k _ H1 M1 ds s1 e1 (itm_tup h1 h2) q1⟩⟩
  | lst ds =>
    cases r1 with
    | lst h1 h2 => exact ⟨_, rfl, .inl ⟨⟨_, h1.sq⟩, k _ H1 M1 ds s1 e1 (itm_list h1 h2) q1⟩⟩
  | _ => exact (show False from q1).elim
def rngD (lo : Int) (n : Nat) : List D := (List.range n).map fun k => .int (lo + (k : Nat))
theorem itm_rng {K : PySem.W.Frag} {hid : List Addr} {H : Hp} {M : Mu} {lo : Int} {n : Nat} : Itm K T hid (Itr lo n) H M (rngD lo n) := by
  intro hid' H' M' s c
  have hl : (rngD lo n).length = n := by unfold rngD; rw [List.length_map, List.length_range]
  refine ⟨fun i hi => ⟨by rw [hl] at hi; exact hi, fun x H2 y => ?_⟩, by rw [hl]; exact Nat.le_refl n⟩
  obtain ⟨rfl, rfl⟩ := y
  refine ⟨.int (lo + (i : Nat)), ?_, s, Ext.refl _ _ _, .int _⟩
  unfold rngD
  rw [hl] at hi
  rw [List.getElem?_map, List.getElem?_range hi]; rfl
def fRng1 (fa : FA) : FI := fun xw ρ M Q => fa xw ρ M fun ds M1 => match ds with
  | [.int j] => (-(2 ^ 62) ≤ j ∧ j < 2 ^ 62) ∧ Q (rngD 0 j.toNat) M1
  | _ => False
def fRng2 (fa : FA) : FI := fun xw ρ M Q => fa xw ρ M fun ds M1 => match ds with
  | [.int i, .int j] => (-(2 ^ 62) ≤ i ∧ i < 2 ^ 62 ∧ -(2 ^ 62) ≤ j ∧ j < 2 ^ 62) ∧ Q (rngD i (j - i).toNat) M1
  | _ => False
theorem di_rng1 {a : Expr} {fa : FA} {p pos : Pos} (hg : Gl X "range") (hm : X.mg "range" = none) (ha : DA X T W [a] fa) (hs : starEach [a] X.env = [(false, eval a X.env)]) : DI X T W tg (.Call (.Name "range" p) [a] [] pos) (fRng1 fa) := by
  obtain ⟨t, pa, sa⟩ := ha
  refine ⟨_, pi_range1 hg hm pa hs, fun hid σ H ρ M xw Q R r s w q k => ?_⟩
  refine sa hid σ H ρ M xw _ _ r s w q fun vs H1 ds M1 s1 e1 r1 q1 => ?_
  split at q1
  · cases r1 with
    | cons h r => cases r; cases h; exact ⟨_, rfl, q1.1.1, q1.1.2, k _ H1 M1 _ s1 e1 itm_rng q1.2⟩
  · exact q1.elim
end

/-! ### new lists -/
abbrev FL := XW → Env' → Mu → (List D → Mu → Prop) → Prop
/-- what follows a new list at p that nothing else knows -/
def PstL (K : PySem.W.Frag) (T hid : List Addr) (H : Hp) (M : Mu) (Q : List D → Mu → Prop) (Qv : VK) : Prop :=
  ∀ p xs H' ds M', H p = none → p ∉ hid → Sto K T (p :: hid) H' M' → Ext hid H M H' M' → H' p = some (.lst xs) → Rvs K (p :: hid) H' M' xs ds → Q ds M' → Qv (.ref p) H'
def LSim (K : PySem.W.Frag) (T : List Addr) (W : WX) (t : TE) (f : FL) : Prop :=
  ∀ hid σ H ρ M xw Q Qv, REnv K hid H M σ ρ → Sto K T hid H M → WOk K T hid W σ H M xw → f xw ρ M Q → PstL K T hid H M Q Qv → t σ H Qv
def DL (X : Cx) (T : List Addr) (W : WX) (e : Expr) (f : FL) : Prop := ∃ t, PE X e t ∧ LSim X.K T W t f
def fOfL (f : FL) : FE := fun xw ρ M Q => f xw ρ M fun ds M1 => Q (.lst ds) M1
theorem LSim.e {K : PySem.W.Frag} {T : List Addr} {W : WX} {t : TE} {f : FL} (h : LSim K T W t f) : ESim K T W t (fOfL f) := by
  intro hid σ H ρ M xw Q Qv r s w q p
  refine h hid σ H ρ M xw _ _ r s w q fun a xs H1 ds M1 hp hn s1 e1 h1 r1 q1 => ?_
  exact p _ H1 _ M1 s1.unhide e1 (.lst (.inl ⟨h1, (s1.hidn a List.mem_cons_self).1, hn⟩) (Car.unhide.rvs _ _ r1)) q1
theorem DL.e {X : Cx} {T : List Addr} {W : WX} {e : Expr} {f : FL} (h : DL X T W e f) : DE X T W e (fOfL f) := let ⟨t, p, s⟩ := h; ⟨t, p, s.e⟩
section
variable {K : PySem.W.Frag} {T hid : List Addr} {H H0 : Hp} {M M0 : Mu}
theorem Ext.fr (e : Ext hid H0 M0 H M) {a : Addr} (h : H a = Option.none) : H0 a = Option.none := by
  cases q : H0 a with
  | none => rfl
  | some o => exact absurd h (e.dom a (by rw [q]; exact fun z => nomatch z))
theorem PstL.new {Q : List D → Mu → Prop} {Qv : VK} (p : PstL K T hid H0 M0 Q Qv) (s : Sto K T hid H M) (e : Ext hid H0 M0 H M) {xs : List V} {ds : List D} (r : Rvs K hid H M xs ds) {a : Addr} (ha : H a = none) (q : Q ds M) : Qv (.ref a) (upd H a (.lst xs)) :=
  p a xs _ ds M (e.fr ha) (s.fresh ha).2 (s.hide ha) (e.trans (Ext.new s ha)) upd_same ((Car.hide s ha).rvs _ _ r) q
/-- the list is owned -/
theorem Car.own {p : Addr} {m : MO} : Car K (p :: hid) H M hid H (mset M p m) := by
  refine ⟨fun _ _ h => h, fun a xs h => ?_, fun _ h => h⟩
  rcases h with ⟨h1, h2, h3⟩ | h | h
  · rw [List.mem_cons, not_or] at h3
    exact .inl ⟨h1, by rw [mset_ne h3.1]; exact h2, h3.2⟩
  · exact .inr (.inl h)
  · exact .inr (.inr h)
theorem Sto.owned {p : Addr} {xs : List V} {ds : List D} (s : Sto K T (p :: hid) H M) (hn : p ∉ hid) (h : H p = some (.lst xs)) (r : Rvs K (p :: hid) H M xs ds) : Sto K T hid H (mset M p (.lst ds)) := by
  have c : Car K (p :: hid) H M hid H (mset M p (.lst ds)) := Car.own
  refine ⟨fun a m q => ?_, s.tab, fun a ha => ?_⟩
  · by_cases e : a = p
    · subst e; rw [sf] at q; cases q
      exact ⟨xs, h, c.rvs _ _ r⟩
    · rw [mset_ne e] at q
      exact (s.mem a m q).car c rfl
  · obtain ⟨h1, h2⟩ := s.hidn a (List.mem_cons_of_mem _ ha)
    exact ⟨by rw [mset_ne (by rintro rfl; exact hn ha)]; exact h1, h2⟩
theorem Ext.owned {p : Addr} {m : MO} (e : Ext hid H0 M0 H M) (h0 : H0 p = none) : Ext hid H0 M0 H (mset M p m) :=
  ⟨e.tup, e.frz, fun a xs h h' z => let ⟨k1, k2⟩ := e.lst a xs h h' z; ⟨k1, by rw [mset_ne (ne_of_none h h0)]; exact k2⟩, e.hid, e.dom, fun a h h' => by
    by_cases q : a = p
    · rw [q]; exact h0
    · rw [mset_ne q] at h'; exact e.nl a h h'⟩
end
end U

set_option Elab.async false
set_option linter.all false
set_option maxRecDepth 100000
set_option maxHeartbeats 1000000
/-! U6: expressions that make lists; comprehensions. -/
namespace U
open PySem PySem.Spec PyProof.Rows L2
section
variable {X : Cx} {T : List Addr} {W : WX}
def fLstL (g : FA) : FL := fun xw ρ M Q => g xw ρ M fun ds M1 => ds.length ≤ sizeLine ∧ Q ds M1
theorem dl_lst {es : List Expr} {g : FA} {pos : Pos} (h : DA X T W es g) : DL X T W (.List es pos) (fLstL g) := by
  obtain ⟨t, p, sa⟩ := h
  refine ⟨_, pe_lst p, fun hid σ H ρ M xw Q Qv r s w q p => ?_⟩
  refine sa hid σ H ρ M xw _ _ r s w q fun vs H1 ds M1 s1 e1 r1 q1 => ?_
  exact ⟨by rw [r1.length]; exact q1.1, fun a ha => p.new s1 e1 r1 ha q1.2⟩
/-- list(e) -/
def fListL (fa : FA) : FL := fun xw ρ M Q => fa xw ρ M fun ds M1 => match ds with
  | [d] => (match seqOf M1 d with
    | some es => Q es M1
    | none => False)
  | _ => False
theorem dl_list {x : Str} {p pos : Pos} {e : Expr} {fa : FA} (hg : Gl X x) (hm : X.mg x = none) (hv : bootBuiltins x = some (.type "list")) (ha : DA X T W [e] fa)
    (hn : x ≠ "__name__") (hdb : (x == ("__debug__" : Str)) = false)
    (he : starEach [e] X.env = (false, eval e X.env) :: starEach [] X.env) (hpl : (backTo pos (starEach [] X.env)).any (·.1) = false) : DL X T W (.Call (.Name x p) [e] [] pos) (fListL fa) := by
  obtain ⟨t, pa, sa⟩ := ha
  refine ⟨_, pe_callTy call_list_of hg hm hv pa hn hdb he hpl, fun hid σ H ρ M xw Q Qv r s w q p => ?_⟩
  refine sa hid σ H ρ M xw _ _ r s w q fun vs H1 ds M1 s1 e1 r1 q1 => ?_
  split at q1
  · rename_i d
    split at q1
    · rename_i es e
      cases r1 with
      | cons h r =>
        cases r
        obtain ⟨a, xs, rfl, h3, h4⟩ := seq_ok s1 h e
        exact ⟨_, _, rfl, h3, fun c hc => p.new s1 e1 h4 hc q1⟩
    · exact q1.elim
  · exact q1.elim
/-- a + b of lists -/
def fCatL (fa fb : FE) : FL := fun xw ρ M Q => fa xw ρ M fun x M1 => fb xw ρ M1 fun y M2 => match lstOf M2 x, lstOf M2 y with
  | some a, some b => a.length + b.length ≤ sizeLine ∧ Q (a ++ b) M2
  | _, _ => False
/-! ### comprehensions of one clause -/
abbrev xF : XW := fun _ _ => False
abbrev WF : WX := fun _ _ _ _ => False
def lcGo (b : BD) (ft : FT) (fe : FE) (ρ : Env') : List D → List D → Mu → (List D → Mu → Prop) → Prop
  | [], acc, M, Q => Q acc M
  | d :: ds, acc, M, Q => match b d ρ with
    | some ρ2 => ft xF ρ2 M fun c M1 => if c = true then fe xF ρ2 M1 fun y M2 => acc.length < sizeLine ∧ lcGo b ft fe ρ ds (acc ++ [y]) M2 Q else lcGo b ft fe ρ ds acc M1 Q
    | none => False
def fLc (fi : FI) (b : BD) (ft : FT) (fe : FE) (vs : List Nat) : FL := fun xw ρ M Q => fi xw ρ M fun ds M1 => lcGo b ft fe (wipeE ρ vs) ds [] M1 Q
theorem wok_F {K : PySem.W.Frag} {T hid : List Addr} {W : WX} {σ : L2.St} {H : Hp} {M : Mu} : WOk K T hid W σ H M xF := fun _ _ _ _ _ _ _ _ z => z.elim
theorem lc_sim {K : PySem.W.Frag} {T : List Addr} {W W' : WX} {wi : TI} {fi : FI} {g : TG} {b : BD} {tt : TT} {ft : FT} {te : TE} {fe : FE} {vs : List Nat} (hi : ISim K T W wi fi) (hg : GSim K T g b vs) (ht : TSim K T W' tt ft) (he : ESim K T W' te fe) :
    LSim K T W (tLc wi g tt te vs) (fLc fi b ft fe vs) := by
  intro hid σ H ρ M xw Q Qv r s w q p
  refine hi hid σ H ρ M xw _ _ r s w q fun J H1 M1 ds s1 e1 im q1 => ?_
  intro D hD
  have hn : D ∉ hid := (s1.fresh hD).2
  refine ⟨fun i m H2 => ∃ M2 acc accV, m = ds.length - i ∧ i ≤ ds.length ∧ Sto K T (D :: hid) H2 M2 ∧ Ext hid H1 M1 H2 M2 ∧ H2 D = some (.lst accV) ∧ Rvs K (D :: hid) H2 M2 accV acc ∧ lcGo b ft fe (wipeE ρ vs) (ds.drop i) acc M2 Q,
    ⟨ds.length, M1, [], [], by simp, Nat.zero_le _, s1.hide hD, Ext.new s1 hD, upd_same, .nil, q1⟩, ?_⟩
  rintro i m H2 ⟨M2, acc, accV, rfl, hle, s2, e2, h2, r2, q2⟩
  have c2 : Car K hid H1 M1 (D :: hid) H2 M2 := Car.of_under e2 hD
  obtain ⟨go, stop⟩ := im (D :: hid) H2 M2 s2 c2
  by_cases hlt : i < ds.length
  · refine .inr ⟨(go i hlt).1, fun H5 => ∃ M5 acc' accV', i + 1 ≤ ds.length ∧ Sto K T (D :: hid) H5 M5 ∧ Ext hid H1 M1 H5 M5 ∧ H5 D = some (.lst accV') ∧ Rvs K (D :: hid) H5 M5 accV' acc' ∧ lcGo b ft fe (wipeE ρ vs) (ds.drop (i + 1)) acc' M5 Q, ?_, ?_⟩
    · rintro H5 ⟨M5, acc', accV', h⟩
      exact ⟨ds.length - (i + 1), by omega, M5, acc', accV', rfl, h⟩
    · intro x H3 hy
      obtain ⟨d, hd, s3, e3, r3⟩ := (go i hlt).2 x H3 hy
      rw [List.drop_eq_getElem_cons hlt] at q2
      have ed : ds[i] = d := by rw [List.getElem?_eq_getElem hlt] at hd; exact Option.some.inj hd
      rw [ed] at q2
      unfold lcGo at q2
      have rw3 : REnv K (D :: hid) H3 M2 (wipe σ vs) (wipeE ρ vs) := (((r.ext e1).car c2).ext e3).wipe vs
      split at q2
      · rename_i ρ2 eb
        refine hg (D :: hid) H3 M2 (wipe σ vs) (wipeE ρ vs) x d ρ2 _ rw3 s3 r3 eb fun σ2 rr2 w2 => ⟨w2.trans wipe_wipe, ?_⟩
        refine ht (D :: hid) σ2 H3 ρ2 M2 xF _ _ rr2 s3 wok_F q2 fun c H4 M4 s4 e4 q4 => ?_
        have e14 : Ext hid H1 M1 H4 M4 := e2.under hD (e3.trans e4)
        have hD4 : H4 D = some (.lst accV) := (e3.trans e4).hid D List.mem_cons_self ⟨.lst accV, fun _ z => nomatch z⟩ h2
        cases c with
        | false => exact ⟨M4, acc, accV, hlt, s4, e14, hD4, (e3.trans e4).rvs _ _ r2, q4⟩
        | true =>
          refine he (D :: hid) σ2 H4 ρ2 M4 xF _ _ (rr2.ext e4) s4 wok_F q4 fun v H5 y M5 s5 e5 r5 q5 => ?_
          have hD5 : H5 D = some (.lst accV) := e5.hid D List.mem_cons_self ⟨.lst accV, fun _ z => nomatch z⟩ hD4
          have hl := r2.length
          have e345 := (e3.trans e4).trans e5
          have cw : Car K (D :: hid) H5 M5 (D :: hid) (upd H5 D (.lst (accV ++ [v]))) M5 := Car.whid hD5
          exact ⟨accV, hD5, by rw [hl]; exact q5.1, M5, acc ++ [y], accV ++ [v], hlt, s5.whid hD5, (e2.under hD e345).whid hD hn, upd_same, cw.rvs _ _ ((e345.rvs _ _ r2).append (.cons r5 .nil)), q5.2⟩
      · exact q2.elim
  · have ei : i = ds.length := by omega
    subst ei
    rw [List.drop_of_length_le (Nat.le_refl _)] at q2
    exact .inl ⟨stop, p D accV H2 acc M2 (e1.fr hD) hn s2 (e1.trans e2) h2 r2 q2⟩
/-- [elt for tg in iter if ..], as a value -/
theorem dl_lc {elt tg iter : Expr} {ifs : List Expr} {scope : Scope} {own : List (Str × Nat)} {pos : Pos} {fi : FI} {b : BD} {ft : FT} {fe : FE} (hc : X.calm = true) (hN : X.N.Nodup) (hi : DI X T W tg iter fi) (ok : BlkOk X.N X.env.scope scope own)
    (h : ∀ (s : Shared) (H : Hp) (C : Addr) (cl : List (Str × Addr)) (fp : List Addr), DG (X.blk s H scope (compEnvC scope cl C X.env) fp) T tg b (own.map (·.2)) ∧ DTs (X.blk s H scope (compEnvC scope cl C X.env) fp) T WF ifs ft ∧ DE (X.blk s H scope (compEnvC scope cl C X.env) fp) T WF elt fe)
    (hs : ∀ x, foldedSetIterable iter X.env x = pure x) : DL X T W (.ListComp elt [⟨tg, iter, ifs, 0⟩] scope pos) (fLc fi b ft fe (own.map (·.2))) := by
  obtain ⟨wi, pi, si⟩ := hi
  exact ⟨_, pe_lc hc hN pi ok (fun s H C cl fp => (h s H C cl fp).1.can) (fun s H C cl fp => (h s H C cl fp).2.1.can) (fun s H C cl fp => (h s H C cl fp).2.2.can) hs, lc_sim si canG_sim canT_sim canE_sim⟩
end
end U

set_option Elab.async false
set_option linter.all false
set_option maxRecDepth 100000
set_option maxHeartbeats 1000000
/-! U7: statements. -/
namespace U
open PySem PySem.Spec PyProof.Rows L2
section
variable {X : Cx} {T : List Addr} {W : WX}
abbrev xwAt (E : FEnds) (ρ : Env') : XW := fun xd M' => E.xw xd ρ M'
def fPass : FS := fun E ρ M => E.nx ρ M
theorem dss_nil : DSs X T W [] fPass := ⟨_, pss_nil, fun hid σ H ρ M E D r s w q k => k.nx σ H ρ M r s (Ext.refl _ _ _) q⟩
def fThen (f g : FS) : FS := fun E ρ M => f { E with nx := g E } ρ M
theorem EndsOk.then {K : PySem.W.Frag} {T hid : List Addr} {W : WX} {H : Hp} {M : Mu} {E : FEnds} {D : Ends} {t : TS} {g : FS} (k : EndsOk K T hid H M E D) (w : WOkS K T hid W H M E.xw) (h : SSim K T W t g) : EndsOk K T hid H M { E with nx := g E } { D with nx := t D } :=
  ⟨fun σ' H' ρ' M' r s e q => h hid σ' H' ρ' M' E D r s (w.ext e) q (k.ext e), k.rt, k.bk, k.ct⟩
theorem dss_cons {st : Stmt} {rest : List Stmt} {f g : FS} (h1 : DS X T W st f) (h2 : DSs X T W rest g) : DSs X T W (st :: rest) (fThen f g) := by
  obtain ⟨t, p, a⟩ := h1
  obtain ⟨u, p2, b⟩ := h2
  exact ⟨_, pss_cons p p2, fun hid σ H ρ M E D r s w q k => a hid σ H ρ M { E with nx := g E } _ r s w q (EndsOk.then (g := g) k w b)⟩
theorem dss_one {st : Stmt} {f : FS} (h1 : DS X T W st f) : DSs X T W [st] f := let ⟨t, p, a⟩ := h1; ⟨t, pss_one p, a⟩
def fBreak : FS := fun E ρ M => E.bk ρ M
def fCont : FS := fun E ρ M => E.ct ρ M
def fExpr (f : FE) : FS := fun E ρ M => f (xwAt E ρ) ρ M fun _ M1 => E.nx ρ M1
theorem ds_expr {e : Expr} {f : FE} {pos : Pos} (h : DE X T W e f) (hs : swapsWith e none pos.line X.env = pure false) : DS X T W (.Expr e pos) (fExpr f) := by
  obtain ⟨t, p, sa⟩ := h
  refine ⟨_, ps_expr p hs, fun hid σ H ρ M E D r s w q k => ?_⟩
  exact sa hid σ H ρ M _ _ _ r s (w.at r) q fun v H1 d M1 s1 e1 r1 q1 => k.nx σ H1 ρ M1 (r.ext e1) s1 e1 q1
def fRet (f : FE) : FS := fun E ρ M => f (xwAt E ρ) ρ M E.rt
theorem ds_ret {e : Expr} {f : FE} {pos : Pos} (h : DE X T W e f) : DS X T W (.Return (some e) pos) (fRet f) := by
  obtain ⟨t, p, sa⟩ := h
  exact ⟨_, ps_ret p, fun hid σ H ρ M E D r s w q k => sa hid σ H ρ M _ _ _ r s (w.at r) q k.rt⟩
def fRetN : FS := fun E _ M => E.rt .non M
def fIfS (c : FT) (f g : FS) : FS := fun E ρ M => c (xwAt E ρ) ρ M fun b M1 => if b = true then f E ρ M1 else g E ρ M1
theorem ds_if {c : Expr} {a b : List Stmt} {fc : FT} {f g : FS} {pos : Pos} (hc : DT X T W c fc) (ha : DSs X T W a f) (hb : DSs X T W b g) : DS X T W (.If c a b pos) (fIfS fc f g) := by
  obtain ⟨tc, pc, sc⟩ := hc
  obtain ⟨t, pa, sa⟩ := ha
  obtain ⟨u, pb, sb⟩ := hb
  refine ⟨_, ps_if pc pa pb, fun hid σ H ρ M E D r s w q k => ?_⟩
  refine sc hid σ H ρ M _ _ _ r s (w.at r) q fun c H1 M1 s1 e1 q1 => ?_
  cases c with
  | true => exact sa hid σ H1 ρ M1 E D (r.ext e1) s1 (w.ext e1) q1 (k.ext e1)
  | false => exact sb hid σ H1 ρ M1 E D (r.ext e1) s1 (w.ext e1) q1 (k.ext e1)

/-! ### assignments -/
def fSet (i : Nat) (f : FE) : FS := fun E ρ M => f (xwAt E ρ) ρ M fun d M1 => E.nx (ρ.set i (some d)) M1
theorem set_sim {K : PySem.W.Frag} {i : Nat} {t : TE} {f : FE} (h : ESim K T W t f) : SSim K T W (tAsg t (gName i)) (fSet i f) := fun hid σ H ρ M E D r s w q k =>
  h hid σ H ρ M _ _ _ r s (w.at r) q fun v H1 d M1 s1 e1 r1 q1 => k.nx _ H1 _ M1 ((r.ext e1).set i r1) s1 e1 q1
theorem ds_set {i : Nat} {x : Str} {e : Expr} {f : FE} {pos pos' : Pos} (hN : X.N.Nodup) (hi : X.N[i]? = some x) (hx : Loc X.env.scope x) (he : DE X T W e f) (hs : swapsWith e (some (.Name x pos')) pos.line X.env = pure false) (hf : X.fn x = true ∨ X.env.scope.names.lookup x = some .local) :
    DS X T W (.Assign [.Name x pos'] e pos) (fSet i f) := by
  obtain ⟨t, p, sa⟩ := he
  exact ⟨_, ps_set hN hi hx p hs hf, set_sim sa⟩
/-- a new list that the name owns -/
def fOwn (i : Nat) (f : FL) : FS := fun E ρ M => f (xwAt E ρ) ρ M fun ds M1 => ∀ p, M p = none → M1 p = none → E.nx (ρ.set i (some (.loc p))) (mset M1 p (.lst ds))
theorem own_sim {K : PySem.W.Frag} {i : Nat} {t : TE} {f : FL} (h : LSim K T W t f) : SSim K T W (tAsg t (gName i)) (fOwn i f) := fun hid σ H ρ M E D r s w q k =>
  h hid σ H ρ M _ _ _ r s (w.at r) q fun p xs H1 ds M1 hp hn s1 e1 h1 r1 q1 =>
    have e2 : Ext hid H M H1 (mset M1 p (.lst ds)) := e1.owned hp
    k.nx _ H1 _ _ ((r.ext e2).set i (.loc p)) (s1.owned hn h1 r1) e2 (q1 p (s.fresh hp).1 (s1.hidn p List.mem_cons_self).1)
theorem ds_own {i : Nat} {x : Str} {e : Expr} {f : FL} {pos pos' : Pos} (hN : X.N.Nodup) (hi : X.N[i]? = some x) (hx : Loc X.env.scope x) (he : DL X T W e f) (hs : swapsWith e (some (.Name x pos')) pos.line X.env = pure false) (hf : X.fn x = true ∨ X.env.scope.names.lookup x = some .local) :
    DS X T W (.Assign [.Name x pos'] e pos) (fOwn i f) := by
  obtain ⟨t, p, sa⟩ := he
  exact ⟨_, ps_set hN hi hx p hs hf, own_sim sa⟩
/-- target = value, the target a tuple of names -/
def fAsg (f : FE) (b : BD) : FS := fun E ρ M => f (xwAt E ρ) ρ M fun d M1 => match b d ρ with
  | some ρ1 => E.nx ρ1 M1
  | none => False
theorem ds_asg {tg e : Expr} {f : FE} {b : BD} {vs : List Nat} {pos : Pos} (he : DE X T W e f) (hg : DG X T tg b vs) (hs : swapsWithSole [tg] e pos.line X.env = pure false) (hw : swappedStores [tg] e X.env = pure none)
    (h1 : (assignEach [tg] X.env).map (·.2) = [assign tg X.env]) : DS X T W (.Assign [tg] e pos) (fAsg f b) := by
  obtain ⟨t, p, sa⟩ := he
  obtain ⟨g, pg, sg⟩ := hg
  refine ⟨_, ps_asg p pg hs hw h1, fun hid σ H ρ M E D r s w q k => ?_⟩
  refine sa hid σ H ρ M _ _ _ r s (w.at r) q fun v H1 d M1 s1 e1 r1 q1 => ?_
  split at q1
  · rename_i ρ1 eb
    exact sg hid H1 M1 σ ρ v d ρ1 _ (r.ext e1) s1 r1 eb fun σ' r' _ => k.nx σ' H1 ρ1 M1 r' s1 e1 q1
  · exact q1.elim
/-- a, b = x, y -/
def fPar (i j : Nat) (fa : FA) : FS := fun E ρ M => fa (xwAt E ρ) ρ M fun ds M1 => match ds with
  | [d, e] => E.nx ((ρ.set i (some d)).set j (some e)) M1
  | _ => False
/-- o[i] = e -/
def gSetIx (o i v : D) (M : Mu) (k : Mu → Prop) : Prop := match o, i with
  | .loc a, .int z => (match M a with
    | some (.lst ds) => (match ixN ds.length z with
      | some j => k (mset M a (.lst (ds.set j v)))
      | none => False)
    | _ => False)
  | _, _ => False
def fSetIx (fo fi fe : FE) : FS := fun E ρ M => fe (xwAt E ρ) ρ M fun v M1 => fo (xwAt E ρ) ρ M1 fun o M2 => fi (xwAt E ρ) ρ M2 fun i M3 => gSetIx o i v M3 fun M4 => E.nx ρ M4
theorem ds_setIx {o i e : Expr} {fo fi fe : FE} {tpos pos : Pos} (ho : DE X T W o fo) (hi : DE X T W i fi) (he : DE X T W e fe)
    (ha : ∀ v, assign (.Subscript o i tpos) X.env v = (do
      let ov ← holding [v] (eval o X.env)
      let iv ← holding [v, ov] (eval i X.env)
      standAt tpos
      holding [v, ov, iv] (setItem ov iv v)
      release [v, ov, iv] []))
    (hs : swapsWithSole [.Subscript o i tpos] e pos.line X.env = pure false) (hw : swappedStores [.Subscript o i tpos] e X.env = pure none)
    (h1 : (assignEach [.Subscript o i tpos] X.env).map (·.2) = [assign (.Subscript o i tpos) X.env]) : DS X T W (.Assign [.Subscript o i tpos] e pos) (fSetIx fo fi fe) := by
  obtain ⟨to, po, so⟩ := ho
  obtain ⟨ti, pi, si⟩ := hi
  obtain ⟨te, pe, se⟩ := he
  refine ⟨_, ps_asg pe (pg_sub po pi set_list ha) hs hw h1, fun hid σ H ρ M E D r s w q k => ?_⟩
  refine se hid σ H ρ M _ _ _ r s (w.at r) q fun v H1 d M1 s1 e1 r1 q1 => ?_
  refine so hid σ H1 ρ M1 _ _ _ (r.ext e1) s1 ((w.at r).ext e1) q1 fun ov H2 od M2 s2 e2 r2 q2 => ?_
  refine si hid σ H2 ρ M2 _ _ _ (r.ext (e1.trans e2)) s2 ((w.at r).ext (e1.trans e2)) q2 fun iv H3 id M3 s3 e3 r3 q3 => ?_
  unfold gSetIx at q3
  split at q3
  · rename_i a z
    split at q3
    · rename_i ds em
      split at q3
      · rename_i j ej
        cases r3
        have r2' : ov = .ref a := by cases r2; rfl
        subst r2'
        obtain ⟨xs, h4, h5, _⟩ := s3.at em
        have rv : Rv X.K hid H3 M3 v d := (e2.trans e3).rv _ _ r1
        refine ⟨a, xs, z, j, rfl, rfl, h4, by rw [h5.length]; exact ej, ?_⟩
        have ew := Ext.wr (es := ds.set j d) (xs := xs.set j v) s3 em
        have e13 := (e1.trans e2).trans (e3.trans ew)
        exact k.nx σ _ ρ _ (r.ext e13) (s3.wr em (h5.set j rv)) e13 q3
      · exact q3.elim
    · exact q3.elim
  · exact q3.elim

/-! ### name op= e -/
def gIadd : G2 := fun x y M Q => match x, y with
  | .int i, .int j => Q (.int (i + j)) M
  | .loc a, y => (match M a, lstOf M y with
    | some (.lst ds), some es => ds.length + es.length ≤ sizeLine ∧ Q (.loc a) (mset M a (.lst (ds ++ es)))
    | _, _ => False)
  | .tup ds, .tup es => ds.length + es.length ≤ sizeLine ∧ Q (.tup (ds ++ es)) M
  | _, _ => False
def fAug (i : Nat) (g : G2) (f : FE) : FS := fun E ρ M => match ρ[i]? with
  | some (some d) => f (xwAt E ρ) ρ M fun y M1 => g d y M1 fun z M2 => E.nx (ρ.set i (some z)) M2
  | _ => False
/-! ### a list that is written no more -/
def fFrz (i : Nat) (f : FS) : FS := fun E ρ M => match ρ[i]? with
  | some (some (.loc a)) => (match M a with
    | some (.lst ds) => f E (ρ.set i (some (.lst ds))) (mdel M a)
    | _ => False)
  | _ => False
theorem dss_frz {i : Nat} {sts : List Stmt} {f : FS} (h : DSs X T W sts f) : DSs X T W sts (fFrz i f) := by
  obtain ⟨t, p, sa⟩ := h
  refine ⟨t, p, fun hid σ H ρ M E D r s w q k => ?_⟩
  unfold fFrz at q
  split at q
  · rename_i a ea
    split at q
    · rename_i ds em
      obtain ⟨v, h1, h2⟩ := r.2 i _ ea
      cases h2
      obtain ⟨xs, h3, h4, h5⟩ := s.at em
      have e : Ext hid H M H (mdel M a) := Ext.frees (.inr trivial)
      have rl : Rv X.K hid H (mdel M a) (.ref a) (.lst ds) := .lst (.inl ⟨h3, mdel_same, h5⟩) (e.rvs _ _ h4)
      have hs : σ.set i (some (.ref a)) = σ := by
        apply List.ext_getElem?
        intro j
        by_cases z : i = j
        · subst z
          have hlt := (List.getElem?_eq_some_iff.mp h1).1
          rw [List.getElem?_set_self hlt, h1]
        · rw [List.getElem?_set_ne z]
      have r' := (r.ext e).set i rl
      rw [hs] at r'
      exact sa hid σ H _ _ E D r' (s.frees a) (w.ext e) q (k.ext e)
    · exact q.elim
  · exact q.elim

/-! ### loops -/
def forGo (b : BD) (f : FS) : List D → FEnds → Env' → Mu → Prop
  | [], E, ρ, M => E.nx ρ M
  | d :: ds, E, ρ, M => match b d ρ with
    | some ρ2 => f { E with nx := forGo b f ds E, ct := forGo b f ds E, bk := E.nx } ρ2 M
    | none => False
def fFor (fi : FI) (b : BD) (f : FS) : FS := fun E ρ M => fi (xwAt E ρ) ρ M fun ds M1 => forGo b f ds E ρ M1
theorem ds_for {tg iter : Expr} {body : List Stmt} {fi : FI} {b : BD} {f : FS} {vs : List Nat} {pos : Pos} (hp : PassesOwn (model X.prog X.w) X.A X.env X.xe) (hc : X.calm = true) (hi : DI X T W tg iter fi) (hg : DG X T tg b vs) (hb : DSs X T W body f)
    (hs : ∀ x, foldedSetIterable iter X.env x = pure x) : DS X T W (.For tg iter body [] pos) (fFor fi b f) := by
  obtain ⟨wi, pi, si⟩ := hi
  obtain ⟨g, pg, sg⟩ := hg
  obtain ⟨t, pb, sb⟩ := hb
  refine ⟨_, ps_for hp hc pi pg pb hs, fun hid σ H ρ M E D r s w q k => ?_⟩
  refine si hid σ H ρ M _ _ _ r s (w.at r) q fun J H1 M1 ds s1 e1 im q1 => ?_
  refine ⟨fun i m σ2 H2 => ∃ ρ2 M2, m = ds.length - i ∧ i ≤ ds.length ∧ REnv X.K hid H2 M2 σ2 ρ2 ∧ Sto X.K T hid H2 M2 ∧ Ext hid H1 M1 H2 M2 ∧ forGo b f (ds.drop i) E ρ2 M2,
    ⟨ds.length, ρ, M1, by simp, Nat.zero_le _, r.ext e1, s1, Ext.refl _ _ _, q1⟩, ?_⟩
  rintro i m σ2 H2 ⟨ρ2, M2, rfl, hle, r2, s2, e2, q2⟩
  obtain ⟨go, stop⟩ := im hid H2 M2 s2 e2.car
  by_cases hlt : i < ds.length
  · refine .inr ⟨(go i hlt).1, fun σ5 H5 => ∃ ρ5 M5, REnv X.K hid H5 M5 σ5 ρ5 ∧ Sto X.K T hid H5 M5 ∧ Ext hid H1 M1 H5 M5 ∧ forGo b f (ds.drop (i + 1)) E ρ5 M5, ?_, ?_⟩
    · rintro σ5 H5 ⟨ρ5, M5, h1, h2, h3, h4⟩
      exact ⟨ds.length - (i + 1), by omega, ρ5, M5, rfl, hlt, h1, h2, h3, h4⟩
    · intro x H3 hy
      obtain ⟨d, hd, s3, e3, r3⟩ := (go i hlt).2 x H3 hy
      rw [List.drop_eq_getElem_cons hlt] at q2
      have ed : ds[i] = d := by rw [List.getElem?_eq_getElem hlt] at hd; exact Option.some.inj hd
      rw [ed] at q2
      unfold forGo at q2
      split at q2
      · rename_i ρ3 eb
        refine sg hid H3 M2 σ2 ρ2 x d ρ3 _ (r2.ext e3) s3 r3 eb fun σ3 r4 _ => ?_
        have e13 := e2.trans e3
        refine sb hid σ3 H3 ρ3 M2 { E with nx := forGo b f (ds.drop (i + 1)) E, ct := forGo b f (ds.drop (i + 1)) E, bk := E.nx } _ r4 s3 (w.ext (e1.trans e13)) q2 ⟨fun σ5 H5 ρ5 M5 r5 s5 e5 q5 => ?_, k.rt.ext (e1.trans e13), fun σ5 H5 ρ5 M5 r5 s5 e5 q5 => ?_, fun σ5 H5 ρ5 M5 r5 s5 e5 q5 => ?_⟩
        · exact ⟨ρ5, M5, r5, s5, e13.trans e5, q5⟩
        · exact k.nx σ5 H5 ρ5 M5 r5 s5 ((e1.trans e13).trans e5) q5
        · exact ⟨ρ5, M5, r5, s5, e13.trans e5, q5⟩
      · exact q2.elim
  · have ei : i = ds.length := by omega
    subst ei
    rw [List.drop_of_length_le (Nat.le_refl _)] at q2
    exact .inl ⟨stop, k.nx σ2 H2 ρ2 M2 r2 s2 (e1.trans e2) q2⟩
def fWhile (c : FT) (f : FS) : FS := fun E ρ M => ∃ Wn : Nat → Env' → Mu → Prop, (∃ m, Wn m ρ M) ∧ ∀ m ρ M, Wn m ρ M → c (xwAt E ρ) ρ M fun b M1 =>
  if b = true then f { E with nx := fun ρ' M' => ∃ m', m' < m ∧ Wn m' ρ' M', ct := fun ρ' M' => ∃ m', m' < m ∧ Wn m' ρ' M', bk := E.nx } ρ M1 else E.nx ρ M1
end
end U

set_option Elab.async false
set_option linter.all false
set_option maxRecDepth 100000
set_option maxHeartbeats 1000000
/-! U8: defs: what they promise, calls, bodies; where one stands. -/
namespace U
open PySem PySem.Spec PyProof.Rows L2

/-! ### methods of lists that are written -/
section
variable {X : Cx} {T : List Addr} {W : WX}
def fAppend (fo : FE) (fa : FA) : FE := fun xw ρ M Q => fo xw ρ M fun o M1 => (match o with
  | .loc a => (match M1 a with
    | some (.lst _) => fa xw ρ M1 fun ds M2 => (match ds with
      | [d] => (match M2 a with
        | some (.lst es) => es.length < sizeLine ∧ Q .non (mset M2 a (.lst (es ++ [d])))
        | _ => False)
      | _ => False)
    | _ => False)
  | _ => False)
theorem de_append {o e : Expr} {fo : FE} {fa : FA} {apos cpos : Pos} (ho : DE X T W o fo) (ha : DA X T W [e] fa) (hbase : attributeBase o "append" X.env (eval o X.env) = eval o X.env)
    (hfew : ((backTo cpos (starEach [e] X.env)).all (fun x => !x.1) && (backToKw cpos (keywordEach [] X.env)).all (fun x => x.1.isSome)
      && decide ([e].length + ([] : List Keyword).length + (if ([] : List Keyword).isEmpty then 0 else 1) < 30)) = true)
    (hline : (apos.endLine == cpos.line) = true) (hs : starEach [e] X.env = (false, eval e X.env) :: starEach [] X.env) (hplain : (backTo cpos (starEach [] X.env)).any (·.1) = false) :
    DE X T W (.Call (.Attribute o "append" apos) [e] [] cpos) (fAppend fo fa) := by
  obtain ⟨to, po, so⟩ := ho
  obtain ⟨ta, pa, sa⟩ := ha
  refine ⟨_, pe_bm PySem.F.plainAttrs_list PySem.F.slot_list_append PySem.F.type_list_append mt_append po pa hbase hfew hline hs hplain, fun hid σ H ρ M xw Q Qv r s w q p => ?_⟩
  refine so hid σ H ρ M xw _ _ r s w q fun v H1 d M1 s1 e1 r1 q1 => ?_
  split at q1
  · rename_i a
    split at q1
    · rename_i ds0 em0
      cases r1
      obtain ⟨xs0, h0, _, _⟩ := s1.at em0
      refine ⟨.inl ⟨rfl, _, SqL.of h0⟩, ?_⟩
      refine sa hid σ H1 ρ M1 xw _ _ (r.ext e1) s1 (w.ext e1) q1 fun vs H2 ds M2 s2 e2 r2 q2 => ?_
      split at q2
      · rename_i d
        split at q2
        · rename_i es em
          cases r2 with
          | cons h r2 =>
            cases r2
            obtain ⟨xs, h4, h5, _⟩ := s2.at em
            have l1 := h5.length
            exact ⟨a, xs, _, rfl, rfl, h4, by rw [l1]; exact q2.1, p _ _ _ _ (s2.wr em (h5.append (.cons h .nil))) ((e1.trans e2).trans (Ext.wr s2 em)) .non q2.2⟩
        · exact q2.elim
      · exact q2.elim
    · exact q1.elim
  · exact q1.elim
/-- o.pop() -/
def fPop (fo : FE) : FE := fun xw ρ M Q => fo xw ρ M fun o M1 => (match o with
  | .loc a => (match M1 a with
    | some (.lst es) => (match es.getLast? with
      | some d => Q d (mset M1 a (.lst es.dropLast))
      | none => False)
    | _ => False)
  | _ => False)
theorem de_pop {o : Expr} {fo : FE} {apos cpos : Pos} (ho : DE X T W o fo) (hbase : attributeBase o "pop" X.env (eval o X.env) = eval o X.env) (hline : (apos.endLine == cpos.line) = true) :
    DE X T W (.Call (.Attribute o "pop" apos) [] [] cpos) (fPop fo) := by
  obtain ⟨to, po, so⟩ := ho
  refine ⟨_, pe_bm0 PySem.F.plainAttrs_list PySem.F.slot_list_pop PySem.F.type_list_pop mt_pop po hbase hline, fun hid σ H ρ M xw Q Qv r s w q p => ?_⟩
  refine so hid σ H ρ M xw _ _ r s w q fun v H1 d M1 s1 e1 r1 q1 => ?_
  split at q1
  · rename_i a
    split at q1
    · rename_i es em
      split at q1
      · rename_i d ed
        cases r1
        obtain ⟨xs, h4, h5, _⟩ := s1.at em
        have l1 := h5.length
        rw [List.getLast?_eq_getElem?] at ed
        obtain ⟨y, h6, h7⟩ := h5.get _ ed
        refine ⟨.inl ⟨rfl, _, SqL.of h4⟩, a, xs, y, rfl, rfl, h4, by rw [l1]; exact h6, ?_⟩
        have ew := Ext.wr (es := es.dropLast) (xs := xs.dropLast) s1 em
        exact p _ _ _ _ (s1.wr em h5.dropLast) (e1.trans ew) (ew.rv _ _ h7) q1
      · exact q1.elim
    · exact q1.elim
  · exact q1.elim
end

/-! ### promises -/
abbrev FSpec := List D → Mu → (D → Mu → Prop) → XW → Prop
def spOf (K : PySem.W.Frag) (T : List Addr) (S : FSpec) : Sp := fun vs H Q E => ∃ hid ds M Qd xw, Sto K T hid H M ∧ Rvs K hid H M vs ds ∧ S ds M Qd xw ∧ Pst K T hid H M Qd Q ∧
  ∀ cls dd H' M' xd, Sto K T hid H' M' → Ext hid H M H' M' → XR K hid H' M' cls dd xd → xw xd M' → E cls dd H'
/-- the module's name x is a def of n parameters that keeps the promise S -/
structure Fn (P : Program) (w : World) (K : PySem.W.Frag) (mg : Str → Option Value) (base : Heap) (T : List Addr) (k : Nat) (x : Str) (S : FSpec) : Prop where
  ex : ∃ f fd ps, mg x = some (.ref f) ∧ PySem.W.keepIn K (.ref f) = true ∧ Binds K fd ps [] ∧ FnOk P w K mg base (L2.CX P w) k f fd ps (spOf K T S)
theorem Fn.mono {P : Program} {w : World} {K : PySem.W.Frag} {mg : Str → Option Value} {base : Heap} {T : List Addr} {j k : Nat} {x : Str} {S : FSpec} (F : Fn P w K mg base T j x S) (h : j ≤ k) : Fn P w K mg base T k x S :=
  let ⟨f, fd, ps, a, b, c, d⟩ := F.ex; ⟨f, fd, ps, a, b, c, d.mono h⟩
theorem Fn.imp {P : Program} {w : World} {K : PySem.W.Frag} {mg : Str → Option Value} {base : Heap} {T : List Addr} {k : Nat} {x : Str} {S S' : FSpec} (F : Fn P w K mg base T k x S) (h : ∀ ds M Q xw, S' ds M Q xw → S ds M Q xw) : Fn P w K mg base T k x S' :=
  let ⟨f, fd, ps, a, b, c, d⟩ := F.ex
  ⟨f, fd, ps, a, b, c, d.imp fun vs H Q E ⟨hid, ds, M, Qd, xw, h1, h2, h3, h4⟩ => ⟨hid, ds, M, Qd, xw, h1, h2, h _ _ _ _ h3, h4⟩⟩
def fCall (S : FSpec) (fa : FA) : FE := fun xw ρ M Q => fa xw ρ M fun ds M1 => S ds M1 Q xw
section
variable {X : Cx} {T : List Addr} {W : WX}
theorem de_call {k : Nat} {x : Str} {S : FSpec} {p pos : Pos} {e : Expr} {es : List Expr} {fa : FA} (F : Fn X.prog X.w X.K X.mg X.base T k x S) (hr : Room k X.A) (tk : Takes X W) (hg : Gl X x) (ha : DA X T W (e :: es) fa) (hdb : (x == ("__debug__" : Str)) = false)
    (he : starEach (e :: es) X.env = (false, eval e X.env) :: starEach es X.env) (hpl : (backTo pos (starEach es X.env)).any (·.1) = false) : DE X T W (.Call (.Name x p) (e :: es) [] pos) (fCall S fa) := by
  obtain ⟨f, fd, ps, hm, hk, hb, G⟩ := F.ex
  obtain ⟨t, pa, sa⟩ := ha
  refine ⟨_, pe_callS G hr hg hm hk hb (fun σ => passAt tk σ) pa hdb he hpl, fun hid σ H ρ M xw Q Qv r s w q p => ?_⟩
  refine sa hid σ H ρ M xw _ _ r s w q fun vs H1 ds M1 s1 e1 r1 q1 => ?_
  exact ⟨hid, ds, M1, Q, xw, s1, r1, q1, p.ext e1, fun cls dd H' M' xd s2 e2 x2 q2 => w cls dd H' M' xd s2 (e1.trans e2) x2 q2⟩
end

/-! ### where one stands -/
structure Std (P : Program) (w : World) (K : PySem.W.Frag) (mg : Str → Option Value) (base : Heap) (N : List Str) (sc : Scope) (fn : Str → Bool) (k : Nat) (W : WX) (X : Cx) : Prop where
  eP : X.prog = P
  ew : X.w = w
  eK : X.K = K
  em : X.mg = mg
  eb : X.base = base
  eN : X.N = N
  nd : N.Nodup
  es : X.env.scope = sc
  fn : ∀ x, fn x = true → X.fn x = true
  calm : X.calm = true
  takes : Takes X W
  pass : PassesOwn (model X.prog X.w) X.A X.env X.xe
  room : Room k X.A
section
variable {P : Program} {w : World} {K : PySem.W.Frag} {mg : Str → Option Value} {base : Heap} {N ps : List Str} {sc : Scope} {fn : Str → Bool} {k : Nat} {W : WX} {X : Cx} {T : List Addr}
theorem Std.blk (g : Std P w K mg base N sc fn k W X) (s : Shared) (H : Hp) (scope : Scope) (C : Addr) (cl : List (Str × Addr)) (fp : List Addr) :
    Std P w K mg base N (relS scope sc) (fun x => scope.names.lookup x == some .cell) k WF (X.blk s H scope (compEnvC scope cl C X.env) fp) :=
  ⟨g.eP, g.ew, g.eK, g.em, g.eb, g.eN, g.nd, by rw [← g.es]; rfl, fun _ h => h, g.calm, takes0, PassesOwn.never, g.room⟩
/-- the data of a def's body -/
def zi (N : List Str) (ds : List D) : Env' := ds.map some ++ List.replicate (N.length - ds.length) none
def zh (N : List Str) (f : FS) (ds : List D) (M : Mu) (Q : D → Mu → Prop) (xw : XW) : Prop :=
  f { nx := fun _ M' => Q .non (mres M' M), rt := fun d M' => Q d (mres M' M), xw := fun xd _ M' => xw xd (mres M' M) } (zi N ds) M
theorem Ext.res {hid : List Addr} {H : Hp} {M M' : Mu} : Ext hid H M' H (mres M' M) := Ext.less fun a h => by unfold mres; split <;> first | rfl | exact h
theorem Sto.res {hid : List Addr} {H : Hp} {M M' : Mu} (s : Sto K T hid H M') : Sto K T hid H (mres M' M) := by
  have e : Ext hid H M' H (mres M' M) := Ext.res
  refine ⟨fun a m h => ?_, s.tab, fun a ha => ?_⟩
  · have h' : M' a = some m := by
      unfold mres at h
      split at h
      · cases h
      · exact h
    exact (s.mem a m h').ext e rfl
  · obtain ⟨h1, h2⟩ := s.hidn a ha
    exact ⟨by unfold mres; split <;> first | rfl | exact h1, h2⟩
theorem XR.ext {hid : List Addr} {H H' : Hp} {M M' : Mu} {cls : Value} {dd : Option Addr} {xd : XD} (e : Ext hid H M H' M') (hh : H' = H) (x : XR K hid H M cls dd xd) : XR K hid H' M' cls dd xd := by
  subst hh
  obtain ⟨h1, h2⟩ := x
  refine ⟨h1, ?_⟩
  rcases h2 with h2 | ⟨n0, d, fvs, a, b, c, r⟩
  · exact .inl h2
  · exact .inr ⟨n0, d, fvs, a, b, c, e.rvs _ _ r⟩
/-- THE RULE for a def -/
theorem fn_okF {x qual : Str} {params : Arguments} {body : List Stmt} {f : Addr} {fd : FuncData} {S : FSpec} {fs : FS} (F : FunD K x qual params body sc [] [] f fd) (sco : FnScope N ps sc)
    (har : ∀ ds M Q xw, S ds M Q xw → ds.length = ps.length)
    (hd : ∀ X W, Std P w K mg base N sc (fun _ => true) k W X → DSs X T W body fs)
    (hs : ∀ ds M Q xw, S ds M Q xw → zh N fs ds M Q xw) : FnOk P w K mg base (L2.CX P w) (k + 1) f fd ps (spOf K T S) := by
  refine F.ok sco (fun vs H Q E h => ?_) fun cdv A outer s H vs Q E hr h => ?_
  · obtain ⟨hid, ds, M, Qd, xw, s, r, q, _⟩ := h
    rw [r.length]
    exact har ds M Qd xw q
  · obtain ⟨hid, ds, M, Qd, xw, st, r, q, po, px⟩ := h
    have hl : vs.length = ds.length := r.length
    have g : Std P w K mg base N sc (fun _ => true) k (fun cls d _ H' => E cls d H') (cxOf (L2.CX P w) P w K mg base N qual sc f cdv A outer s H E) :=
      ⟨rfl, rfl, rfl, rfl, rfl, rfl, sco.nd, rfl, fun _ _ => rfl, rfl, takes_of rfl rfl rfl rfl, passes_of rfl, hr⟩
    obtain ⟨t, p, sim⟩ := hd _ _ g
    refine ⟨t, p, sim hid _ H (zi N ds) M { nx := fun _ M' => Qd .non (mres M' M), rt := fun d M' => Qd d (mres M' M), xw := fun xd _ M' => xw xd (mres M' M) } _ ⟨?_, fun i d hi => ?_⟩ st (fun cls dd σ' H' ρ' M' xd r' s' e' x' q' => ?_) (hs ds M Qd xw q) ⟨?_, ?_, fun _ _ _ _ _ _ _ z => z, fun _ _ _ _ _ _ _ z => z⟩⟩
    · unfold zi L2.start
      rw [List.length_append, List.length_append, List.length_map, List.length_map, List.length_replicate, List.length_replicate, hl]
    · unfold zi at hi
      have hi' : i < ds.length := by
        by_cases h : i < ds.length
        · exact h
        · rw [List.getElem?_append_right (by simpa using h), List.getElem?_replicate] at hi
          split at hi <;> cases hi
      rw [List.getElem?_append_left (by simpa using hi'), List.getElem?_map] at hi
      have hd' : ds[i]? = some d := by
        cases e : ds[i]? with
        | none => rw [e] at hi; cases hi
        | some a => rw [e] at hi; cases hi; rfl
      obtain ⟨v, h1, h2⟩ := r.get i hd'
      refine ⟨v, ?_, h2⟩
      unfold L2.start
      rw [List.getElem?_append_left (by rw [List.length_map]; omega), List.getElem?_map, h1]
      rfl
    · exact px cls dd H' (mres M' M) xd s'.res (e'.trans Ext.res) (x'.ext Ext.res rfl) q'
    · intro σ' H' ρ' M' r' s' e' q'
      exact po _ H' _ (mres M' M) s'.res (e'.trans Ext.res) .non q'
    · intro v H' d M' s' e' r' q'
      exact po v H' d (mres M' M) s'.res (e'.trans Ext.res) ((Ext.res (M := M)).rv _ _ r') q'
theorem fn_ok {x qual : Str} {params : Arguments} {body : List Stmt} {f : Addr} {fd : FuncData} {S : FSpec} {fs : FS} {nm : Str} (F : FunD K x qual params body sc [] [] f fd) (hm : mg nm = some (.ref f)) (sco : FnScope N ps sc) (hb : Binds K fd ps [])
    (har : ∀ ds M Q xw, S ds M Q xw → ds.length = ps.length)
    (hd : ∀ X W, Std P w K mg base N sc (fun _ => true) k W X → DSs X T W body fs)
    (hs : ∀ ds M Q xw, S ds M Q xw → zh N fs ds M Q xw) : Fn P w K mg base T (k + 1) nm S := ⟨f, fd, ps, hm, F.kp, hb, fn_okF F sco har hd hs⟩
end
end U

set_option Elab.async false
set_option linter.all false
set_option maxRecDepth 100000
set_option maxHeartbeats 1000000
/-! U9: the rules as they are printed: n_ for an expression, t_ for a test, s_ for a statement. -/
namespace U
open PySem PySem.Spec PyProof.Rows L2
/-- the built-in names that no module of the program binds -/
structure Fr (mg : Str → Option Value) : Prop where
  len : mg "len" = none
  int : mg "int" = none
  list : mg "list" = none
  tuple : mg "tuple" = none
  range : mg "range" = none
  zip : mg "zip" = none
  enumerate : mg "enumerate" = none
  reversed : mg "reversed" = none
  any : mg "any" = none
  all : mg "all" = none
  sum : mg "sum" = none
  sorted : mg "sorted" = none
  set : mg "set" = none
  max : mg "max" = none
  min : mg "min" = none
  isinstance : mg "isinstance" = none
  bool : mg "bool" = none
  str : mg "str" = none
  dict : mg "dict" = none
def frNames : List Str := ["len", "int", "list", "tuple", "range", "zip", "enumerate", "reversed", "any", "all", "sum", "sorted", "set", "max", "min", "isinstance", "bool", "str", "dict"]
theorem Fr.of {mg : Str → Option Value} (h : ∀ x ∈ frNames, mg x = none) : Fr mg := by
  constructor <;> exact h _ (by simp [frNames])

/-- a op b op' c -/
def fChain (g g' : G2) (fa fb fc : FE) : FE := fun xw ρ M Q => fa xw ρ M fun x M1 => fb xw ρ M1 fun y M2 => g x y M2 fun z M3 => match z with
  | .bl k => if k = true then fc xw ρ M3 fun u M4 => g' y u M4 Q else Q (.bl false) M3
  | _ => False
theorem sim_chain {K : PySem.W.Frag} {T : List Addr} {W : WX} {r r' : R2} {g g' : G2} {ta tb tc : TE} {fa fb fc : FE} (o : OSim K T r g) (o' : OSim K T r' g') (a : ESim K T W ta fa) (b : ESim K T W tb fb) (c : ESim K T W tc fc) : ESim K T W (tChain r r' ta tb tc) (fChain g g' fa fb fc) := by
  intro hid σ H ρ M xw Q Qv r s w q p
  refine a hid σ H ρ M xw _ _ r s w q fun v H1 d M1 s1 e1 r1 q1 => ?_
  refine b hid σ H1 ρ M1 xw _ _ (r.ext e1) s1 (w.ext e1) q1 fun u H2 d2 M2 s2 e2 r2 q2 => ?_
  have e12 := e1.trans e2
  refine o hid H2 M2 d d2 v u _ _ s2 (e2.rv _ _ r1) r2 q2 fun z H3 d3 M3 s3 e3 r3 q3 => ?_
  have e13 := e12.trans e3
  cases d3 with
  | bl k =>
    cases r3
    refine ⟨k, rfl, ?_⟩
    cases k with
    | false => exact p _ H3 _ M3 s3 e13 (.bl false) q3
    | true =>
      refine c hid σ H3 ρ M3 xw _ _ (r.ext e13) s3 (w.ext e13) q3 fun u4 H4 d4 M4 s4 e4 r4 q4 => ?_
      exact o' hid H4 M4 d2 d4 u u4 Q Qv s4 ((e3.trans e4).rv _ _ r2) r4 q4 (p.ext (e13.trans e4))
  | _ => exact (show False from q3).elim
section
variable {X : Cx} {T : List Addr} {W : WX}
theorem de_chain {op op' : CmpOp} {r r' : R2} {g g' : G2} {a b c : Expr} {fa fb fc : FE} {pos : Pos} (ho : OpR X (compareOp op) r) (ho' : OpR X (compareOp op') r') (o : OSim X.K T r g) (o' : OSim X.K T r' g') (ha : DE X T W a fa) (hb : DE X T W b fb) (hc : DE X T W c fc)
    (hm : lastMarks [op, op'] [b, c] = false) : DE X T W (.Compare a [op, op'] [b, c] pos) (fChain g g' fa fb fc) := by
  obtain ⟨ta, pa, sa⟩ := ha
  obtain ⟨tb, pb, sb⟩ := hb
  obtain ⟨tc, pc, sc⟩ := hc
  exact ⟨_, pe_chain ho ho' pa pb pc hm, sim_chain o o' sa sb sc⟩
theorem dt_chain {op op' : CmpOp} {r r' : R2} {g g' : G2} {a b c : Expr} {fa fb fc : FE} {pos : Pos} (ho : OpR X (compareOp op) r) (ho' : OpR X (compareOp op') r') (o : OSim X.K T r g) (o' : OSim X.K T r' g') (ha : DE X T W a fa) (hb : DE X T W b fb) (hc : DE X T W c fc)
    (hm : lastMarks [op, op'] [b, c] = false) : DT X T W (.Compare a [op, op'] [b, c] pos) (fB (fChain g g' fa fb fc)) := by
  obtain ⟨ta, pa, sa⟩ := ha
  obtain ⟨tb, pb, sb⟩ := hb
  obtain ⟨tc, pc, sc⟩ := hc
  exact ⟨_, pt_chain ho ho' pa pb pc hm, simT_of (sim_chain o o' sa sb sc)⟩
end

section
variable {P : Program} {w : World} {K : PySem.W.Frag} {mg : Str → Option Value} {base : Heap} {N : List Str} {sc : Scope} {fn : Str → Bool} {k : Nat} {W : WX} {X : Cx} {T : List Addr}
variable (g : Std P w K mg base N sc fn k W X)
include g
theorem Std.gl {x : Str} (h : sc.names.lookup x = some .globalImplicit) : Gl X x := by unfold Gl Env.kindOf; rw [g.es]; exact h
theorem Std.none {x : Str} (h : mg x = Option.none) : X.mg x = Option.none := by rw [g.em]; exact h
theorem Std.hu : X.A.units + 64 < cLine := g.room.units
theorem Std.hu65 : X.A.units + 65 < cLine := by have := g.room.un; omega
theorem n_nm (i : Nat) {x : Str} {pos : Pos} (hN : N[i]? = some x := by rfl) (hv : Vis sc x := by first | exact Or.inl rfl | exact Or.inr (Or.inl rfl) | exact Or.inr (Or.inr rfl)) (hd : (x == ("__debug__" : Str)) = false := by decide +kernel) (hcd : (x == ("__classdict__" : Str)) = false := by decide +kernel) : DE X T W (.Name x pos) (fNm i) :=
  de_nm i (by rw [g.eN]; exact hN) (by rw [g.es]; exact hv) hd hcd
theorem n_gint {i : Int} {t : Tok} {x : Str} {pos : Pos} (hm : mg x = some (.int i t)) (hg : sc.names.lookup x = some .globalImplicit := by rfl) (hd : (x == ("__debug__" : Str)) = false := by decide +kernel) : DE X T W (.Name x pos) (fC (.int i)) :=
  de_gint (g.gl hg) (by rw [g.em]; exact hm) hd
variable {a b c : Expr} {fa fb fc : FE} {pos : Pos}
theorem n_add (ha : DE X T W a fa) (hb : DE X T W b fb) : DE X T W (.BinOp a .Add b pos) (fOp gAdd fa fb) := de_bin op_addA o_add ha hb
theorem n_sub (ha : DE X T W a fa) (hb : DE X T W b fb) : DE X T W (.BinOp a .Sub b pos) (fOp gSub fa fb) := de_bin op_sub o_sub ha hb
theorem n_mul (ha : DE X T W a fa) (hb : DE X T W b fb) : DE X T W (.BinOp a .Mult b pos) (fOp gMul fa fb) := de_bin op_mulA o_mul ha hb
theorem n_fdiv (ha : DE X T W a fa) (hb : DE X T W b fb) : DE X T W (.BinOp a .FloorDiv b pos) (fOp gFdiv fa fb) := de_bin op_fdivW o_fdiv ha hb
theorem n_mod (ha : DE X T W a fa) (hb : DE X T W b fb) : DE X T W (.BinOp a .Mod b pos) (fOp gMod fa fb) := de_bin op_mod o_mod ha hb
theorem n_pow (ha : DE X T W a fa) (hb : DE X T W b fb) : DE X T W (.BinOp a .Pow b pos) (fOp gPow fa fb) := de_bin op_pow o_pow ha hb
theorem n_neg (ha : DE X T W a fa) : DE X T W (.UnaryOp .USub a pos) (fNeg fa) := de_neg ha
theorem n_eq (ha : DE X T W a fa) (hb : DE X T W b fb) : DE X T W (.Compare a [.Eq] [b] pos) (fOp gEq fa fb) := de_cmp (op_eqD g.hu) o_eq (nomark _) ha hb
theorem n_in (ha : DE X T W a fa) (hb : DE X T W b fb) (hm : behindInMarks .In b = false := by rfl) : DE X T W (.Compare a [.In] [b] pos) (fOp gIn fa fb) := de_cmp (op_inA g.hu65) o_in hm ha hb
theorem t_eq (ha : DE X T W a fa) (hb : DE X T W b fb) : DT X T W (.Compare a [.Eq] [b] pos) (fB (fOp gEq fa fb)) := dt_cmp (op_eqD g.hu) o_eq (nomark _) ha hb
theorem t_ne (ha : DE X T W a fa) (hb : DE X T W b fb) : DT X T W (.Compare a [.NotEq] [b] pos) (fB (fOp gNe fa fb)) := dt_cmp (op_neD g.hu) o_ne (nomark _) ha hb
theorem t_lt (ha : DE X T W a fa) (hb : DE X T W b fb) : DT X T W (.Compare a [.Lt] [b] pos) (fB (fOp gLt fa fb)) := dt_cmp op_lt o_lt (nomark _) ha hb
theorem t_gt (ha : DE X T W a fa) (hb : DE X T W b fb) : DT X T W (.Compare a [.Gt] [b] pos) (fB (fOp gGt fa fb)) := dt_cmp op_gt o_gt (nomark _) ha hb
theorem t_ge (ha : DE X T W a fa) (hb : DE X T W b fb) : DT X T W (.Compare a [.GtE] [b] pos) (fB (fOp gGe fa fb)) := dt_cmp op_ge o_ge (nomark _) ha hb
theorem t_isNot (ha : DE X T W a fa) (hb : DE X T W b fb) : DT X T W (.Compare a [.IsNot] [b] pos) (fB (fOp gIsNot fa fb)) := dt_cmp op_notA o_isNot (nomark _) ha hb
theorem n_leLt (ha : DE X T W a fa) (hb : DE X T W b fb) (hc : DE X T W c fc) (hm : lastMarks [.LtE, .Lt] [b, c] = false := by with_unfolding_all rfl) : DE X T W (.Compare a [.LtE, .Lt] [b, c] pos) (fChain gLe gLt fa fb fc) := de_chain op_le op_lt o_le o_lt ha hb hc hm
theorem n_leLe (ha : DE X T W a fa) (hb : DE X T W b fb) (hc : DE X T W c fc) (hm : lastMarks [.LtE, .LtE] [b, c] = false := by with_unfolding_all rfl) : DE X T W (.Compare a [.LtE, .LtE] [b, c] pos) (fChain gLe gLe fa fb fc) := de_chain op_le op_le o_le o_le ha hb hc hm
theorem t_leLt (ha : DE X T W a fa) (hb : DE X T W b fb) (hc : DE X T W c fc) (hm : lastMarks [.LtE, .Lt] [b, c] = false := by with_unfolding_all rfl) : DT X T W (.Compare a [.LtE, .Lt] [b, c] pos) (fB (fChain gLe gLt fa fb fc)) := dt_chain op_le op_lt o_le o_lt ha hb hc hm
theorem t_leLe (ha : DE X T W a fa) (hb : DE X T W b fb) (hc : DE X T W c fc) (hm : lastMarks [.LtE, .LtE] [b, c] = false := by with_unfolding_all rfl) : DT X T W (.Compare a [.LtE, .LtE] [b, c] pos) (fB (fChain gLe gLe fa fb fc)) := dt_chain op_le op_le o_le o_le ha hb hc hm
theorem t_tr {e : Expr} {f : FE} (h : DE X T W e f) (he : ∀ whole, isTrue e X.env whole = (do let v ← whole; standAt e.pos; holding [v] (truthy v)) := by intro _; rfl) : DT X T W e (fTr f) := dt_tr h he
theorem n_ix (ha : DE X T W a fa) (hb : DE X T W b fb) (hs : PlainIx b := by exact fun _ _ => rfl) : DE X T W (.Subscript a b pos) (fOp gIx fa fb) := de_ix ix_seq o_ix hs ha hb
theorem l_cons {e : Expr} {es : List Expr} {f : FE} {h : FA} (h1 : DE X T W e f) (h2 : DA X T W es h) (hs : starEach (e :: es) X.env = (false, eval e X.env) :: starEach es X.env := by rfl) : DA X T W (e :: es) (fCons f h) := da_cons h1 h2 hs
theorem n_tup {es : List Expr} {j : Nat} {h : FA} (h1 : DA X T W es h) : DE X T W (.Tuple es j pos) (fTup h) := de_tup h1
theorem n_lst {es : List Expr} {h : FA} (h1 : DA X T W es h) : DL X T W (.List es pos) (fLstL h) := dl_lst h1
variable {p : Pos} {e : Expr} {es : List Expr} {fs : FA}
theorem n_len {p : Pos} {fs : FA} (F : Fr mg) (ha : DA X T W [e] fs) (hg : sc.names.lookup ("len" : Str) = some .globalImplicit := by rfl) (he : starEach [e] X.env = (false, eval e X.env) :: starEach [] X.env := by rfl) : DE X T W (.Call (.Name "len" p) [e] [] pos) (fCB gLen fs) :=
  de_callB call_len c_len (g.gl hg) (g.none F.len) boot_len ha (by decide +kernel) (by decide +kernel) he rfl
theorem n_int1 {p : Pos} {fs : FA} (F : Fr mg) (ha : DA X T W [e] fs) (hg : sc.names.lookup ("int" : Str) = some .globalImplicit := by rfl) (he : starEach [e] X.env = (false, eval e X.env) :: starEach [] X.env := by rfl) : DE X T W (.Call (.Name "int" p) [e] [] pos) (fCB gInt fs) :=
  de_callTy call_int1 c_int (g.gl hg) (g.none F.int) boot_int ha (by decide +kernel) (by decide +kernel) he rfl
theorem n_tuple {p : Pos} {fs : FA} (F : Fr mg) (ha : DA X T W [e] fs) (hg : sc.names.lookup ("tuple" : Str) = some .globalImplicit := by rfl) (he : starEach [e] X.env = (false, eval e X.env) :: starEach [] X.env := by rfl) : DE X T W (.Call (.Name "tuple" p) [e] [] pos) (fCB gTuple fs) :=
  de_callTy call_tupleF c_tuple (g.gl hg) (g.none F.tuple) boot_tuple ha (by decide +kernel) (by decide +kernel) he rfl
theorem n_list {p : Pos} {fs : FA} (F : Fr mg) (ha : DA X T W [e] fs) (hg : sc.names.lookup ("list" : Str) = some .globalImplicit := by rfl) (he : starEach [e] X.env = (false, eval e X.env) :: starEach [] X.env := by rfl) : DL X T W (.Call (.Name "list" p) [e] [] pos) (fListL fs) :=
  dl_list (g.gl hg) (g.none F.list) boot_list ha (by decide +kernel) (by decide +kernel) he rfl
theorem n_call {x : Str} {S : FSpec} {p : Pos} {fs : FA} (F : Fn P w K mg base T k x S) (ha : DA X T W (e :: es) fs) (hg : sc.names.lookup x = some .globalImplicit := by rfl) (hdb : (x == ("__debug__" : Str)) = false := by decide +kernel)
    (he : starEach (e :: es) X.env = (false, eval e X.env) :: starEach es X.env := by rfl) (hpl : (backTo pos (starEach es X.env)).any (·.1) = false := by rfl) : DE X T W (.Call (.Name x p) (e :: es) [] pos) (fCall S fs) := by
  refine de_call (k := k) ?_ g.room g.takes (g.gl hg) ha hdb he hpl
  rw [g.eP, g.ew, g.eK, g.em, g.eb]
  exact F
theorem n_append {o : Expr} {fo : FE} {apos : Pos} {fs : FA} (ho : DE X T W o fo) (ha : DA X T W [e] fs) (hbase : attributeBase o "append" X.env (eval o X.env) = eval o X.env := by rfl)
    (hfew : ((backTo pos (starEach [e] X.env)).all (fun x => !x.1) && (backToKw pos (keywordEach [] X.env)).all (fun x => x.1.isSome)
      && decide ([e].length + ([] : List Keyword).length + (if ([] : List Keyword).isEmpty then 0 else 1) < 30)) = true := by rfl)
    (hline : (apos.endLine == pos.line) = true := by rfl) (hs : starEach [e] X.env = (false, eval e X.env) :: starEach [] X.env := by rfl) :
    DE X T W (.Call (.Attribute o "append" apos) [e] [] pos) (fAppend fo fs) := de_append ho ha hbase hfew hline hs rfl
theorem n_pop {o : Expr} {fo : FE} {apos : Pos} (ho : DE X T W o fo) (hbase : attributeBase o "pop" X.env (eval o X.env) = eval o X.env := by rfl) (hline : (apos.endLine == pos.line) = true := by rfl) : DE X T W (.Call (.Attribute o "pop" apos) [] [] pos) (fPop fo) := de_pop ho hbase hline
/-! targets, walks -/
theorem g_nm {vs : List Nat} (i : Nat) {x : Str} (hN : N[i]? = some x := by rfl) (hx : Loc sc x := by first | exact Or.inl rfl | exact Or.inr rfl) (hf : fn x = true ∨ sc.names.lookup x = some .local := by first | exact .inr rfl | exact .inl rfl) (hv : i ∈ vs := by decide) : DG X T (.Name x pos) (bNm i) vs :=
  dg_nm (by rw [g.eN]; exact g.nd) (by rw [g.eN]; exact hN) (by rw [g.es]; exact hx) (hf.elim (fun h => .inl (g.fn x h)) fun h => .inr (by rw [g.es]; exact h)) hv
theorem g_cons {vs : List Nat} {es : List Expr} {b : BD} {bs : BL} (h1 : DG X T e b vs) (h2 : DGs X T es bs vs) (hs : (assignEach (e :: es) X.env).map (·.2) = assign e X.env :: (assignEach es X.env).map (·.2) := by rfl) : DGs X T (e :: es) (bCons b bs) vs := dgs_cons h1 h2 hs
theorem g_tup {vs : List Nat} {es : List Expr} {j n : Nat} {bs : BL} (h : DGs X T es bs vs) (hn : (assignEach es X.env).length = n := by rfl) (hst : (assignEach es X.env).findIdx? (·.1) = none := by rfl) : DG X T (.Tuple es j pos) (bTup n bs) vs := dg_tup g.calm h hn hst
theorem i_rng1 {tg : Expr} {p : Pos} {fs : FA} (F : Fr mg) (ha : DA X T W [a] fs) (hg : sc.names.lookup ("range" : Str) = some .globalImplicit := by rfl) (hs : starEach [a] X.env = [(false, eval a X.env)] := by rfl) : DI X T W tg (.Call (.Name "range" p) [a] [] pos) (fRng1 fs) := di_rng1 (g.gl hg) (g.none F.range) ha hs
/-! comprehensions -/
theorem n_lc {elt tg iter : Expr} {ifs : List Expr} {scope : Scope} (own : List (Str × Nat)) {fi : FI} {b : BD} {ft : FT} {fe : FE} (hi : DI X T W tg iter fi) (ok : blkC N sc scope own = true)
    (h : ∀ X', Std P w K mg base N (relS scope sc) (fun x => scope.names.lookup x == some .cell) k WF X' → DG X' T tg b (own.map (·.2)) ∧ DTs X' T WF ifs ft ∧ DE X' T WF elt fe)
    (hs : ∀ x, foldedSetIterable iter X.env x = pure x := by intro _; rfl) : DL X T W (.ListComp elt [⟨tg, iter, ifs, 0⟩] scope pos) (fLc fi b ft fe (own.map (·.2))) :=
  dl_lc g.calm (by rw [g.eN]; exact g.nd) hi (blkOk_by (by rw [g.eN, g.es]; exact ok)) (fun s H C cl fp => h _ (g.blk s H scope C cl fp)) hs
/-! statements -/
theorem s_set {i : Nat} {x : Str} {f : FE} {pos' : Pos} (he : DE X T W e f) (hN : N[i]? = some x := by rfl) (hx : Loc sc x := by first | exact Or.inl rfl | exact Or.inr rfl) (hs : swapsWith e (some (.Name x pos')) pos.line X.env = pure false := by rfl) (hf : fn x = true ∨ sc.names.lookup x = some .local := by first | exact .inr rfl | exact .inl rfl) :
    DS X T W (.Assign [.Name x pos'] e pos) (fSet i f) :=
  ds_set (by rw [g.eN]; exact g.nd) (by rw [g.eN]; exact hN) (by rw [g.es]; exact hx) he hs (hf.elim (fun h => .inl (g.fn x h)) fun h => .inr (by rw [g.es]; exact h))
theorem s_own {i : Nat} {x : Str} {f : FL} {pos' : Pos} (he : DL X T W e f) (hN : N[i]? = some x := by rfl) (hx : Loc sc x := by first | exact Or.inl rfl | exact Or.inr rfl) (hs : swapsWith e (some (.Name x pos')) pos.line X.env = pure false := by rfl) (hf : fn x = true ∨ sc.names.lookup x = some .local := by first | exact .inr rfl | exact .inl rfl) :
    DS X T W (.Assign [.Name x pos'] e pos) (fOwn i f) :=
  ds_own (by rw [g.eN]; exact g.nd) (by rw [g.eN]; exact hN) (by rw [g.es]; exact hx) he hs (hf.elim (fun h => .inl (g.fn x h)) fun h => .inr (by rw [g.es]; exact h))
theorem s_asg {tg : Expr} {f : FE} {b : BD} {vs : List Nat} (he : DE X T W e f) (hg : DG X T tg b vs) (hs : swapsWithSole [tg] e pos.line X.env = pure false := by rfl) (hw : swappedStores [tg] e X.env = pure none := by rfl)
    (h1 : (assignEach [tg] X.env).map (·.2) = [assign tg X.env] := by rfl) : DS X T W (.Assign [tg] e pos) (fAsg f b) := ds_asg he hg hs hw h1
theorem s_setIx {o i : Expr} {fo fi fe : FE} {tpos : Pos} (ho : DE X T W o fo) (hi : DE X T W i fi) (he : DE X T W e fe)
    (ha : ∀ v, assign (.Subscript o i tpos) X.env v = (do
      let ov ← holding [v] (eval o X.env)
      let iv ← holding [v, ov] (eval i X.env)
      standAt tpos
      holding [v, ov, iv] (setItem ov iv v)
      release [v, ov, iv] []) := by intro _; rfl)
    (hs : swapsWithSole [.Subscript o i tpos] e pos.line X.env = pure false := by rfl) (hw : swappedStores [.Subscript o i tpos] e X.env = pure none := by rfl)
    (h1 : (assignEach [.Subscript o i tpos] X.env).map (·.2) = [assign (.Subscript o i tpos) X.env] := by rfl) : DS X T W (.Assign [.Subscript o i tpos] e pos) (fSetIx fo fi fe) := ds_setIx ho hi he ha hs hw h1
theorem s_expr {f : FE} (h : DE X T W e f) (hs : swapsWith e none pos.line X.env = pure false := by rfl) : DS X T W (.Expr e pos) (fExpr f) := ds_expr h hs
theorem s_for {tg iter : Expr} {body : List Stmt} {fi : FI} {b : BD} {f : FS} {vs : List Nat} (hi : DI X T W tg iter fi) (hg : DG X T tg b vs) (hb : DSs X T W body f) (hs : ∀ x, foldedSetIterable iter X.env x = pure x := by intro _; rfl) : DS X T W (.For tg iter body [] pos) (fFor fi b f) :=
  ds_for g.pass g.calm hi hg hb hs
end
end U

set_option Elab.async false
set_option linter.all false
set_option maxRecDepth 100000
set_option maxHeartbeats 1000000
/-! U10: defs that call themselves; the law's end. -/
namespace U
open PySem PySem.Spec PyProof.Rows L2
section
variable {P : Program} {w : World} {K : PySem.W.Frag} {mg : Str → Option Value} {base : Heap} {N ps : List Str} {sc : Scope} {k : Nat} {T : List Addr}
theorem bodyN {N' : List Str} {f : FS} {S : FSpec} (h : N.length = N'.length) (k : ∀ ds M Q xw, S ds M Q xw → zh N' f ds M Q xw) : ∀ ds M Q xw, S ds M Q xw → zh N f ds M Q xw := by
  intro ds M Q xw hs
  have := k ds M Q xw hs
  unfold zh zi at this ⊢
  rw [h]
  exact this
end
section
variable {l : PySem.W.OpenLaw} {w : World} {K : PySem.W.Frag} {mg : Str → Option Value} {h : Heap} {k n : Nat}
theorem sto0 {T : List Addr} {H : Hp} (hT : ∀ P ∈ T, H P = some (.tbl #[])) : Sto K T [] H fun _ => none :=
  ⟨fun _ _ e => (nomatch e), fun P hP => ⟨#[], hT P hP, by with_unfolding_all trivial, fun pos cv e => (nomatch e)⟩, fun _ hm => (nomatch hm)⟩
theorem rvs_ints {H : Hp} {M : Mu} : ∀ ns : List Int, Rvs K [] H M (ns.map V.int) (ns.map D.int)
  | [] => .nil
  | i :: ns => .cons (.int i) (rvs_ints ns)
theorem law_at {x : Str} {f : Addr} {fd : FuncData} {S : FSpec} (cs : List (Addr × Addr)) (hT : ∀ p ∈ cs, h.get? p.2 = some { cls := .none, data := .fields #[] }) (hn : ∀ p ∈ cs, K.lookup p.2 = none) (hC : ∀ p ∈ cs, PySem.W.CodeHd h p.1 p.2)
    (hb : ∀ (s : Shared) (u : Value), BindsTo s fd ⟨[u], []⟩ [(x, u)]) (hS : ∀ ns : List Int, ns.length ≤ n → (∀ z ∈ ns, Builtin.Int.intBits z ≤ 1048576) → S [.lst (ns.map .int)] (fun _ => none) (fun d _ => d = .bl true) fun _ _ => False)
    (hF : ∀ base : Heap, K.In base → base.Ns mainGlobals mg → (∀ p ∈ cs, LamX.TabB base mg p.1 p.2) → FnOk l.prog w K mg base (L2.CX l.prog w) k f fd [x] (spOf K (cs.map (·.2)) S)) : LamX.LawAtS l w K (L2.CX l.prog w) k n x mg f h := by
  refine ⟨fd, cs, spOf K (cs.map (·.2)) S, hT, hn, hC, hb, fun H a ns h1 h2 h3 h4 => ?_, hF⟩
  have hT2 : ∀ P ∈ cs.map (·.2), H P = some (.tbl #[]) := fun P hP => by
    obtain ⟨p, hp, rfl⟩ := List.mem_map.mp hP
    exact h3 p hp
  refine ⟨[], [.lst (ns.map .int)], fun _ => none, _, _, sto0 hT2, .cons (.lst ?_ (rvs_ints ns)) .nil, hS ns h1 h2, fun v H' d M' _ _ r q => ?_, fun _ _ _ _ _ _ _ _ z => z⟩
  · rcases h4 with (h4 | h4) | h4
    · exact .inl ⟨h4, rfl, fun z => (nomatch z)⟩
    · exact .inr (.inl h4)
    · exact .inr (.inr h4)
  · cases q
    cases r
    rfl
theorem cx_no (P : Program) (w : World) (H : Hp) (s : Shared) (e : Value) (s' : Shared) (h : L2.CX P w [] H s (fun _ _ _ => False) e s') : False := by
  obtain ⟨_, _, _, _, _, _, _, _, _, _, _, _, z⟩ := h
  exact z
end
end U

set_option Elab.async false
set_option linter.all false
set_option maxRecDepth 100000
set_option maxHeartbeats 2000000
/-! G1: a generator expression over anything that PI serves, its element any expression: the frame. -/
namespace U
open PySem PySem.Spec PyProof.Rows L2

/-- the context of a generator expression's frame; s, H: ahead of the frame's making -/
abbrev gCx (X : Cx) (A' : Around) (s : Shared) (H : Hp) (cenv : Env) (fp : List Addr) : Cx :=
  { X with A := A', s_0 := s, H_0 := H, env := cenv, outer := X.stack, stack := cenv :: X.stack, ex := fp, fn := fun x => cenv.scope.names.lookup x == some .cell, pn := [], xe := fun _ _ => False }
structure GenOk (N : List Str) (sc scope : Scope) (own : List (Str × Nat)) : Prop where
  blk : BlkOk N sc scope own
  dot : scope.names.lookup (".0" : Str) = some .local
  co : scope.isCoroutine = false
abbrev gEnv (X : Cx) (scope : Scope) (C : Addr) (code : Value) : Env := genEnv scope (cellsFrom (C + 1) scope.names (cloFrom X.env.cells scope.names [])) C code builtinsNs X.env
/-! the cells of a frame on top of a closure -/
theorem cellsFrom_app : ∀ (names : List (Str × NameKind)) (n : Nat) (a cl : List (Str × Addr)), cellsFrom n names (a ++ cl) = cellsFrom n names a ++ cl
  | [], _, _, _ => rfl
  | (x, k) :: r, n, a, cl => by
    unfold cellsFrom
    split
    · exact cellsFrom_app r (n + 1) ((x, n) :: a) cl
    · exact cellsFrom_app r n a cl
theorem cellsFrom_acc {p : Str × Addr} : ∀ {names : List (Str × NameKind)} {n : Nat} {acc : List (Str × Addr)}, p ∈ acc → p ∈ cellsFrom n names acc
  | [], _, _, h => h
  | (x, k) :: r, n, acc, h => by
    unfold cellsFrom
    split
    · exact cellsFrom_acc (List.mem_cons_of_mem _ h)
    · exact cellsFrom_acc h
theorem cellsFrom_has {y : Str} : ∀ {names : List (Str × NameKind)} {n : Nat} {acc : List (Str × Addr)}, (y, .cell) ∈ names → ∃ c, (y, c) ∈ cellsFrom n names acc
  | (x, k) :: r, n, acc, h => by
    unfold cellsFrom
    rcases List.mem_cons.mp h with e | h
    · cases e
      exact ⟨n, cellsFrom_acc List.mem_cons_self⟩
    · split
      · exact cellsFrom_has h
      · exact cellsFrom_has h
theorem cellsFrom_mem {y : Str} {c : Addr} : ∀ {names : List (Str × NameKind)} {n : Nat} {acc : List (Str × Addr)}, (y, c) ∈ cellsFrom n names acc → (y, c) ∈ acc ∨ (y, .cell) ∈ names
  | [], _, _, h => .inl h
  | (x, k) :: r, n, acc, h => by
    unfold cellsFrom at h
    split at h
    · rename_i hk
      rcases cellsFrom_mem h with h | h
      · rcases List.mem_cons.mp h with e | h
        · cases e
          have : k = .cell := by simpa using hk
          exact .inr (by rw [this]; exact List.mem_cons_self)
        · exact .inl h
      · exact .inr (List.mem_cons_of_mem _ h)
    · exact (cellsFrom_mem h).imp id fun h => List.mem_cons_of_mem _ h
theorem lookup_app {α : Type} {y : Str} : ∀ {a b : List (Str × α)}, (a ++ b).lookup y = (match a.lookup y with | some c => some c | none => b.lookup y)
  | [], _ => rfl
  | (k, v) :: r, b => by
    rw [List.cons_append, List.lookup_cons, List.lookup_cons]
    cases y == k with
    | true => rfl
    | false => exact lookup_app
section
variable {M : Model} {A : Around} {E : Value → Shared → Prop} {s : Shared}
/-- a frame with cells of its own on top of a closure, its one binding at «.0» -/
theorem wpAny_newFunctionEnvC {scope : Scope} {globals : Addr} {cl : List (Str × Addr)} {it : Value} {qual : Str} {code : Value} {bi : Addr} {Q : Env → Shared → Prop}
    (h0 : scope.names.lookup (".0" : Str) = some NameKind.local) (hk : scope.kind = .function)
    (hQ : ∀ h', h'.Ns s.heap.objs.size (fun y => if y = ".0" then some it else none) → Heap.SameBut s.heap.objs.size (pushCells (s.heap.push { cls := .type "frame", data := .dict #[] }) scope.names) h' →
      Q { scope, locals := s.heap.objs.size, globals, cells := cellsFrom (s.heap.objs.size + 1) scope.names cl, qual, func := none, code, frame := some s.heap.objs.size, builtins := bi } { s with heap := h', toks := s.toks + 1 }) :
    wpAny M A (newFunctionEnv scope globals cl [(".0", it)] qual none code none bi) Q E s := by
  simp only [newFunctionEnv, Option.isSome_none, Bool.false_eq_true, if_false]
  refine wpAny_bind (wpAny_alloc ?_)
  refine wpAny_bind (wpAny_layCells _ (fun name kind cells => by cases hkc : kind == NameKind.cell <;> simp [hkc]) _ _ _ _ ?_)
  rw [show ({ s with heap := s.heap.push { cls := .type "frame", data := .dict #[] } } : Shared).heap.objs.size = s.heap.objs.size + 1 from Heap.size_push ..]
  refine wpAny_bind ?_
  rw [List.forIn_cons]
  refine wpAny_bind (wpAny_bind (wpAny_storeName_local (show Env.kindOf _ _ = _ from h0) (m := fun _ => none) ?_ (fun h' hn' hs' => ?_) (by show (scope.kind == .class || (scope.kind == .module && _)) = false; rw [hk]; rfl)))
  · exact (Heap.Ns.new s.heap (.type "frame")).keeps (pushCells_keeps _ _)
  · refine wpAny_pure ?_
    show wpAny _ _ (forIn [] PUnit.unit _) _ _ _
    rw [List.forIn_nil]
    exact wpAny_pure (wpAny_pure (hQ h' hn' hs'))
theorem wpAny_GeneratorExp_makeC {env : Env} {elt target iter : Expr} {ifs : List Expr} {scope : Scope} {cl : List (Str × Addr)} {pos : Pos} {Q : Value → Shared → Prop}
    (hco : scope.isCoroutine = false) (hclos : closureFor scope env = pure cl) (h0 : scope.names.lookup (".0" : Str) = some NameKind.local) (hkind : scope.kind = .function)
    (hroom : A.depth < recursionLimit)
    (h : wpAny M A (eval iter env) (fun xv s₁ => wpAny M A (pyIter xv) (fun it s₂ => s₂.heap.NoLimit ∧
      wpAny M A (genexprCode env pos (env.qual ++ "<genexpr>") scope) (fun code s₃ => wpAny M A (builtinsFor env.globals env.builtins) (fun bi s₄ =>
        ∀ h', h'.Ns s₄.heap.objs.size (fun y => if y = ".0" then some it else none) → Heap.SameBut s₄.heap.objs.size (pushCells (s₄.heap.push { cls := .type "frame", data := .dict #[] }) scope.names) h' →
          Q (.ref h'.objs.size) { s₄ with
            gens := s₄.gens.push (.fresh (.compStart (.GeneratorExp elt [⟨target, iter, ifs, 0⟩] scope pos) 0 it .none (genEnv scope (cellsFrom (s₄.heap.objs.size + 1) scope.names cl) s₄.heap.objs.size code bi env))),
            toks := s₄.toks + 1 + 1 + 1,
            heap := h'.push { cls := .type "generator", data := .fields #[.int s₄.gens.size 0, .str "<genexpr>" (s₄.toks + 1), .str (env.qual ++ "<genexpr>") (s₄.toks + 1 + 1)] } }) E s₃) E s₂) E s₁) E s)
    (hs : ∀ x, genFold iter env x = pure x) :
    wpAny M A (eval (.GeneratorExp elt [⟨target, iter, ifs, 0⟩] scope pos) env) Q E s := by
  rw [eval_GeneratorExp1 _ _ _ _ _ _ _ hco, hclos]
  refine wpAny_bind (wpAny_mono h (fun xv s₁ h₁ => ?_) fun _ _ e => e)
  refine wpAny_bind (wpAny_standAt ?_)
  refine wpAny_bind (wpAny_of_eq (hs xv) ?_)
  refine wpAny_bind (wpAny_holding (wpAny_mono h₁ (fun it s₂ h₂ => ?_) fun _ _ e => e))
  refine wpAny_bind (wpAny_enterFrame h₂.1 hroom ?_)
  refine wpAny_bind (wpAny_pure ?_)
  refine wpAny_bind (wpAny_mono h₂.2 (fun code s₃ h₃ => ?_) fun _ _ e => e)
  refine wpAny_bind (wpAny_mono h₃ (fun bi s₄ h₄ => ?_) fun _ _ e => e)
  refine wpAny_bind (wpAny_newFunctionEnvC h0 hkind fun h' hn' hs' => ?_)
  simp only [newGenerator, newFields]
  refine wpAny_bind (wpAny_newGen (wpAny_bind (wpAny_mkText (wpAny_bind (wpAny_mkText (wpAny_newObj_type ?_ (by size_fits)))))))
  exact h₄ h' hn' hs'
end
section
variable {X : Cx} {pins : List (Addr × Obj)} {σ : L2.St} {H : Hp} {s : Shared}
theorem gen_start {scope : Scope} {own : List (Str × Nat)} {fp : List Addr} {A' : Around} {code it : Value} {h1 : Heap} {a : Addr} {oa : Obj} {gs : GenState} {tk : Nat} (I : Inv X pins σ H s) (ok : GenOk X.N X.env.scope scope own) (hN : X.N.Nodup) (hfp : ∀ b ∈ fp, FpOk X pins H b ∧ b < s.heap.objs.size)
    (hh : X.calm = true → A'.handled = none) (hfr : A'.frames = some (gEnv X scope s.heap.objs.size code :: X.stack))
    (hn : h1.Ns s.heap.objs.size (fun y => if y = ".0" then some it else none)) (hs1 : Heap.SameBut s.heap.objs.size (pushCells (s.heap.push { cls := .type "frame", data := .dict #[] }) scope.names) h1)
    (ha : a = h1.objs.size) (hga : (h1.push oa).get? a = some oa) (hnc : ∀ v, oa.data ≠ .cell v) (hgb : gs.bare = true) :
    Inv (gCx X A' s H (gEnv X scope s.heap.objs.size code) fp) [(a, oa)] (wipe σ (own.map (·.2))) H { s with gens := s.gens.push gs, toks := tk, heap := h1.push oa } := by
  have hfree : ∀ y ∈ scope.names, y.2 = .free → ∃ c, X.env.cells.lookup y.1 = some c := fun y hy e => by
    rcases ok.blk.free y hy e with k | k
    · exact I.ok.has _ (.inl k)
    · exact I.ok.has _ (.inr k)
  have cok := cellsFrom_ok scope.names (s.heap.push { cls := .type "frame", data := .dict #[] }) (s.heap.objs.size + 1) [] ⟨fun _ _ hm => (nomatch hm), List.Pairwise.nil⟩ (by rw [Heap.size_push]; exact Nat.le_refl _)
  rw [Heap.size_push] at cok
  have hsz : s.heap.objs.size + 1 ≤ h1.objs.size := by
    rw [hs1.1]
    exact Heap.lt_size (pushCells_keeps scope.names _ _ _ (Heap.get?_push_size _ rfl))
  have kp1 : ∀ b o, s.heap.get? b = some o → h1.get? b = some o := fun b o e => hs1.extBut b o (Nat.ne_of_lt (Heap.lt_size e)) (pushCells_keeps _ _ _ _ (Heap.get?_push_of_some _ e))
  have kp : ∀ b o, s.heap.get? b = some o → (h1.push oa).get? b = some o := fun b o e => Heap.get?_push_of_some _ (kp1 b o e)
  generalize hcenv : gEnv X scope s.heap.objs.size code = cenv at hfr
  have hL : cenv.locals = s.heap.objs.size := by rw [← hcenv]; rfl
  have hcl : cenv.cells = cellsFrom (s.heap.objs.size + 1) scope.names [] ++ cloFrom X.env.cells scope.names [] := by
    rw [← hcenv]
    exact cellsFrom_app scope.names (s.heap.objs.size + 1) [] _
  have hsc : cenv.scope = scope := by rw [← hcenv]; rfl
  have cm : ∀ {y c}, (y, c) ∈ cloFrom X.env.cells scope.names [] → X.env.cells.lookup y = some c ∧ c < s.heap.objs.size := fun {y c} hm => by
    rcases cloFrom_mem hm with hm | ⟨h1, rfl⟩
    · cases hm
    · obtain ⟨c, hc⟩ := hfree _ h1 rfl
      rw [hc]
      obtain ⟨w, z⟩ := I.cell _ _ hc
      exact ⟨rfl, z.lt⟩
  have memF : ∀ {y c}, (cellsFrom (s.heap.objs.size + 1) scope.names []).lookup y = some c → scope.names.lookup y = some .cell ∧ s.heap.objs.size + 1 ≤ c ∧ h1.IsCell c none := fun {y c} e => by
    have hm := PySem.mem_of_lookup e
    obtain ⟨z1, z2⟩ := cok.empty y c hm
    refine ⟨(cellsFrom_mem hm).elim (fun z => (nomatch z)) fun z => ok.blk.uniq _ z, z2, ?_⟩
    exact z1.sameBut hs1 (Nat.ne_of_gt z2)
  have mem2 : ∀ {y c}, cenv.cells.lookup y = some c → (cellsFrom (s.heap.objs.size + 1) scope.names []).lookup y = some c ∨ ((cellsFrom (s.heap.objs.size + 1) scope.names []).lookup y = none ∧ X.env.cells.lookup y = some c ∧ c < s.heap.objs.size) := fun {y c} e => by
    rw [hcl, lookup_app] at e
    split at e
    · rename_i c' q
      exact .inl (by rw [q]; exact e)
    · rename_i q
      exact .inr ⟨q, cm (PySem.mem_of_lookup e)⟩
  have look : ∀ {y}, scope.names.lookup y = some .free → ∃ c, cenv.cells.lookup y = some c ∧ X.env.cells.lookup y = some c := fun {y} hl => by
    have hy : (y, NameKind.free) ∈ scope.names := PySem.mem_of_lookup hl
    obtain ⟨c', e'⟩ := mem_lookup (cloFrom_has (cells := X.env.cells) (acc := []) hy)
    have e2 : (cellsFrom (s.heap.objs.size + 1) scope.names []).lookup y = none := by
      cases q : (cellsFrom (s.heap.objs.size + 1) scope.names []).lookup y with
      | none => rfl
      | some c => have := (memF q).1; rw [hl] at this; cases this
    have e3 : cenv.cells.lookup y = some c' := by rw [hcl, lookup_app, e2]; exact e'
    rcases mem2 e3 with z | z
    · rw [e2] at z; cases z
    · exact ⟨c', e3, z.2.1⟩
  have below : ∀ {y c b}, cenv.cells.lookup y = some c → (X.env.cells.lookup y = some c → c ≠ b) → b < s.heap.objs.size → c ≠ b := fun {y c b} e k hb => by
    rcases mem2 e with z | z
    · exact Nat.ne_of_gt (Nat.lt_trans hb (memF z).2.1)
    · exact k z.2.1
  have nC : H s.heap.objs.size = none := I.hok.fresh (Nat.le_refl _)
  have okB : (gCx X A' s H cenv fp).Ok := by
    refine ⟨I.ok.mod, by show cenv.scope.kind = _; rw [hsc]; exact ok.blk.kind, by show cenv.globals = _; rw [← hcenv]; exact I.ok.glob, by show cenv.builtins = _; rw [← hcenv]; rfl, by show s.heap.objs.size ≤ cenv.locals; rw [hL]; exact Nat.le_refl _,
      fun y z c e1 e2 => ?_, fun y hy => ?_, fun y c z e => ?_, hh, hfr, .inr ⟨rfl, by show cenv.frame = some cenv.locals; rw [← hcenv]; rfl⟩, fun b hb => ⟨?_, fun y c e z => ?_⟩, I.bs, Nat.le_trans I.ok.bsz I.sz, fun b o e hb => ?_, fun b hb z => ?_, I.stack, I.stkFree⟩
    · rcases mem2 e1 with q1 | q1 <;> rcases mem2 e2 with q2 | q2
      · exact name_of_addr cok.apart (PySem.mem_of_lookup q1) (PySem.mem_of_lookup q2)
      · exact absurd q2.2.2 (Nat.not_lt.mpr (Nat.le_of_lt (memF q1).2.1))
      · exact absurd q1.2.2 (Nat.not_lt.mpr (Nat.le_of_lt (memF q2).2.1))
      · exact I.ok.inj y z c q1.2.1 q2.2.1
    · show ∃ c, cenv.cells.lookup y = some c
      have key : ∀ k, cenv.kindOf y = some k → (k = .cell ∨ k = .free) → ∃ c, cenv.cells.lookup y = some c := fun k hk hk' => by
        unfold Env.kindOf at hk
        rw [hsc] at hk
        rcases hk' with rfl | rfl
        · obtain ⟨c, hc⟩ := cellsFrom_has (n := s.heap.objs.size + 1) (acc := []) (PySem.mem_of_lookup hk)
          obtain ⟨c', hc'⟩ := mem_lookup hc
          exact ⟨c', by rw [hcl, lookup_app, hc']⟩
        · obtain ⟨c, h1, _⟩ := look hk
          exact ⟨c, h1⟩
      rcases hy with hy | hy
      · exact key _ hy (.inl rfl)
      · exact key _ hy (.inr rfl)
    · have z : (cenv.scope.names.lookup y == some NameKind.cell) = true := z
      have z : cenv.scope.names.lookup y = some .cell := by simpa using z
      rw [hsc] at z
      obtain ⟨c1, hc1⟩ := cellsFrom_has (n := s.heap.objs.size + 1) (acc := []) (PySem.mem_of_lookup z)
      obtain ⟨c2, hc2⟩ := mem_lookup hc1
      rcases mem2 e with q | q
      · exact Nat.le_of_lt (memF q).2.1
      · rw [hc2] at q; cases q.1
    · show b ≠ cenv.locals
      rw [hL]; exact Nat.ne_of_lt (hfp b hb).2
    · exact below e (fun q => (hfp b hb).1.2.2.2.2.1 y c q) (hfp b hb).2 z
    · rcases (hfp b hb).1.2.2.2.1 with z | z
      · exact I.ok.noex b o e z
      · exact absurd (Nat.lt_of_lt_of_le (Heap.lt_size e) (Nat.le_trans I.ok.bsz z)) (Nat.lt_irrefl _)
    · rcases List.mem_cons.mp (I.stkSub b z) with z | z
      · exact (hfp b hb).1.2.1 z
      · exact (hfp b hb).1.2.2.1 z
  have hale : s.heap.objs.size < a := by rw [ha]; exact hsz
  refine ⟨okB, rfl, I.bare.push hgb, Un.kept kp, ⟨fun y => if y = ".0" then some it else none, ?_, fun i y av e1 e2 e3 => ?_⟩, fun y c e => ?_, ?_, fun y c e => ?_, fun p hp => ?_, I.hok.kept kp, by rw [wipe_length]; exact I.len⟩
  · show Heap.Ns _ cenv.locals _
    rw [hL]
    exact hn.push _
  · obtain ⟨e2, hne⟩ := wipe_some e2
    have hfr : scope.names.lookup y = some .free := by
      have no : ∀ k', scope.names.lookup y = some k' → ¬ (k' = .local ∨ k' = .cell) := fun k' e hh => by
        rcases ok.blk.own _ (PySem.mem_of_lookup e) hh with e' | e'
        · obtain ⟨p, hp, hpy⟩ := List.mem_map.mp e'
          have e3 := ok.blk.ix p hp
          have : p.1 = y := hpy
          rw [this] at e3
          exact hne (List.mem_map.mpr ⟨p, hp, nodup_ix hN e3 e1⟩)
        · exact e' (List.mem_of_getElem? e1)
      have e3 : Vis cenv.scope y := e3
      rw [hsc] at e3
      rcases e3 with e3 | e3 | e3
      · exact absurd (.inl rfl) (no _ e3)
      · exact absurd (.inr rfl) (no _ e3)
      · exact e3
    obtain ⟨m, hn, hl⟩ := I.loc
    have hvis : Vis X.env.scope y := (ok.blk.free _ (PySem.mem_of_lookup hfr) rfl).elim (fun k => .inr (.inl k)) (fun k => .inr (.inr k))
    obtain ⟨w, r, q⟩ := hl i y av e1 e2 hvis
    refine ⟨w, r, .inr ⟨.inr (by show cenv.scope.names.lookup y = _; rw [hsc]; exact hfr), ?_⟩⟩
    obtain ⟨c, h1, h2⟩ := look hfr
    rcases q with ⟨k, _⟩ | ⟨_, c', e', z⟩
    · have k : X.env.scope.names.lookup y = some .local := k
      rcases ok.blk.free _ (PySem.mem_of_lookup hfr) rfl with k' | k' <;> rw [show X.env.scope.names.lookup y = _ from k'] at k <;> cases k
    · rw [h2] at e'; cases e'
      exact ⟨c, h1, z.keeps kp⟩
  · rcases mem2 e with q | q
    · exact ⟨none, (memF q).2.2.keeps fun b o e => Heap.get?_push_of_some _ e⟩
    · obtain ⟨w, z⟩ := I.cell y c q.2.1
      exact ⟨w, z.keeps kp⟩
  · show H cenv.locals = none
    rw [hL]; exact nC
  · rcases mem2 e with q | q
    · exact I.hok.fresh (Nat.le_of_lt (memF q).2.1)
    · exact I.freeC y c q.2.1
  · have hp : p ∈ ([] : List (Addr × Obj)) ++ [(a, oa)] := hp
    have e : p = (a, oa) := by simpa using hp
    subst e
    refine ⟨hga, I.hok.fresh (Nat.le_of_lt hale), ?_, ?_, hnc⟩
    · show a ≠ cenv.locals
      rw [hL]; exact Nat.ne_of_gt hale
    · intro hb
      rcases List.mem_cons.mp (I.stkSub _ hb) with z | z
      · have := I.lt
        rw [← z] at this
        exact absurd (Nat.lt_trans hale this) (Nat.lt_irrefl _)
      · exact I.nofs (Nat.le_of_lt hale) z
end
end U

set_option Elab.async false
set_option linter.all false
set_option maxRecDepth 100000
set_option maxHeartbeats 2000000
/-! G2: a generator expression's turns; any, all. -/
namespace U
open PySem PySem.Spec PyProof.Rows L2

theorem Inv.same {X : Cx} {pins : List (Addr × Obj)} {σ : L2.St} {H : Hp} {s s' : Shared} (I : Inv X pins σ H s) (hh : s'.heap = s.heap) (ho : s'.os = s.os) (hg : AllBare s'.gens) : Inv X pins σ H s' :=
  ⟨I.ok, by rw [ho]; exact I.os, hg, by rw [hh]; exact I.base, by rw [hh]; exact I.loc, by rw [hh]; exact I.cell, I.free, I.freeC, by rw [hh]; exact I.pin, by rw [hh]; exact I.hok, I.len⟩
theorem bare_set {s : Shared} {g : Nat} {x : GenState} (h : AllBare s.gens) (hx : x.bare = true) : AllBare (s.setGen g x).gens := by
  intro y hy
  have hy : y ∈ s.gens.setIfInBounds g x := hy
  rcases Array.mem_or_eq_of_mem_setIfInBounds hy with h1 | h1
  · exact h y h1
  · rw [h1]; exact hx
theorem set_size {s : Shared} {g : Nat} {x : GenState} : (s.setGen g x).gens.size = s.gens.size := by simp [Shared.setGen]
theorem set_get {s : Shared} {g : Nat} {x : GenState} (h : g < s.gens.size) : (s.setGen g x).gens[g]? = some x := by simp [Shared.setGen, h]

/-- a generator expression that is under way: X its frame's context -/
structure GPlan where
  X : Cx
  elt : Expr
  tg : Expr
  iter : Expr
  scope : Scope
  gpos : Pos
  it : Addr
  a : Addr
  oa : Obj
  g : Nat
  fp : List Addr
  tn : Nat → Heap → Prop
  σ : L2.St
  vs : List Nat
  N : Nat
  W : Nat → Hp → Prop
  bv : Nat → V
  A : Around
  S : Option Addr
namespace GPlan
variable (p : GPlan)
abbrev e : Expr := .GeneratorExp p.elt [⟨p.tg, p.iter, [], 0⟩] p.scope p.gpos
abbrev p0 : List (Addr × Obj) := [(p.a, p.oa)]
/-- the consumer's own object, as it stands -/
def Own (s : Shared) (q : List (Addr × Obj)) : Prop := match p.S with
  | none => q = []
  | some S => ∃ o, q = [(S, o)] ∧ s.heap.get? S = some o
def St (i : Nat) (s : Shared) : Prop := ∃ H' q, p.Own s q ∧ Inv p.X (p.p0 ++ q) (wipe p.σ p.vs) H' s ∧ p.tn i s.heap ∧ (∀ b ∈ p.fp, H' b = none) ∧ p.W i H'
def R : GenEnd := fun n s₀ r s₁ => r = .ok .next ∧ (n = 0 ∧ p.g < s₁.gens.size ∧ ∃ H', Inv p.X p.p0 (wipe p.σ p.vs) H' s₁ ∧ p.W p.N H')
/-- the consumer's object stands as it stood -/
def Same (s s' : Shared) : Prop := ∀ S, p.S = some S → s'.heap.get? S = s.heap.get? S
def Y : Protocol := fun m s₀ v s kap => m < p.N ∧ RelV (p.bv (p.N - m - 1)) v ∧ p.St (p.N - m) s ∧ p.g < s.gens.size ∧ (∀ s'', p.St (p.N - m) s'' → p.g < s''.gens.size → kap (.send .none) s'') ∧ p.Same s₀ s
structure Ok : Prop where
  cal : p.X.calm = true
  ar : p.X.A = p.A.in1.over (.compLoop p.e 0 (.ref p.it) .none p.X.env) []
  xe : p.X.xe = fun _ _ => False
  exf : p.X.ex = p.fp
  pn : p.X.pn = []
  co : p.X.env.scope.isCoroutine = false
  nab : p.a ∉ p.fp
  nSb : ∀ S, p.S = some S → S ∉ p.fp
  len : True
  turn : ∃ J, Turn p.X.prog p.X.w p.X.K p.tg J p.fp p.it p.tn ∧ ∃ (g : TG) (te : TE), PG p.X p.tg g ∧ PE p.X p.elt te ∧
    (∀ i H, i < p.N → p.W i H → J.go i H ∧ ∀ x H', J.yld i H x H' → g x (wipe p.σ p.vs) H' fun σ2 H2 => wipe σ2 p.vs = wipe p.σ p.vs ∧ te σ2 H2 fun y H4 => y = p.bv i ∧ p.W (i + 1) H4) ∧ ∀ H, p.W p.N H → J.stop p.N H
  gen : ∀ s i, p.St i s → s.heap.IsGen p.a p.g
variable {p}
theorem Own.keep {s s' : Shared} {q : List (Addr × Obj)} (h : p.Own s q) (k : ∀ r ∈ q, s'.heap.get? r.1 = some r.2) : p.Own s' q := by
  unfold Own at h ⊢
  cases e : p.S with
  | none => rw [e] at h; exact h
  | some S =>
    rw [e] at h
    obtain ⟨o, rfl, ho⟩ := h
    exact ⟨o, rfl, k _ List.mem_cons_self⟩
theorem Own.nfp (ok : p.Ok) {s : Shared} {q : List (Addr × Obj)} (h : p.Own s q) : ∀ r ∈ q, r.1 ∉ p.fp := by
  unfold Own at h
  cases e : p.S with
  | none => rw [e] at h; intro r hr; rw [h] at hr; cases hr
  | some S =>
    rw [e] at h
    obtain ⟨o, rfl, ho⟩ := h
    intro r hr
    rw [List.mem_singleton.mp hr]
    exact ok.nSb S e
theorem stat (ok : p.Ok) {σ' : L2.St} {H' : Hp} {s s' : Shared} {q : List (Addr × Obj)} (o : p.Own s q) (I' : Inv p.X (p.p0 ++ q) σ' H' s') (hn : ∀ b ∈ p.fp, H' b = none) : ∀ b ∈ p.fp, FpOk p.X (p.p0 ++ q) H' b := fun b hb =>
  have hb' : b ∈ p.X.ex := by rw [ok.exf]; exact hb
  ⟨hn b hb, (I'.ok.exf b hb').1, I'.ok.exfs b hb', .inl hb', fun x c e => (I'.ok.exf b hb').2 x c e, fun r hr z => by
    rw [ok.pn, List.nil_append] at hr
    rcases List.mem_append.mp hr with hr | hr
    · rw [List.mem_singleton.mp hr] at z
      exact ok.nab (by rw [show p.a = b from z]; exact hb)
    · exact o.nfp ok r hr (by rw [z]; exact hb)⟩
theorem seg (ok : p.Ok) : ∀ (k i : Nat) (s₀ s : Shared), p.N - i = k → i ≤ p.N → p.St i s → p.g < s.gens.size → p.Same s₀ s →
    Seg (model p.X.prog p.X.w) p.A.in1 p.R p.Y k s₀ (.compLoop p.e 0 (.ref p.it) .none p.X.env) ((model p.X.prog p.X.w).den (.compLoop p.e 0 (.ref p.it) .none p.X.env)) [] s := by
  obtain ⟨J, T, gg, te, pg, pe, step, stop⟩ := ok.turn
  have ar := ok.ar
  have xf : ∀ {α : Type} {t : Sem α} {Q : α → Shared → Prop} {s : Shared}, wpAny (model p.X.prog p.X.w) p.X.A t Q p.X.xe s → wpAny (model p.X.prog p.X.w) p.X.A t Q (fun _ _ => False) s := fun h => by rw [ok.xe] at h; exact h
  intro k
  induction k with
  | zero =>
    intro i s₀ s hk hi hst hg sm
    have hin : i = p.N := by omega
    subst hin
    obtain ⟨H5, q, o5, I5, t5, n5, w5⟩ := hst
    show Seg _ _ _ _ _ s₀ _ ((compTurn p.e 0 (.ref p.it) .none p.X.env).onRaise (leaving p.X.env)) [] s
    rw [compTurn_gen, Sem.onRaise_eq_wrap]
    refine seg_bind_wrap (wpAny_standAt ?_)
    refine seg_bind_wrap ?_
    rw [← ar]
    have td := T.done p.X rfl rfl rfl ok.cal p.N (p.p0 ++ q) s _ H5 (fun _ _ => False) I5 (stat ok o5 I5 n5) t5 (stop H5 w5)
    refine GenW.wpAny_gsz (n := p.g + 1) hg (thnF td fun r s6 ⟨hr, I6⟩ hg6 => ?_)
    subst hr
    exact seg_end (.ok .next) ⟨rfl, rfl, hg6, H5, I6.unpinned, w5⟩
  | succ k ih =>
    intro i s₀ s hk hi hst hg sm
    have hlt : i < p.N := by omega
    obtain ⟨H5, q, o5, I5, t5, n5, w5⟩ := hst
    obtain ⟨go, st1⟩ := step i H5 hlt w5
    show Seg _ _ _ _ _ s₀ _ ((compTurn p.e 0 (.ref p.it) .none p.X.env).onRaise (leaving p.X.env)) [] s
    rw [compTurn_gen, Sem.onRaise_eq_wrap]
    refine seg_bind_wrap (wpAny_standAt ?_)
    refine seg_bind_wrap ?_
    rw [← ar]
    have ti := T.item p.X rfl rfl rfl ok.cal i (p.p0 ++ q) s _ H5 (fun _ _ => False) I5 (stat ok o5 I5 n5) t5 go
    refine GenW.wpAny_gsz (n := p.g + 1) hg (thnF ti fun r s6 ⟨u, hr, h6⟩ hg6 => ?_)
    subst hr
    refine seg_bind_wrap ?_
    rw [← ar]
    refine GenW.wpAny_gsz (n := p.g + 1) hg6 (thnF h6 fun _ s7 ⟨x, H7, I7, r7, y7, t7, n7⟩ hg7 => ?_)
    have I7' := I7.pinned (stat ok o5 I7 n7) (T.obj _ _ t7)
    refine seg_bind_wrap ?_
    rw [← ar]
    refine GenW.wpAny_gsz (n := p.g + 1) hg7 (thnF (xf (pg.run _ s7 _ H7 x u _ I7' r7 (st1 x H7 y7))) fun _ s8 ⟨σ8, H8, I8, hw8, q8⟩ hg8 => ?_)
    refine seg_bind_wrap (wpAny_tests_nil ?_)
    simp only [if_true]
    have hy : ∀ v, yieldOut p.X.env v = yieldValue v := fun v => by simp only [yieldOut, ok.co, Bool.false_eq_true, if_false]
    simp only [hy]
    rw [Sem.bind_eq_wrap', Sem.bind_eq_wrap', Sem.wrap_wrap, Sem.wrap_wrap]
    refine seg_wrap ?_
    rw [← ar]
    refine GenW.wpAny_gsz (n := p.g + 1) hg8 (thnF (xf (pe.run _ s8 σ8 H8 _ I8 q8)) fun z s10 ⟨yv, H10, I10, r10, ey, w10⟩ hg10 => ?_)
    subst ey
    have pin' : ∀ b ∈ p.fp, ∀ o, s7.heap.get? b = some o → s10.heap.get? b = some o ∧ H10 b = none := fun b hb o e =>
      let z := I10.pin (b, o) (List.mem_append_right _ (List.mem_append_right _ (mem_pinsAt hb e)))
      ⟨z.1, z.2.1⟩
    have hl : (wipe p.σ p.vs).length = σ8.length := by rw [← hw8, wipe_length]
    have S10 : p.St (i + 1) s10 := by
      refine ⟨H10, q, o5.keep fun r hr => (I10.pin r (List.mem_append_right _ (List.mem_append_left _ (List.mem_append_right _ hr)))).1, (I10.unpinned (pins := p.p0 ++ q)).weak hl (fun j v e => ?_), T.keep _ _ _ t7 fun b hb o e => (pin' b hb o e).1, fun b hb => ?_, w10⟩
      · rw [← hw8] at e
        exact (wipe_some e).1
      · obtain ⟨o, e, _⟩ := T.obj _ _ t7 b hb
        exact (pin' b hb o e).2
    refine seg_at (seg_yield rfl rfl rfl ⟨by omega, by rw [show p.N - k - 1 = i by omega]; exact r10, by rw [show p.N - k = i + 1 by omega]; exact S10, hg10, fun s'' hw hg11 => ?_, fun S hS => ?_⟩)
    · exact seg_again rfl (ih (i + 1) s'' s'' (by omega) hlt (by rw [show p.N - k = i + 1 by omega] at hw; exact hw) hg11 fun _ _ => rfl)
    · have o6 := o5
      unfold Own at o6
      rw [hS] at o6
      obtain ⟨o, rfl, ho⟩ := o6
      rw [← sm S hS, ho]
      exact (I10.pin (S, o) (List.mem_append_right _ (List.mem_append_left _ (List.mem_append_right _ List.mem_cons_self)))).1
theorem start (ok : p.Ok) {s₀ s : Shared} (hst : p.St 0 s) (hg : p.g < s.gens.size) (sm : p.Same s₀ s := by exact fun _ _ => rfl) :
    Seg (model p.X.prog p.X.w) p.A.in1 p.R p.Y p.N s₀ (.compStart p.e 0 (.ref p.it) .none p.X.env) ((model p.X.prog p.X.w).den (.compStart p.e 0 (.ref p.it) .none p.X.env)) [] s := by
  have loop := seg ok p.N 0 s₀ s (Nat.sub_zero _) (Nat.zero_le _) hst hg sm
  obtain ⟨J, T, _⟩ := ok.turn
  obtain ⟨H5, q, o5, I5, t5, n5, w5⟩ := hst
  show Seg _ _ _ _ _ s₀ _ ((compStart p.e 0 (.ref p.it) .none p.X.env).onRaise (leaving p.X.env)) [] s
  unfold compStart
  rw [Sem.onRaise_eq_wrap]
  show Seg _ _ _ _ _ s₀ _ ((ask >>= _).wrap _ _ _ _) [] s
  refine seg_bind_wrap (wpAny_askSetting ?_)
  split
  · exact seg_again rfl loop
  · first
      | exact seg_bind_wrap (wpAny_rule (seg_bind_wrap (wpAny_standAt (seg_bind_wrap (T.self _ 0 s _ _ t5 (seg_again rfl loop))))))
      | (refine seg_bind_wrap (wpAny_rule ?_); show Seg _ _ _ _ _ s₀ _ ((standAt p.iter.pos >>= _).wrap _ _ _ _) [] s; exact seg_bind_wrap (wpAny_standAt (seg_bind_wrap (T.self _ 0 s _ _ t5 (seg_again rfl loop)))))
def Cont (p : GPlan) (j : Nat) (gs : GenState) : Prop := ∀ s'', p.St j s'' → p.g < s''.gens.size → gs.Goes (model p.X.prog p.X.w) p.A.in1 p.R p.Y (p.N - j) (.send .none) s''
/-- ahead of its j-th item -/
def Rdy (p : GPlan) (j : Nat) (s : Shared) : Prop := p.St j s ∧ p.g < s.gens.size ∧ ∃ gs, s.gens[p.g]? = some gs ∧ p.Cont j gs
theorem St.gens {s : Shared} {j : Nat} {gs : GenState} (h : p.St j s) (hb : gs.bare = true) : p.St j (s.setGen p.g gs) := by
  obtain ⟨H', q, o, I, t, n, w⟩ := h
  exact ⟨H', q, o.keep fun r hr => (I.pin r (List.mem_append_right _ (List.mem_append_right _ hr))).1, U.Inv.same I rfl rfl (bare_set I.bare hb), t, n, w⟩
theorem St.nl {s : Shared} {j : Nat} (h : p.St j s) : s.heap.NoLimit := let ⟨_, _, _, I, _⟩ := h; I.nolimit
theorem item (ok : p.Ok) {j : Nat} {s : Shared} {Q : Option Value → Shared → Prop} {E : Value → Shared → Prop} (hh : p.A.handled = none) (hroom : p.A.depth < recursionLimit) (hj : j < p.N) (h : p.Rdy j s)
    (hQ : ∀ v s', RelV (p.bv j) v → p.Rdy (j + 1) s' → p.Same s s' → Q (some v) s') : wpAny (model p.X.prog p.X.w) p.A (pyNext (.ref p.a)) Q E s := by
  obtain ⟨st, hg, gs, hgs, hgo⟩ := h
  obtain ⟨m, hm⟩ : ∃ m, p.N - j = m + 1 := ⟨p.N - j - 1, by omega⟩
  unfold Cont at hgo
  rw [hm] at hgo
  have hl : s.heap.NoLimit := st.nl
  refine wpAny_pyNext_genexpQ (n := m + 1) (P := fun n s₀ s₁ => n = 0 ∧ p.g < s₁.gens.size ∧ ∃ H', Inv p.X p.p0 (wipe p.σ p.vs) H' s₁ ∧ p.W p.N H') (Y := p.Y) hh hl hroom (ok.gen s j st) hgs (hgo _ (st.gens rfl) (by rw [set_size]; exact hg)) (fun v s₁ gs' hb hv => ?_) (fun s₁ hp h' hk => ?_)
  · obtain ⟨h1, h2, h3, h4, h5, h6⟩ := hv
    have e1 : p.N - (m + 1 - 1) - 1 = j := by omega
    have e2 : p.N - (m + 1 - 1) = j + 1 := by omega
    rw [e1] at h2
    rw [e2] at h3
    refine hQ v _ h2 ⟨h3.gens hb, by rw [set_size]; exact h4, gs', set_get h4, fun s'' hw1 hw2 => ?_⟩ fun S hS => h6 S hS
    rw [show p.N - (j + 1) = m by omega]
    rw [e2] at h5
    exact h5 s'' hw1 hw2
  · exact absurd hp.1 (Nat.succ_ne_zero m)
theorem done (ok : p.Ok) {s : Shared} {Q : Option Value → Shared → Prop} {E : Value → Shared → Prop} (hh : p.A.handled = none) (hroom : p.A.depth < recursionLimit) (h : p.Rdy p.N s)
    (hQ : ∀ s' H', Inv p.X p.p0 (wipe p.σ p.vs) H' s' → p.W p.N H' → Q none s') : wpAny (model p.X.prog p.X.w) p.A (pyNext (.ref p.a)) Q E s := by
  obtain ⟨st, hg, gs, hgs, hgo⟩ := h
  unfold Cont at hgo
  rw [Nat.sub_self] at hgo
  have hl : s.heap.NoLimit := st.nl
  refine wpAny_pyNext_genexpQ (n := 0) (P := fun n s₀ s₁ => n = 0 ∧ p.g < s₁.gens.size ∧ ∃ H', Inv p.X p.p0 (wipe p.σ p.vs) H' s₁ ∧ p.W p.N H') (Y := p.Y) hh hl hroom (ok.gen s _ st) hgs (hgo _ (st.gens rfl) (by rw [set_size]; exact hg)) (fun v s₁ gs' hb hv => ?_) (fun s₁ hp h' hk => ?_)
  · obtain ⟨_, _, h3, h4, h5, _⟩ := hv
    exact False.elim (h5 _ h3 h4)
  · obtain ⟨_, hg1, H', I, w⟩ := hp
    have I2 : Inv p.X p.p0 (wipe p.σ p.vs) H' (s₁.setGen p.g .finished) := U.Inv.same I rfl rfl (bare_set I.bare rfl)
    exact hQ _ H' (I2.kept (t' := s₁.toks) hk) w
/-- all -/
theorem all_loop (ok : p.Ok) {A0 : Around} (hA : p.A = A0.in1) {R : Result → Shared → Prop} (tr : Nat → Bool) (htr : p.bv = fun i => .bl (tr i)) (hh : p.A.handled = none) (hroom : p.A.depth < recursionLimit)
    (hR : ∀ s' i H', i ≤ p.N → Inv p.X p.p0 (wipe p.σ p.vs) H' s' → p.W i H' → R (.ok (.ret (.bool ((List.range p.N).all tr)))) s') :
    ∀ (k j : Nat) (s : Shared), p.N - j = k → j ≤ p.N → p.Rdy j s → (∀ i, i < j → tr i = true) → codeAny (model p.X.prog p.X.w) A0 (.builtin "all.loop" ⟨[.ref p.a], []⟩) R s := by
  intro k
  induction k with
  | zero =>
    intro j s hk hj hst hf
    have e : j = p.N := by omega
    subst e
    refine codeAny_builtin F.entry_all_loop ?_
    rw [Around.under_plainId F.plain_all_loop _]
    show wpAny _ A0.in1 (pyNext (.ref p.a) >>= _) _ _ s
    rw [← hA]
    refine wpAny_bind (done ok hh hroom hst fun s' H' I w => ?_)
    refine wpAny_bind (wpAny_rule (wpAny_pure ?_))
    have h := hR s' p.N H' (Nat.le_refl _) I w
    have e : (List.range p.N).all tr = true := List.all_eq_true.mpr fun i hi => hf i (List.mem_range.mp hi)
    rw [e] at h
    exact h
  | succ k ih =>
    intro j s hk hj hst hf
    have hlt : j < p.N := by omega
    refine codeAny_builtin F.entry_all_loop ?_
    rw [Around.under_plainId F.plain_all_loop _]
    show wpAny _ A0.in1 (pyNext (.ref p.a) >>= _) _ _ s
    rw [← hA]
    refine wpAny_bind (item ok hh hroom hlt hst fun v s' hv hst' _ => ?_)
    rw [htr] at hv
    have hv : v = .bool (tr j) := hv
    subst hv
    refine wpAny_bind (wpAny_holding (wpAny_truthy_bool ?_))
    refine wpAny_bind (wpAny_letGo ?_)
    cases hb : tr j with
    | true =>
      simp only [if_true]
      refine wpAny_pure ⟨plainId_quiet F.plain_all_loop _, ih (j + 1) _ (by omega) hlt hst' fun i hi => ?_⟩
      by_cases e : i = j
      · rw [e]; exact hb
      · exact hf i (by omega)
    | false =>
      simp only [Bool.false_eq_true, if_false]
      obtain ⟨⟨H', q, _, I, _, _, w⟩, _⟩ := hst'
      have h := hR s' (j + 1) H' hlt I.unpinned w
      have e : (List.range p.N).all tr = false := by
        rw [List.all_eq_false]
        exact ⟨j, List.mem_range.mpr hlt, by rw [hb]; exact Bool.false_ne_true⟩
      rw [e] at h
      exact wpAny_bind (wpAny_rule (wpAny_pure h))
end GPlan
end U

set_option Elab.async false
set_option linter.all false
set_option maxRecDepth 100000
set_option maxHeartbeats 4000000
/-! G3: a generator expression made; any, all of it. -/
namespace U
open PySem PySem.Spec PyProof.Rows L2
section
variable {X : Cx} {pins : List (Addr × Obj)} {σ : L2.St} {H : Hp} {s : Shared}
abbrev gE (elt tg iter : Expr) (scope : Scope) (gpos : Pos) : Expr := .GeneratorExp elt [⟨tg, iter, [], 0⟩] scope gpos
abbrev gA (X : Cx) (e : Expr) (it : Addr) (cenv : Env) : Around := X.A.in1.in1.over (.compLoop e 0 (.ref it) .none cenv) []
theorem gA_frames {e : Expr} {elt : Expr} {gs : List Comprehension} {scope : Scope} {gpos : Pos} (he : e = .GeneratorExp elt gs scope gpos) {it : Addr} {cenv : Env} (hf : X.A.frames = some X.stack) : (gA X e it cenv).frames = some (cenv :: X.stack) := by
  subst he
  show pushEnvs [cenv] (pushEnvs (envsOf []) X.A.frames) = _
  rw [hf]
  rfl
theorem gA_room {e : Expr} {elt : Expr} {gs : List Comprehension} {scope : Scope} {gpos : Pos} (he : e = .GeneratorExp elt gs scope gpos) {it : Addr} {cenv : Env} {k : Nat} (hr : Room (k + 1) X.A) : Room k (gA X e it cenv) := by
  subst he
  refine ⟨hr.hd, ?_, ?_⟩
  · have := hr.dp
    show X.A.depth + 0 + 1 + 3 * k + 5 < _
    omega
  · have := hr.un
    show X.A.units + 1 + 1 + 0 + 3 + 16 * k + 200 < _
    omega
/-- what is known of a generator that is made -/
structure Made (X : Cx) (pins : List (Addr × Obj)) (σ : L2.St) (elt tg iter : Expr) (scope : Scope) (gpos : Pos) (own : List (Str × Nat)) (J : It) (H4 : Hp) (s4 s6 : Shared) (it a : Addr) (oa : Obj) (fp : List Addr) (tn : Nat → Heap → Prop) (code : Value) : Prop where
  I4 : Inv X pins σ H4 s4
  T : Turn X.prog X.w X.K tg J fp it tn
  fps : ∀ b ∈ fp, FpOk X pins H4 b ∧ b < s4.heap.objs.size
  I6 : Inv (gCx X (gA X (gE elt tg iter scope gpos) it (gEnv X scope s4.heap.objs.size code)) s4 H4 (gEnv X scope s4.heap.objs.size code) fp) [(a, oa)] (wipe σ (own.map (·.2))) H4 s6
  t6 : tn 0 s6.heap
  lt : s4.heap.objs.size < a
  oas : ∃ nm qn, oa.cls = .type "generator" ∧ oa.data = .fields #[.int s4.gens.size 0, nm, qn] ∧ oa.slots = #[]
  gl : s4.gens.size < s6.gens.size
  gg : s6.gens[s4.gens.size]? = some (.fresh (.compStart (gE elt tg iter scope gpos) 0 (.ref it) .none (gEnv X scope s4.heap.objs.size code)))
  fr6 : s6.heap.objs.size = a + 1
/-- the table at P has grown, what is new besides is not told -/
def TabS (T : List Addr) (H : Hp) (P : Addr) : Prop := TabE T H P ∧ ∀ Q ∈ T, H Q ≠ none
def Tabd (T : List Addr) (P : Addr) (H H' : Hp) : Prop := TabE T H' P ∧ ∀ b, b ≠ P → H b ≠ none → H' b = H b
/-- the code of the generator expression at gpos stands in the table at P -/
def GEnt (H : Hp) (P : Addr) (gpos : Pos) (code : Value) : Prop := ∃ ps : Array Value, H P = some (.tbl ps) ∧ TriplesOk ps.toList ∧ codeAmong gpos ps.toList = some code
theorem codeAmong_app {pos : Pos} {c : Value} {m : List Value} (l : List Value) (h : TriplesOk l) (e : codeAmong pos l = some c) : codeAmong pos (l ++ m) = some c := by
  fun_induction TriplesOk l with
  | case1 => cases e
  | case2 a t b u x rest ih =>
    simp only [List.cons_append, codeAmong] at e ⊢
    split at e
    · rename_i hc; rw [if_pos hc]; exact e
    · rename_i hc; rw [if_neg hc]; exact ih h e
  | case3 l h1 h2 => exact h.elim
theorem codeAmong_snoc' {pos : Pos} {a b : Int} {c : Value} (l : List Value) (h : TriplesOk l) (e : codeAmong pos l = none) :
    codeAmong pos (l ++ [rawInt a, rawInt b, c]) = if a == pos.line && b == pos.col then some c else none := by
  fun_induction TriplesOk l with
  | case1 => simp [codeAmong, rawInt]
  | case2 a' t b' u x rest ih =>
    simp only [List.cons_append, codeAmong] at e ⊢
    split at e
    · cases e
    · rename_i hc; rw [if_neg hc]; exact ih h e
  | case3 l h1 h2 => exact h.elim
/-- the table has grown by one code object, which is known now -/
theorem inv_tab2 {P c' P' : Addr} {ps more : Array Value} {o : Obj} {h' : Heap} {t' : Nat} (I : Inv X pins σ H s) (hP : H P = some (.tbl ps)) (k : ∀ b o, b ≠ P → s.heap.get? b = some o → h'.get? b = some o)
    (hm : h'.get? P = some { cls := .none, data := .fields (ps ++ more) }) (hc : s.heap.objs.size ≤ c') (hp : s.heap.objs.size ≤ P') (hne : c' ≠ P') (ho : h'.get? c' = some o) (ht : h'.get? P' = some { cls := .none, data := .fields #[] }) :
    Inv X pins σ (upd (upd (upd H P (.tbl (ps ++ more))) c' (.frz o (.ext Mk))) P' (.tbl #[])) { s with heap := h', toks := t' } := by
  have ltP : P < s.heap.objs.size := Heap.lt_size (show s.heap.get? P = some _ from I.hok P _ hP)
  have neP : ∀ b, b < s.heap.objs.size → b ≠ c' ∧ b ≠ P' := fun b hb => ⟨Nat.ne_of_lt (Nat.lt_of_lt_of_le hb hc), Nat.ne_of_lt (Nat.lt_of_lt_of_le hb hp)⟩
  have ltH : ∀ b u, H b = some u → b < s.heap.objs.size := fun b u e => (I.hok b u e).lt
  generalize hH' : upd (upd (upd H P (.tbl (ps ++ more))) c' (.frz o (.ext Mk))) P' (.tbl #[]) = H'
  have at_ : ∀ b, b ≠ P → b < s.heap.objs.size → H' b = H b := fun b h1 h2 => by rw [← hH', upd_ne (neP b h2).2, upd_ne (neP b h2).1, upd_ne h1]
  have atP : H' P = some (.tbl (ps ++ more)) := by rw [← hH', upd_ne (neP P ltP).2, upd_ne (neP P ltP).1, upd_same]
  have nP : ∀ b u, H b = some u → (∀ q, u ≠ .tbl q) → b ≠ P := fun b u e q z => by
    rw [z, hP] at e
    exact q ps (Option.some.inj e).symm
  have nN : ∀ b, H b = none → b ≠ P := fun b e z => by
    rw [z, hP] at e
    cases e
  refine I.step (g' := s.gens) (d' := s.drawn) (ch := []) (fun b hb => absurd hb (by simp)) (fun b o _ _ _ e n => k b o (nN b n) e) (fun b o _ _ _ e n => ⟨o.slots, k b o (nN b n) e⟩)
    (fun b o _ e n => by rw [at_ b (nN b n) (Heap.lt_size e)]; exact n) (fun b o _ e => ?_) (fun b xs e => by rw [at_ b (nP b _ e (fun q z => by cases z)) (ltH b _ e)]; exact e) (fun b o u e => by rw [at_ b (nP b _ e (fun q z => by cases z)) (ltH b _ e)]; exact e) (fun b qs e => ?_) (fun m hn => ?_) (fun b u e => ?_) I.bare
  · by_cases hb : b = P
    · rw [hb]
      exact ⟨_, hm⟩
    · exact ⟨o, k b o hb e⟩
  · by_cases hb : b = P
    · rw [hb, hP] at e
      cases e
      rw [hb, atP]
      exact ⟨more, rfl⟩
    · rw [at_ b hb (ltH b _ e), e]
      exact ⟨#[], by simp⟩
  · obtain ⟨ob, es, ep, ho, r⟩ := hn
    exact ⟨ob, es, ep, k _ ob (nN _ I.free) ho, r⟩
  · by_cases h2 : b = P'
    · rw [h2] at e ⊢
      rw [← hH', upd_same] at e
      cases e
      exact ht
    · by_cases h1 : b = c'
      · rw [h1] at e ⊢
        rw [← hH', upd_ne hne, upd_same] at e
        cases e
        exact ⟨ho, trivial, ⟨o, ho⟩, fun _ _ _ _ => trivial⟩
      · by_cases h3 : b = P
        · rw [h3, atP] at e
          cases e
          rw [h3]
          exact hm
        · have e' : H b = some u := by
            rw [← hH', upd_ne h2, upd_ne h1, upd_ne h3] at e
            exact e
          refine (I.hok b u e').stay (fun d v hd q => k d v ?_ q) (fun d q => by rw [at_ d (nP d _ q (fun q z => by cases z)) (ltH d _ q)]; exact q) fun d xs q => by rw [at_ d (nP d _ q (fun q z => by cases z)) (ltH d _ q)]; exact q
          rcases hd with z | z
          · rw [z]
            exact h3
          · exact nP d _ z (fun q z => by cases z)
/-- behind the code object: the rest of the making -/
theorem gexp_tail {P0 : Addr} {elt tg iter : Expr} {scope : Scope} {gpos : Pos} {own : List (Str × Nat)} {Q' : Value → Shared → Prop} {J : It} {H4 : Hp} {s4 : Shared} {it : Addr} {fp : List Addr} {tn : Nat → Heap → Prop} {code : Value}
    (hN : X.N.Nodup) (TB : X.base.BuiltinsAt X.mg P0) (ok : GenOk X.N X.env.scope scope own)
    (I4 : Inv X pins σ H4 s4) (T : Turn X.prog X.w X.K tg J fp it tn) (f4 : ∀ b ∈ fp, FpOk X pins H4 b ∧ b < s4.heap.objs.size) (t4 : tn 0 s4.heap)
    (hQ : ∀ s6 a oa, Made X pins σ elt tg iter scope gpos own J H4 s4 s6 it a oa fp tn code → Q' (.ref a) s6) :
    wpAny (model X.prog X.w) X.A (builtinsFor X.env.globals X.env.builtins) (fun bi s₄ =>
        ∀ h', h'.Ns s₄.heap.objs.size (fun y => if y = ".0" then some (.ref it) else none) → Heap.SameBut s₄.heap.objs.size (pushCells (s₄.heap.push { cls := .type "frame", data := .dict #[] }) scope.names) h' →
          Q' (.ref h'.objs.size) { s₄ with
            gens := s₄.gens.push (.fresh (.compStart (gE elt tg iter scope gpos) 0 (.ref it) .none (genEnv scope (cellsFrom (s₄.heap.objs.size + 1) scope.names (cloFrom X.env.cells scope.names [])) s₄.heap.objs.size code bi X.env))),
            toks := s₄.toks + 1 + 1 + 1,
            heap := h'.push { cls := .type "generator", data := .fields #[.int s₄.gens.size 0, .str "<genexpr>" (s₄.toks + 1), .str (X.env.qual ++ "<genexpr>") (s₄.toks + 1 + 1)] } }) X.xe s4 := by
  obtain ⟨bm, ob, e1, e2, e3, e4, e5, e6, e7, e8⟩ := TB
  refine wpAny_builtinsFor (m := X.mg) (by rw [I4.ok.glob]; exact I4.mod.glob.keeps I4.bk) e1 e2 (I4.bk _ _ e5) e6 e7 e8 ?_
  intro h' hn' hs'
  have hsz2 : s4.heap.objs.size + 1 ≤ h'.objs.size := by
    rw [hs'.1]
    exact Heap.lt_size (pushCells_keeps scope.names _ _ _ (Heap.get?_push_size _ rfl))
  have kp1 : ∀ b o, s4.heap.get? b = some o → h'.get? b = some o := fun b o e => hs'.extBut b o (Nat.ne_of_lt (Heap.lt_size e)) (pushCells_keeps _ _ _ _ (Heap.get?_push_of_some _ e))
  refine hQ _ h'.objs.size { cls := .type "generator", data := .fields #[.int s4.gens.size 0, .str "<genexpr>" (s4.toks + 1), .str (X.env.qual ++ "<genexpr>") (s4.toks + 1 + 1)] } ⟨I4, T, f4, ?_, ?_, hsz2, ⟨_, _, rfl, rfl, rfl⟩, ?_, ?_, by rw [Heap.size_push]⟩
  · exact gen_start (it := .ref it) I4 ok hN f4 (fun z => I4.ok.hd z) (gA_frames rfl I4.ok.frames) hn' hs' rfl (Heap.get?_push_size _ rfl) (fun v z => by cases z) rfl
  · exact T.keep _ _ _ t4 fun b hb o e => Heap.get?_push_of_some _ (kp1 b o e)
  · show s4.gens.size < (s4.gens.push _).size
    rw [Array.size_push]; exact Nat.lt_succ_self _
  · show (s4.gens.push _)[s4.gens.size]? = _
    rw [Array.getElem?_push_size]
theorem gexp_make {c P : Addr} {Tb : List Addr} {elt tg iter : Expr} {scope : Scope} {gpos : Pos} {own : List (Str × Nat)} {wi : TI} {k : Nat} {R : It → Hp → Prop} {Q' : Value → Shared → Prop}
    (hr : Room (k + 1) X.A) (hc : X.calm = true) (hN : X.N.Nodup) (TB : GxR.TabB X.base X.mg c P) (hPT : P ∈ Tb) (hcode : X.env.code = .ref c) (ok : GenOk X.N X.env.scope scope own) (hi : PI X tg iter wi) (hs : ∀ v, genFold iter X.env v = pure v)
    (I : Inv X pins σ H s) (h : wi σ H fun J H1 => TabS Tb H1 P ∧ ∀ H2, Tabd Tb P H1 H2 → R J H2)
    (hQ : ∀ J H4 s4 s6 it a oa fp tn code, R J H4 → GEnt H4 P gpos code → Made X pins σ elt tg iter scope gpos own J H4 s4 s6 it a oa fp tn code → Q' (.ref a) s6) :
    wpAny (model X.prog X.w) X.A (eval (gE elt tg iter scope gpos) X.env) Q' X.xe s := by
  have hfree : ∀ y ∈ scope.names, y.2 = .free → ∃ c, X.env.cells.lookup y.1 = some c := fun y hy e => by
    rcases ok.blk.free y hy e with k | k
    · exact I.ok.has _ (.inl k)
    · exact I.ok.has _ (.inr k)
  refine wpAny_GeneratorExp_makeC ok.co (closure_ok hfree) ok.dot ok.blk.kind (by have := hr.dp; omega) ?_ hs
  refine thn (hi.run pins s σ H _ I h) fun xv s1 hx => thn hx fun itv s2 h2 => ?_
  obtain ⟨it, fp, tn, J, H2, e, I2, T, st2, f2, ⟨tabE, hAll⟩, q⟩ := h2
  subst e
  obtain ⟨ps, hP, ht, hen⟩ := id tabE
  have hPs : s2.heap.get? P = some { cls := .none, data := .fields ps } := I2.hok P _ hP
  have cd : PySem.W.CodeHd s2.heap c P := TB.code.keeps I2.bk
  have nP : ∀ b ∈ fp, b ≠ P := fun b hb z => by
    have := (f2 b hb).1
    rw [z, hP] at this; cases this
  have flt : ∀ b ∈ fp, b < s2.heap.objs.size := fun b hb => by
    obtain ⟨o, e, _⟩ := T.obj _ _ st2 b hb
    exact Heap.lt_size e
  refine ⟨I2.nolimit, ?_⟩
  cases hf : codeAmong gpos ps.toList with
  | none =>
    refine wpAny_genexprCodeX hcode (cd.code hPs ht) (cd.tab hPs) hf fun c' h' tk hx hge hlt hco' _ htab' hnew => ?_
    obtain ⟨P', hge', hcode', htb'⟩ := hnew
    obtain ⟨o1, vs, f1, tf, fl, tg', inF, tx, tt, op, _, _, _, _, _, _, _, _, _, htr, _⟩ := hco'
    have hd' := PySem.W.CodeHd.of hcode' htb'
    obtain ⟨oc, _, _, _, _, _, _, _, _, ho, _⟩ := id hd'
    have hne : c' ≠ P' := by obtain ⟨_, _, _, _, _, _, _, _, _, _, _, _, _, _, _, _, _, _, z⟩ := hd'; exact z
    have keep3 : ∀ b u, b ≠ P → s2.heap.get? b = some u → h'.get? b = some u := fun b u hb e => hx b u hb e
    have I4 := inv_tab2 (t' := tk) I2 hP keep3 htab'.2 hge hge' hne ho htb'.2
    have ltH : ∀ b, H2 b ≠ none → b < s2.heap.objs.size := fun b e => by
      cases q : H2 b with
      | none => exact absurd q e
      | some u => exact (I2.hok b u q).lt
    have ne2 : ∀ b, b < s2.heap.objs.size → b ≠ c' ∧ b ≠ P' := fun b hb => ⟨Nat.ne_of_lt (Nat.lt_of_lt_of_le hb hge), Nat.ne_of_lt (Nat.lt_of_lt_of_le hb hge')⟩
    have hPz : P ≠ c' ∧ P ≠ P' := ne2 P (ltH P (by rw [hP]; exact fun z => nomatch z))
    have at4 : ∀ b, b ≠ P → H2 b ≠ none → upd (upd (upd H2 P (.tbl (ps ++ #[rawInt gpos.line, rawInt gpos.col, .ref c']))) c' (.frz oc (.ext Mk))) P' (.tbl #[]) b = H2 b := fun b h1 h2 => by
      rw [upd_ne (ne2 b (ltH b h2)).2, upd_ne (ne2 b (ltH b h2)).1, upd_ne h1]
    have atP : upd (upd (upd H2 P (.tbl (ps ++ #[rawInt gpos.line, rawInt gpos.col, .ref c']))) c' (.frz oc (.ext Mk))) P' (.tbl #[]) P = some (.tbl (ps ++ #[rawInt gpos.line, rawInt gpos.col, .ref c'])) := by
      rw [upd_ne hPz.2, upd_ne hPz.1, upd_same]
    have hl : (ps ++ #[rawInt gpos.line, rawInt gpos.col, Value.ref c']).toList = ps.toList ++ [rawInt gpos.line, rawInt gpos.col, .ref c'] := by simp
    have hP'T : P' ∉ Tb := fun z => absurd (ltH P' (hAll P' z)) (Nat.not_lt.mpr hge')
    refine gexp_tail (H4 := upd (upd (upd H2 P (.tbl (ps ++ #[rawInt gpos.line, rawInt gpos.col, .ref c']))) c' (.frz oc (.ext Mk))) P' (.tbl #[])) hN TB.bm ok I4 T (fun b hb => ⟨⟨?_, (f2 b hb).2⟩, ?_⟩) (T.keep _ _ _ st2 fun b hb o e => keep3 b o (nP b hb) e) fun s6 a oa M => hQ J _ _ s6 it a oa fp tn _ (q _ ⟨?_, at4⟩) ?_ M
    · have hb2 := ne2 b (flt b hb)
      rw [upd_ne hb2.2, upd_ne hb2.1, upd_ne (nP b hb)]
      exact (f2 b hb).1
    · exact Nat.lt_of_lt_of_le (flt b hb) (Nat.le_trans hge (Nat.le_of_lt hlt))
    · refine ⟨_, atP, htr, fun pos cv e => ?_⟩
      by_cases hq : codeAmong pos ps.toList = none
      · rw [hl, codeAmong_snoc' _ ht hq] at e
        split at e
        · cases e
          exact ⟨c', oc, P', rfl, by rw [upd_ne hne, upd_same], codO_of ho hd', hP'T, #[], upd_same, by with_unfolding_all trivial⟩
        · cases e
      · obtain ⟨cv', q'⟩ := Option.ne_none_iff_exists'.mp hq
        rw [hl, codeAmong_app _ ht q'] at e
        cases e
        obtain ⟨c2, o2, P2, z1, z2, z3, z4, qs, z5, z6⟩ := hen pos _ q'
        have n1 : c2 ≠ P := fun z => by rw [z, hP] at z2; cases z2
        have n2 : P2 ≠ P := fun z => z4 (by rw [z]; exact hPT)
        exact ⟨c2, o2, P2, z1, by rw [at4 c2 n1 (by rw [z2]; exact fun z => nomatch z)]; exact z2, z3, z4, qs, by rw [at4 P2 n2 (by rw [z5]; exact fun z => nomatch z)]; exact z5, z6⟩
    · exact ⟨_, atP, htr, by rw [hl]; exact codeAmong_snoc _ ht hf⟩
  | some cv =>
    refine wpAny_genexprCode_hit hcode (cd.code hPs ht) hf ?_
    refine gexp_tail hN TB.bm ok I2 T (fun b hb => ⟨f2 b hb, flt b hb⟩) st2 fun s6 a oa M => hQ J _ _ s6 it a oa fp tn _ (q _ ⟨tabE, fun _ _ _ => rfl⟩) ⟨ps, hP, ht, hf⟩ M

/-- a pure generator expression's reading: N items, the i-th is bv i -/
def GW (J : It) (g : TG) (te : TE) (vs : List Nat) (σ : L2.St) (N : Nat) (W : Nat → Hp → Prop) (bv : Nat → V) : Prop :=
  (∀ i H, i < N → W i H → J.go i H ∧ ∀ x H', J.yld i H x H' → g x (wipe σ vs) H' fun σ2 H2 => wipe σ2 vs = wipe σ vs ∧ te σ2 H2 fun y H4 => y = bv i ∧ W (i + 1) H4) ∧ ∀ H, W N H → J.stop N H
def tGen (T : List Addr) (P : Addr) (wi : TI) (g : TG) (te : TE) (vs : List Nat) (fin : Nat → (Nat → V) → (V → Prop) → Prop) : TE := fun σ H Q => wi σ H fun J H1 => TabS T H1 P ∧ ∀ H2, Tabd T P H1 H2 →
  ∃ (N : Nat) (W : Nat → Hp → Prop) (bv : Nat → V), W 0 H2 ∧ GW J g te vs σ N W bv ∧ fin N bv fun v => ∀ i H, i ≤ N → W i H → Q v H
def finAll : Nat → (Nat → V) → (V → Prop) → Prop := fun N bv k => ∃ tr : Nat → Bool, bv = (fun i => .bl (tr i)) ∧ k (.bl ((List.range N).all tr))
section
variable {c P : Addr} {Tb : List Addr} {elt tg iter : Expr} {scope : Scope} {gpos p pos : Pos} {own : List (Str × Nat)} {wi : TI} {g : TG} {te : TE} {k : Nat}
/-- the plan of a generator that is made -/
def mkPlan (X : Cx) (elt tg iter : Expr) (scope : Scope) (gpos : Pos) (own : List (Str × Nat)) (σ : L2.St) (H4 : Hp) (s4 : Shared) (it a : Addr) (oa : Obj) (fp : List Addr) (tn : Nat → Heap → Prop) (code : Value) (N : Nat) (W : Nat → Hp → Prop) (bv : Nat → V) (S : Option Addr) : GPlan where
  X := gCx X (gA X (gE elt tg iter scope gpos) it (gEnv X scope s4.heap.objs.size code)) s4 H4 (gEnv X scope s4.heap.objs.size code) fp
  elt := elt
  tg := tg
  iter := iter
  scope := scope
  gpos := gpos
  it := it
  a := a
  oa := oa
  g := s4.gens.size
  fp := fp
  tn := tn
  σ := σ
  vs := own.map (·.2)
  N := N
  W := W
  bv := bv
  A := X.A.in1
  S := S
theorem Made.ok {J : It} {H4 : Hp} {s4 s6 : Shared} {it a : Addr} {oa : Obj} {fp : List Addr} {tn : Nat → Heap → Prop} {code : Value} (M : Made X pins σ elt tg iter scope gpos own J H4 s4 s6 it a oa fp tn code) (hc : X.calm = true) (ok : GenOk X.N X.env.scope scope own)
    (hg : ∀ it s H C code fp, PG (gCx X (gA X (gE elt tg iter scope gpos) it (gEnv X scope C code)) s H (gEnv X scope C code) fp) tg g) {Z : Hp → Value → Prop} (hen : Z H4 code)
    (he : ∀ it s H C code fp, Z H code → PE (gCx X (gA X (gE elt tg iter scope gpos) it (gEnv X scope C code)) s H (gEnv X scope C code) fp) elt te)
    {N : Nat} {W : Nat → Hp → Prop} {bv : Nat → V} (gw : GW J g te (own.map (·.2)) σ N W bv) (S : Option Addr) (hS : ∀ b, S = some b → s4.heap.objs.size ≤ b) :
    (mkPlan X elt tg iter scope gpos own σ H4 s4 it a oa fp tn code N W bv S).Ok where
  cal := hc
  ar := rfl
  xe := rfl
  exf := rfl
  pn := rfl
  co := ok.co
  nab := fun z => by
    have h1 := (M.fps _ z).2
    exact absurd (Nat.lt_trans M.lt h1) (Nat.lt_irrefl _)
  nSb := fun b e z => by
    have h1 := (M.fps _ z).2
    exact absurd (Nat.lt_of_lt_of_le h1 (hS b e)) (Nat.lt_irrefl _)
  len := trivial
  turn := ⟨J, M.T, g, te, hg _ _ _ _ _ _, he _ _ _ _ _ _ hen, gw.1, gw.2⟩
  gen := fun s i h => by
    obtain ⟨H', q, _, I, _⟩ := h
    obtain ⟨nm, qn, h1, h2, h3⟩ := M.oas
    exact ⟨oa, nm, qn, (I.pin (a, oa) (List.mem_append_right _ (List.mem_append_left _ List.mem_cons_self))).1, h1, h2, h3⟩
theorem Made.rdy {J : It} {H4 : Hp} {s4 s6 : Shared} {it a : Addr} {oa : Obj} {fp : List Addr} {tn : Nat → Heap → Prop} {code : Value} (M : Made X pins σ elt tg iter scope gpos own J H4 s4 s6 it a oa fp tn code)
    {N : Nat} {W : Nat → Hp → Prop} {bv : Nat → V} (ok : (mkPlan X elt tg iter scope gpos own σ H4 s4 it a oa fp tn code N W bv none).Ok) (w : W 0 H4) :
    (mkPlan X elt tg iter scope gpos own σ H4 s4 it a oa fp tn code N W bv none).Rdy 0 s6 := by
  refine ⟨⟨H4, [], rfl, M.I6, M.t6, fun b hb => (M.fps b hb).1.1, w⟩, M.gl, _, M.gg, fun s'' hst hg => ⟨rfl, ?_⟩⟩
  exact GPlan.start ok hst hg
/-- back in the def's context -/
theorem Made.back {J : It} {H4 : Hp} {s4 s6 : Shared} {it a : Addr} {oa : Obj} {fp : List Addr} {tn : Nat → Heap → Prop} {code : Value} (M : Made X pins σ elt tg iter scope gpos own J H4 s4 s6 it a oa fp tn code)
    {σ' : L2.St} {H' : Hp} {s' : Shared} {pl : List (Addr × Obj)} (I : Inv (gCx X (gA X (gE elt tg iter scope gpos) it (gEnv X scope s4.heap.objs.size code)) s4 H4 (gEnv X scope s4.heap.objs.size code) fp) pl σ' H' s') : Inv X pins σ H' s' :=
  M.I4.call' (ch := fp) (I.os) I.base I.hok I.bare fun b hb => ⟨(M.fps b hb).1.2.2.2.1, (M.fps b hb).1.2.1, (M.fps b hb).1.2.2.2.2.1, (M.fps b hb).1.2.2.2.2.2⟩
theorem pe_allG (hr : Room (k + 1) X.A) (hc : X.calm = true) (hN : X.N.Nodup) (hgl : Gl X "all") (hm : X.mg "all" = none) (hb : bootBuiltins "all" = some (.builtin "all")) (TB : GxR.TabB X.base X.mg c P) (hPT : P ∈ Tb) (hcode : X.env.code = .ref c) (ok : GenOk X.N X.env.scope scope own) (hi : PI X tg iter wi)
    (hg : ∀ it s H C code fp, PG (gCx X (gA X (gE elt tg iter scope gpos) it (gEnv X scope C code)) s H (gEnv X scope C code) fp) tg g)
    (he : ∀ it s H C code fp, GEnt H P gpos code → PE (gCx X (gA X (gE elt tg iter scope gpos) it (gEnv X scope C code)) s H (gEnv X scope C code) fp) elt te)
    (hs : ∀ v, genFold iter X.env v = pure v)
    (hst : starEach [gE elt tg iter scope gpos] X.env = (false, eval (gE elt tg iter scope gpos) X.env) :: starEach [] X.env) :
    PE X (.Call (.Name "all" p) [gE elt tg iter scope gpos] [] pos) (tGen Tb P wi g te (own.map (·.2)) finAll) := by
  refine ⟨fun pins s σ H Q I h => ?_⟩
  refine wpAny_Call_Name_kw (ld_blt I hgl hm hb ?_)
  refine PyProof.Rows.callWith_builtin1 ?_ hst (by rfl)
  rw [hst]
  show wpAny _ _ (spliced ((false, eval (gE elt tg iter scope gpos) X.env) :: backTo pos (starEach [] X.env))) _ _ s
  refine Calls.spliced_cons (gexp_make (R := fun J H2 => ∃ (N : Nat) (W : Nat → Hp → Prop) (bv : Nat → V), W 0 H2 ∧ GW J g te (own.map fun x : Str × Nat => x.2) σ N W bv ∧ finAll N bv fun v => ∀ i H, i ≤ N → W i H → Q v H) hr hc hN TB hPT hcode ok hi hs I h fun J H4 s4 s6 it a oa fp tn code hR hen M => ?_)
  obtain ⟨N, W, bv, w0, gw, tr, htr, hk⟩ := hR
  have pok := M.ok hc ok hg hen he gw none (fun _ z => (nomatch z))
  have rdy := M.rdy pok w0
  refine Calls.spliced_nil ?_
  refine call_function_tree F.kind_all F.plain_all F.entry_all (F.args_all1 _) ?_
  unfold Builtin.«all»
  refine wpAny_bind (m := oneArg "all" _) (wpAny_pure ?_)
  refine wpAny_bind (wpAny_pyIter_gen (pok.gen _ _ rdy.1) ?_)
  refine wpAny_pure ⟨plainId_quiet F.plain_all_loop _, ?_⟩
  have hroom : X.A.in1.depth < recursionLimit := by have := hr.dp; show X.A.depth < _; omega
  refine GPlan.all_loop pok (A0 := X.A) rfl tr htr hr.hd hroom (fun s' i H' hi I' w' => ?_) _ 0 s6 rfl (Nat.zero_le _) rdy (fun i hi => absurd hi (Nat.not_lt_zero _))
  exact ⟨.bl _, H', M.back I', rfl, hk i H' hi w'⟩
end
end
end U

set_option Elab.async false
set_option linter.all false
set_option maxRecDepth 100000
set_option maxHeartbeats 2000000
/-! I1: enumerate and zip over lists and tuples, mixed: at the model's level. -/
namespace U
open PySem PySem.Spec PyProof.Rows L2

/-- an iterator of a list | of a tuple -/
def ItB : Bool → Heap → Addr → Addr → Nat → Prop
  | true, h, it, a, i => h.IsListIter it a i
  | false, h, it, a, i => h.IsTupleIter it a i
def SqB : Bool → Heap → Addr → Array Value → Prop
  | true, h, a, xs => h.IsList a xs
  | false, h, a, xs => h.IsTuple a xs
section
variable {b : Bool} {h h' : Heap} {it a q : Addr} {i : Nat} {xs : Array Value}
theorem ItB.at (x : ItB b h it a i) (k : ∀ o, h.get? it = some o → h'.get? it = some o) : ItB b h' it a i := by
  cases b with
  | true => obtain ⟨o, e, r⟩ := (show h.IsListIter it a i from x); exact ⟨o, k o e, r⟩
  | false => obtain ⟨o, e, r⟩ := (show h.IsTupleIter it a i from x); exact ⟨o, k o e, r⟩
theorem ItB.but (x : ItB b h it a i) (k : Heap.SameBut q h h') (n : it ≠ q) : ItB b h' it a i := x.at fun o e => k.extBut it o n e
theorem ItB.obj (x : ItB b h it a i) : ∃ o, h.get? it = some o ∧ ∀ v, o.data ≠ .cell v := by
  cases b with
  | true => obtain ⟨o, e, _, d⟩ := (show h.IsListIter it a i from x); exact ⟨o, e, fun v z => by rw [d] at z; cases z⟩
  | false => obtain ⟨o, e, _, d⟩ := (show h.IsTupleIter it a i from x); exact ⟨o, e, fun v z => by rw [d] at z; cases z⟩
theorem SqB.at (x : SqB b h a xs) (k : ∀ o, h.get? a = some o → h'.get? a = some o) : SqB b h' a xs := by
  cases b with
  | true => obtain ⟨o, e, r⟩ := (show h.IsList a xs from x); exact ⟨o, k o e, r⟩
  | false => obtain ⟨o, e, r⟩ := (show h.IsTuple a xs from x); exact ⟨o, k o e, r⟩
theorem SqB.lt (x : SqB b h a xs) : a < h.objs.size := by
  cases b with
  | true => obtain ⟨o, e, _⟩ := (show h.IsList a xs from x); exact Heap.lt_size e
  | false => obtain ⟨o, e, _⟩ := (show h.IsTuple a xs from x); exact Heap.lt_size e
theorem ItB.lt (x : ItB b h it a i) : it < h.objs.size := let ⟨_, e, _⟩ := x.obj; Heap.lt_size e
end
section
variable {prog : Program} {w : World} {A : Around} {E : Value → Shared → Prop} {s : Shared} {b : Bool} {it a : Addr} {i : Nat} {xs : Array Value} {x : Value} {Q : Value → Shared → Prop}
end

/-- a list | a tuple that stands -/
def SqV (K : PySem.W.Frag) : Bool → Hp → Addr → List V → Prop
  | true, H, a, xs => SqL K H a xs
  | false, H, a, xs => SqT K H a xs
section
variable {X : Cx} {pins : List (Addr × Obj)} {σ : L2.St} {H : Hp} {s : Shared}
theorem srcV (I : Inv X pins σ H s) {b : Bool} {a : Addr} {xs : List V} (h : SqV X.K b H a xs) : ∃ its : List Value, Vals xs its ∧ SqB b s.heap a its.toArray := by
  cases b with
  | true => obtain ⟨its, r, p, _⟩ := I.list h; exact ⟨its, r, p.isList⟩
  | false => obtain ⟨its, r, p, _⟩ := I.tuple h; exact ⟨its, r, p⟩
theorem SqV.inj (I : Inv X pins σ H s) {b : Bool} {a : Addr} {xs ys : List V} (h : SqV X.K b H a xs) (k : SqV X.K b H a ys) : xs = ys := by
  cases b with
  | true => exact I.list_inj h k
  | false => exact I.tuple_inj h k
end
theorem drB {prog : Program} {w : World} {A : Around} (b : Bool) (hh : A.handled = none) (it a : Addr) (hne : a ≠ it) (xs : Array Value) : Draws prog w A it [it, a] xs.size (fun i v => xs[i]? = some v) (fun i h => ItB b h it a i ∧ SqB b h a xs) := by
  cases b with
  | true => exact Draws.list hh it a hne xs
  | false => exact Draws.tuple hh it a hne xs
def itO (b : Bool) (a : Addr) : Obj := { cls := .type (if b then "list_iterator" else "tuple_iterator"), data := .fields #[.ref a, .int 0 0] }
theorem bgB (b : Bool) (a : Addr) (xs : Array Value) : Begins (.ref a) (itO b a) fun h => SqB b h a xs := by
  cases b with
  | true => exact begins_list a xs
  | false => exact begins_tuple a xs
theorem itB0 {b : Bool} {h : Heap} {it a : Addr} (e : h.get? it = some (itO b a)) : ItB b h it a 0 := by
  cases b with
  | true => exact ⟨_, e, rfl, rfl⟩
  | false => exact ⟨_, e, rfl, rfl⟩

/-! enumerate -/
def ItE (K : PySem.W.Frag) (b : Bool) (a : Addr) (k0 : Int) : It :=
  ⟨fun i H => ∃ (xs : List V) (x : V), SqV K b H a xs ∧ xs[i]? = some x,
    fun i H v H' => ∃ T x o, v = .ref T ∧ H T = none ∧ o.dict = none ∧ H' = upd H T (.frz o (.tup [.int (k0 + (i : Nat)), x])) ∧ ∀ xs, SqV K b H a xs → xs[i]? = some x,
    fun i H => ∃ xs : List V, SqV K b H a xs ∧ i = xs.length⟩
def enTn (b : Bool) (a : Addr) (k0 : Int) (N : Addr) (i : Nat) (h : Heap) : Prop :=
  (∃ old, IsEnum h (N + 1) N (k0 + (i : Nat)) old) ∧ ItB b h N a i
theorem turn_en {P : Program} {w : World} {K : PySem.W.Frag} {elts : List Expr} {kk : Nat} {tpos : Pos} {b : Bool} {a N : Addr} {k0 : Int} (h1 : a < N) :
    Turn P w K (.Tuple elts kk tpos) (ItE K b a k0) [N + 1, N] (N + 1) (enTn b a k0 N) where
  mem := by simp
  obj := fun i h st c hc => by
    obtain ⟨⟨old, he⟩, t⟩ := st
    have e' : c = N + 1 ∨ c = N := by simpa using hc
    rcases e' with q | q
    · rw [q]; exact ⟨_, he, fun v z => nomatch z⟩
    · rw [q]; exact t.obj
  keep := fun i h g st k => by
    obtain ⟨⟨old, he⟩, t⟩ := st
    exact ⟨⟨old, k _ (by simp) _ he⟩, t.at fun o q => k _ (by simp) o q⟩
  item := by
    intro X hP hw hK hc i pins s σ H E I hf st hg
    subst hP hw hK
    obtain ⟨⟨old, he⟩, t⟩ := st
    obtain ⟨xs, x, q1, e1⟩ := hg
    obtain ⟨its, rv, p⟩ := srcV I q1
    obtain ⟨u, hu, ru⟩ := rv.get e1
    have hl : i < its.toArray.size := by rw [List.size_toArray]; exact (List.getElem?_eq_some_iff.mp hu).1
    have hel : N + 1 < s.heap.objs.size := Heap.lt_size he
    have hne : (a : Nat) ≠ N := Nat.ne_of_lt h1
    have hef : N + 1 ∉ [N, a] := fun hm => by
      have e' : N + 1 = N ∨ N + 1 = a := by simpa using hm
      rcases e' with q | q
      · exact Nat.succ_ne_self _ q
      · exact absurd h1 (by rw [← q]; exact Nat.not_lt_of_le (Nat.le_succ N))
    refine wpAny_pyNext_enum_itemC (drB (A := X.A.in1) b (I.ok.hd hc) N a hne its.toArray) he (show ItB b s.heap N a i ∧ SqB b s.heap a its.toArray from ⟨t, p⟩) hl (Nat.succ_ne_self _) hef fun v g tk d ho st' hT hsz hk => ?_
    have d : u = v := by rw [List.getElem?_toArray, hu] at d; exact Option.some.inj d
    subst d
    refine ⟨_, rfl, wpAny_letOwnedTupleGo_enum (s := { s with heap := g, toks := tk + 1 }) ho fun g2 he' sb => ?_⟩
    have hT2 : g2.get? s.heap.objs.size = some { cls := .type "tuple", data := .seq #[.int (k0 + (i : Nat)) tk, u] } := (sb.2 _ (Nat.ne_of_gt hel)).trans hT
    have new : ObjOk X.prog X.w (upd H s.heap.objs.size (.frz (tupO #[.int (k0 + (i : Nat)) tk, u]) (.tup [.int (k0 + (i : Nat)), x]))) g2 s.heap.objs.size (.frz (tupO #[.int (k0 + (i : Nat)) tk, u]) (.tup [.int (k0 + (i : Nat)), x])) :=
      ⟨hT2, by show 2 ≤ sizeLine; decide, [.int (k0 + (i : Nat)) tk, u], .cons ⟨_, rfl⟩ (.cons ru .nil), ⟨_, hT2, rfl, _, rfl⟩⟩
    have I1 : Inv X pins σ (upd H s.heap.objs.size (.frz (tupO #[.int (k0 + (i : Nat)) tk, u]) (.tup [.int (k0 + (i : Nat)), x]))) { s with heap := g2, toks := tk + 1 } :=
      I.turnedNew (t' := tk + 1) (ch := [N + 1, N]) (fun c o hb q => (sb.2 c (fun z => hb (by simp [z]))).trans (hk c o (fun z => hb (by simp [z])) (fun z => hb (by simp [z])) q)) hf (Nat.le_refl _) new
    refine ⟨.ref s.heap.objs.size, _, I1, rfl, ⟨_, x, _, rfl, I.hok.fresh (Nat.le_refl _), rfl, rfl, fun l hl => by rw [SqV.inj I hl q1]; exact e1⟩, ⟨⟨u, ?_⟩, st'.1.at fun o q => (sb.2 N (Ne.symm (Nat.succ_ne_self _))).trans q⟩, fun c hcm => ?_⟩
    · have z : k0 + ((i + 1 : Nat) : Int) = k0 + (i : Int) + 1 := by omega
      rw [z]; exact he'
    · have hlt : c < s.heap.objs.size := by
        have e' : c = N + 1 ∨ c = N := by simpa using hcm
        rcases e' with q | q
        · rw [q]; exact hel
        · rw [q]; exact Nat.lt_of_succ_lt hel
      rw [upd_ne (Nat.ne_of_lt hlt)]
      exact (hf c hcm).1
  done := by
    intro X hP hw hK hc i pins s σ H E I hf st hg
    subst hP hw hK
    obtain ⟨⟨old, he⟩, t⟩ := st
    obtain ⟨xs, q1, hx⟩ := hg
    obtain ⟨its, rv, p⟩ := srcV I q1
    have z1 : its.toArray.size = xs.length := by rw [List.size_toArray]; exact rv.length.symm
    have hne : (a : Nat) ≠ N := Nat.ne_of_lt h1
    have st : ItB b s.heap N a its.toArray.size ∧ SqB b s.heap a its.toArray := ⟨by rw [z1, ← hx]; exact t, p⟩
    exact wpAny_pyNext_enum_endD (drB (A := X.A.in1) b (I.ok.hd hc) N a hne its.toArray) he st fun g hk => ⟨rfl, I.turnedL (t' := s.toks) (ch := [N + 1, N]) (fun c o hb q => hk c o (fun z => hb (by simp [z])) q) hf⟩
  self := fun A i s Q E st h => let ⟨⟨_, he⟩, _⟩ := st; wpAny_pyIter_enum he h
set_option maxHeartbeats 1000000 in
theorem meets_en {v : Value} {o : Obj} {H : Heap → Prop} (B : Begins v o H) :
    Meets (Builtin.«enumerate.__new__» ⟨[.type "enumerate", v], []⟩) (fun _ R s => H s.heap ∧
      R (.ok (.ret (.ref (s.heap.push o).objs.size))) { s with heap := (s.heap.push o).push { cls := .type "enumerate", data := .fields #[.none, .bool false, .ref s.heap.objs.size, rawInt 0, .none, .none] } }) :=
  .of_wp fun prog w A R s h => by
    obtain ⟨hp, g, d, tk, os⟩ := s
    obtain ⟨h1, h⟩ := h
    have hsub := sub_enumerate
    have q1 : ∀ {A' : Around} {E : Value → Shared → Prop} {Q : Value → Shared → Prop}, Q (.ref hp.objs.size) ⟨hp.push o, g, d, tk, os⟩ → wpAny (model prog w) A' (pyIter v) Q E ⟨hp, g, d, tk, os⟩ :=
      fun q => B.iter prog w _ _ ⟨hp, g, d, tk, os⟩ _ h1 q
    wp_walk using q1
    refine wpAny_stack_any fun st => wpAny_pure ?_
    split
    · rename_i c _ _ _ _ _
      cases (c == Value.type "enumerate")
      · wp_walk using q1
        exact ⟨_, rfl, h⟩
      · wp_walk using q1
        exact ⟨_, rfl, h⟩
    · wp_walk using q1
      exact ⟨_, rfl, h⟩
theorem en_begins {prog : Program} {w : World} {A : Around} {E : Value → Shared → Prop} {s : Shared} {v : Value} {o : Obj} {H : Heap → Prop} {Q : Value → Shared → Prop} (B : Begins v o H) (h1 : H s.heap)
    (h : ∀ h', IsEnum h' (s.heap.objs.size + 1) s.heap.objs.size 0 .none → h'.get? s.heap.objs.size = some o → h'.objs.size = s.heap.objs.size + 2 →
      (∀ b o, s.heap.get? b = some o → h'.get? b = some o) → Q (.ref (s.heap.objs.size + 1)) { s with heap := h' }) :
    wpAny (model prog w) A (call (.type "enumerate") [v]) Q E s := by
  refine callType_new F.called_enumerate (by decide) (F.typeCall_enumerate_1 _) (F.newCall_enumerate_1 _) (fun obj => F.args_object_init_2 obj _) F.entry_enumerate_new (meets_en B) ⟨h1, ?_⟩
  have hz : (s.heap.push o).objs.size = s.heap.objs.size + 1 := Heap.size_push ..
  show _ ∧ _
  rw [hz]
  have he : IsEnum ((s.heap.push o).push { cls := .type "enumerate", data := .fields #[.none, .bool false, .ref s.heap.objs.size, rawInt 0, .none, .none] }) (s.heap.objs.size + 1) s.heap.objs.size 0 .none := by
    have := Heap.get?_push_size (s.heap.push o) (o := { cls := .type "enumerate", data := .fields #[.none, .bool false, .ref s.heap.objs.size, rawInt 0, .none, .none] }) rfl
    rw [hz] at this
    exact this
  exact ⟨⟨_, he, rfl⟩, h _ he (Heap.get?_push_of_some _ (Heap.get?_push_size _ B.free)) (by rw [Heap.size_push, hz]) fun b o x => Heap.get?_push_of_some _ (Heap.get?_push_of_some _ x)⟩
section
variable {X : Cx} {pins : List (Addr × Obj)} {σ : L2.St} {tg : Expr} {R : It → Hp → Prop}
/-- enumerate(x) -/
def iEn1 (K : PySem.W.Frag) (ta : TA) : TI := fun σ H R => ta σ H fun vs H1 => ∃ b a xs, vs = [.ref a] ∧ SqV K b H1 a xs ∧ R (ItE K b a 0) H1
theorem pi_en1 {e : Expr} {ta : TA} {p pos tpos : Pos} {elts : List Expr} {kk : Nat} (hg : Gl X "enumerate") (hm : X.mg "enumerate" = none) (ha : PA X [e] ta) (hs : starEach [e] X.env = [(false, eval e X.env)] := by rfl) :
    PI X (.Tuple elts kk tpos) (.Call (.Name "enumerate" p) [e] [] pos) (iEn1 X.K ta) := by
  refine ⟨fun pins s σ H R I h => ?_⟩
  refine Call_ (ld_blt I hg hm boot_enumerate (PyProof.Rows.callWith_type1 (thn (ha.run pos pins s σ H _ I h) fun us s1 ⟨vs, H1, I1, r1, q1⟩ => ?_) hs rfl))
  obtain ⟨b, a, xs, ex, hq, q⟩ := q1
  subst ex
  cases r1 with
  | cons r rr =>
    cases rr
    cases r
    obtain ⟨its, rv, p'⟩ := srcV I1 hq
    refine en_begins (bgB b a its.toArray) p' fun h' he hit hsz hk => wpAny_pyIter_enum he ?_
    have I2 : Inv X pins σ H1 { s1 with heap := h' } := I1.kept (t' := s1.toks) hk
    refine ⟨s1.heap.objs.size + 1, [s1.heap.objs.size + 1, s1.heap.objs.size], _, _, H1, rfl, I2, turn_en (k0 := 0) p'.lt, ⟨⟨.none, he⟩, itB0 hit⟩, fun c hb => ?_, q⟩
    have hle : s1.heap.objs.size ≤ c := by
      have e' : c = s1.heap.objs.size + 1 ∨ c = s1.heap.objs.size := by simpa using hb
      rcases e' with z | z
      · rw [z]; exact Nat.le_add_right _ _
      · rw [z]; exact Nat.le_refl _
    exact I1.fpOk hle (I1.hok.fresh hle)
end
end U

set_option Elab.async false
set_option linter.all false
set_option maxRecDepth 100000
set_option maxHeartbeats 2000000
/-! I3: zip of two and of three, lists and tuples mixed (printed by zipgen.py). -/
namespace U
open PySem PySem.Spec PyProof.Rows L2
end U

set_option Elab.async false
set_option linter.all false
set_option maxRecDepth 100000
set_option maxHeartbeats 1000000
/-! U11: generator expressions by data; any, all, sum of lists; zip. -/
namespace U
open PySem PySem.Spec PyProof.Rows L2

/-! ### what is walked while the store stays as it is -/
def Itm0 (K : PySem.W.Frag) (T hid : List Addr) (J : It) (H0 : Hp) (M0 : Mu) (ds : List D) : Prop :=
  ∀ H, Sto K T hid H M0 → Ext hid H0 M0 H M0 →
    (∀ i, i < ds.length → J.go i H ∧ ∀ x H', J.yld i H x H' → ∃ d, ds[i]? = some d ∧ Sto K T hid H' M0 ∧ Ext hid H M0 H' M0 ∧ Rv K hid H' M0 x d) ∧ J.stop ds.length H
def ISim0 (K : PySem.W.Frag) (T : List Addr) (W : WX) (wi : TI) (fi : FI) : Prop :=
  ∀ hid σ H ρ M xw Q (R : It → Hp → Prop), REnv K hid H M σ ρ → Sto K T hid H M → WOk K T hid W σ H M xw → fi xw ρ M Q →
    (∀ J H' M' ds, Sto K T hid H' M' → Ext hid H M H' M' → Itm0 K T hid J H' M' ds → Q ds M' → R J H') → wi σ H R
def DI0 (X : Cx) (T : List Addr) (W : WX) (tg iter : Expr) (fi : FI) : Prop := ∃ wi, PI X tg iter wi ∧ ISim0 X.K T W wi fi
theorem Itm.zero {K : PySem.W.Frag} {T hid : List Addr} {J : It} {H0 : Hp} {M0 : Mu} {ds : List D} (h : Itm K T hid J H0 M0 ds) : Itm0 K T hid J H0 M0 ds := fun H s e => h hid H M0 s e.car
theorem DI.zero {X : Cx} {T : List Addr} {W : WX} {tg iter : Expr} {fi : FI} (h : DI X T W tg iter fi) : DI0 X T W tg iter fi :=
  let ⟨wi, p, s⟩ := h
  ⟨wi, p, fun hid σ H ρ M xw Q R r st w q k => s hid σ H ρ M xw Q R r st w q fun J H' M' ds s1 e1 im q1 => k J H' M' ds s1 e1 im.zero q1⟩
/-- a list (also one that is written elsewhere) or a tuple -/
def fSeqA (f : FE) : FI := fun xw ρ M Q => f xw ρ M fun d M1 => match seqOf M1 d with
  | some ds => Q ds M1
  | none => False
section
variable {X : Cx} {T : List Addr} {W : WX} {tg : Expr}
theorem di0_seq {e : Expr} {f : FE} (h : DE X T W e f) : DI0 X T W tg e (fSeqA f) := by
  obtain ⟨t, p, sa⟩ := h
  refine ⟨_, pi_lt p, fun hid σ H ρ M xw Q R r s w q k => ?_⟩
  refine sa hid σ H ρ M xw _ _ r s w q fun v H1 d M1 s1 e1 r1 q1 => ?_
  split at q1
  · rename_i ds e
    cases d with
    | tup es =>
      cases e
      cases r1 with
      | tup h1 h2 => exact ⟨_, rfl, .inr ⟨⟨_, h1⟩, k _ H1 M1 _ s1 e1 (itm_tup h1 h2).zero q1⟩⟩
    | lst es =>
      cases e
      cases r1 with
      | lst h1 h2 => exact ⟨_, rfl, .inl ⟨⟨_, h1.sq⟩, k _ H1 M1 _ s1 e1 (itm_list h1 h2).zero q1⟩⟩
    | loc a =>
      cases r1
      have e : (match M1 a with
        | some (.lst ds) => some ds
        | _ => none) = some ds := e
      have em : M1 a = some (.lst ds) := by
        cases q : M1 a with
        | none => rw [q] at e; cases e
        | some m =>
          rw [q] at e
          cases m with
          | lst es => cases e; rfl
          | _ => cases e
      obtain ⟨xs, h4, h5, _⟩ := s1.at em
      refine ⟨a, rfl, .inl ⟨⟨xs, SqL.of h4⟩, k _ H1 M1 ds s1 e1 (fun H2 s2 e2 => ?_) q1⟩⟩
      obtain ⟨xs, h4, h5, _⟩ := s2.at em
      have hl := h5.length
      refine ⟨fun i hi => ⟨⟨xs, xs[i]'(by omega), SqL.of h4, List.getElem?_eq_getElem (by omega)⟩, fun x H3 y => ?_⟩, ⟨xs, SqL.of h4, by omega⟩⟩
      obtain ⟨rfl, y⟩ := y
      obtain ⟨v, k1, k2⟩ := h5.get i (d := ds[i]) (List.getElem?_eq_getElem hi)
      rw [y xs (SqL.of h4)] at k1
      cases k1
      exact ⟨_, List.getElem?_eq_getElem hi, s2, Ext.refl _ _ _, k2⟩
    | _ => cases e
  · exact q1.elim
/-- a list that stays | a tuple -/
def FzV (K : PySem.W.Frag) (hid : List Addr) (H : Hp) (M : Mu) : Bool → Addr → List V → Prop
  | true, a, xs => FzL K hid H M a xs
  | false, a, xs => SqT K H a xs
theorem FzV.car {K : PySem.W.Frag} {hid hid' : List Addr} {H H' : Hp} {M M' : Mu} {b : Bool} {a : Addr} {xs : List V} (h : FzV K hid H M b a xs) (c : Car K hid H M hid' H' M') : SqV K b H' a xs := by
  cases b with
  | true => exact (c.fzL _ _ h).sq
  | false => exact c.sqT _ _ h
theorem FzV.sq {K : PySem.W.Frag} {hid : List Addr} {H : Hp} {M : Mu} {b : Bool} {a : Addr} {xs : List V} (h : FzV K hid H M b a xs) : SqV K b H a xs := by
  cases b with
  | true => exact FzL.sq h
  | false => exact h
/-- zip of two tuples | lists -/
def fZip (fa : FA) : FI := fun xw ρ M Q => fa xw ρ M fun ds M1 => match ds with
  | [.tup as, .tup bs] => Q ((as.zip bs).map fun p => .tup [p.1, p.2]) M1
  | [.lst as, .lst bs] => Q ((as.zip bs).map fun p => .tup [p.1, p.2]) M1
  | [.tup as, .lst bs] => Q ((as.zip bs).map fun p => .tup [p.1, p.2]) M1
  | [.lst as, .tup bs] => Q ((as.zip bs).map fun p => .tup [p.1, p.2]) M1
  | _ => False
/-- zip of three tuples | lists -/
def seqP : D → Option (List D)
  | .tup ds => some ds
  | .lst ds => some ds
  | _ => none
def fZip3 (fa : FA) : FI := fun xw ρ M Q => fa xw ρ M fun ds M1 => match ds with
  | [x, y, z] => (match seqP x, seqP y, seqP z with
    | some as, some bs, some cs => Q ((as.zip (bs.zip cs)).map fun p => .tup [p.1, p.2.1, p.2.2]) M1
    | _, _, _ => False)
  | _ => False
end

/-! ### any, all, sum of a list -/
def boolsD : List D → Option (List Bool)
  | [] => some []
  | .bl b :: ds => (boolsD ds).map (b :: ·)
  | _ => none
def intsD : List D → Option (List Int)
  | [] => some []
  | .int b :: ds => (intsD ds).map (b :: ·)
  | _ => none
theorem va (bs : List Bool) : boolsD (bs.map D.bl) = some bs := by
  induction bs with
  | nil => rfl
  | cons b bs ih => rw [List.map_cons]; unfold boolsD; rw [ih]; rfl
theorem vb (bs : List Int) : intsD (bs.map D.int) = some bs := by
  induction bs with
  | nil => rfl
  | cons b bs ih => rw [List.map_cons]; unfold intsD; rw [ih]; rfl
def gBoolsL (k : List Bool → Bool) : GC := fun ds M Q => match ds with
  | [d] => (match lstOf M d with
    | some es => (match boolsD es with
      | some bs => Q (.bl (k bs)) M
      | none => False)
    | none => False)
  | _ => False
abbrev gAnyL : GC := gBoolsL fun bs => bs.any id
abbrev gAllL : GC := gBoolsL fun bs => bs.all id
def gSumL : GC := fun ds M Q => match ds with
  | [d] => (match lstOf M d with
    | some es => (match intsD es with
      | some bs => Q (.int bs.sum) M
      | none => False)
    | none => False)
  | _ => False
section
variable {T : List Addr}
end

/-! ### generator expressions -/
/-- the items' outcomes -/
def GenO (b : BD) (fe : FE) (ρ : Env') (M : Mu) : List D → List Bool → Prop
  | [], [] => True
  | d :: ds, o :: os => (∃ ρ2, b d ρ = some ρ2 ∧ ∀ Q : D → Mu → Prop, Q (.bl o) M → fe xF ρ2 M Q) ∧ GenO b fe ρ M ds os
  | _, _ => False
theorem GenO.length {b : BD} {fe : FE} {ρ : Env'} {M : Mu} : ∀ {ds : List D} {os : List Bool}, GenO b fe ρ M ds os → os.length = ds.length
  | [], [], _ => rfl
  | d :: ds, o :: os, h => by rw [List.length_cons, List.length_cons, GenO.length h.2]
  | [], _ :: _, h => h.elim
  | _ :: _, [], h => h.elim
theorem GenO.get {b : BD} {fe : FE} {ρ : Env'} {M : Mu} : ∀ {ds : List D} {os : List Bool}, GenO b fe ρ M ds os → ∀ (i : Nat) {d : D} , ds[i]? = some d → ∃ ρ2, b d ρ = some ρ2 ∧ ∀ Q : D → Mu → Prop, Q (.bl (os.getD i false)) M → fe xF ρ2 M Q
  | d :: ds, o :: os, h, 0, e, he => by cases he; exact h.1
  | d :: ds, o :: os, h, i + 1, e, he => by
    have := GenO.get h.2 i (d := e) (by simpa using he)
    simpa using this
  | [], [], _, i, _, he => by cases he
  | [], _ :: _, h, _, _, _ => h.elim
  | _ :: _, [], h, _, _, _ => h.elim
theorem GenO.map {α : Type} {b : BD} {fe : FE} {ρ : Env'} {M : Mu} {enc : α → D} {f : α → Bool} : ∀ (xs : List α), (∀ x ∈ xs, ∃ ρ2, b (enc x) ρ = some ρ2 ∧ ∀ Q : D → Mu → Prop, Q (.bl (f x)) M → fe xF ρ2 M Q) → GenO b fe ρ M (xs.map enc) (xs.map f)
  | [], _ => trivial
  | x :: xs, h => ⟨h x List.mem_cons_self, GenO.map xs fun y hy => h y (List.mem_cons_of_mem _ hy)⟩
def fGen (k : List Bool → Bool) (fi : FI) (b : BD) (fe : FE) (vs : List Nat) : FE := fun xw ρ M Q => fi xw ρ M fun ds M1 => ∃ os, GenO b fe (wipeE ρ vs) M1 ds os ∧ Q (.bl (k os)) M1
abbrev fAnyG : FI → BD → FE → List Nat → FE := fGen fun os => os.any id
abbrev fAllG : FI → BD → FE → List Nat → FE := fGen fun os => os.all id
section
variable {K : PySem.W.Frag} {T hid : List Addr} {H H2 : Hp} {M : Mu}
theorem Ext.tabbed {P : Addr} (hP : GxR.TabG H P) (h : GxR.Tabbed P H H2) : Ext hid H M H2 M := by
  obtain ⟨ps, hP, _⟩ := hP
  have ne : ∀ b u, H b = some u → (∀ q, u ≠ .tbl q) → b ≠ P := fun b u e q z => by rw [z, hP] at e; cases e; exact q ps rfl
  refine ⟨fun a xs e => by rw [h.2 a (ne a _ e (fun q z => nomatch z))]; exact e, fun a o u e => by rw [h.2 a (ne a _ e (fun q z => nomatch z))]; exact e, fun a xs e z _ => ⟨by rw [h.2 a (ne a _ e (fun q z => nomatch z))]; exact e, z⟩, fun a ha xs e => by rw [h.2 a (ne a _ e xs.2)]; exact e, fun a e => ?_, fun a q q' => absurd q q'⟩
  by_cases q : a = P
  · obtain ⟨ps', e2, _⟩ := h.1
    rw [q, e2]; exact fun z => nomatch z
  · rw [h.2 a q]; exact e
theorem MOk.tabbed {P : Addr} (hP : GxR.TabG H P) (h : GxR.Tabbed P H H2) {a : Addr} {m : MO} (k : MOk K hid H M a m) : MOk K hid H2 M a m := by
  have e : Ext hid H M H2 M := Ext.tabbed hP h
  refine k.ext e (h.2 a ?_)
  obtain ⟨ps, hP, _⟩ := hP
  rintro rfl
  cases m with
  | lst ds => obtain ⟨xs, h1, _⟩ := k; rw [hP] at h1; cases h1
  | dct kvs => obtain ⟨xs, h1, _⟩ := k; rw [hP] at h1; cases h1
  | ins C fs => obtain ⟨dx, fvs, h1, _⟩ := k; rw [hP] at h1; cases h1
theorem Sto.tabS {P : Addr} (s : Sto K T hid H M) (hT : P ∈ T) : TabS T H P := ⟨s.tab P hT, fun Q hQ => (s.tab Q hQ).ne⟩
theorem Ext.tabd {P : Addr} (hP : TabS T H P) (h : Tabd T P H H2) : Ext hid H M H2 M := by
  obtain ⟨⟨ps, hP, _⟩, _⟩ := hP
  have ne : ∀ b u, H b = some u → (∀ q, u ≠ .tbl q) → b ≠ P := fun b u e q z => by rw [z, hP] at e; cases e; exact q ps rfl
  have at_ : ∀ b u, H b = some u → (∀ q, u ≠ .tbl q) → H2 b = some u := fun b u e q => by rw [h.2 b (ne b u e q) (by rw [e]; exact fun z => nomatch z)]; exact e
  refine ⟨fun a xs e => at_ a _ e (fun q z => nomatch z), fun a o u e => at_ a _ e (fun q z => nomatch z), fun a xs e z _ => ⟨at_ a _ e (fun q z => nomatch z), z⟩, fun a ha xs e => at_ a _ e xs.2, fun a e => ?_, fun a q q' => absurd q q'⟩
  by_cases q : a = P
  · rw [q]; exact h.1.ne
  · rw [h.2 a q e]; exact e
theorem Sto.tabd {P : Addr} (s : Sto K T hid H M) (hT : P ∈ T) (h : Tabd T P H H2) : Sto K T hid H2 M := by
  have hS := s.tabS hT
  have ex : Ext hid H M H2 M := Ext.tabd hS h
  obtain ⟨ps, hP, _⟩ := hS.1
  refine ⟨fun a m q => ?_, fun Q hQ => ?_, fun a ha => ⟨(s.hidn a ha).1, ex.dom a (s.hidn a ha).2⟩⟩
  · have k := s.mem a m q
    have nn : H a ≠ none ∧ a ≠ P := by
      cases m with
      | lst ds => obtain ⟨xs, h1, _⟩ := k; exact ⟨by rw [h1]; exact (fun z => nomatch z), by rintro rfl; rw [hP] at h1; cases h1⟩
      | dct kvs => obtain ⟨xs, h1, _⟩ := k; exact ⟨by rw [h1]; exact (fun z => nomatch z), by rintro rfl; rw [hP] at h1; cases h1⟩
      | ins C fs => obtain ⟨dx, fvs, h1, _⟩ := k; exact ⟨by rw [h1]; exact (fun z => nomatch z), by rintro rfl; rw [hP] at h1; cases h1⟩
    exact k.ext ex (h.2 a nn.2 nn.1)
  · by_cases e : Q = P
    · rw [e]; exact h.1
    · obtain ⟨ps2, h1, h2, h3⟩ := s.tab Q hQ
      refine ⟨ps2, by rw [h.2 Q e (by rw [h1]; exact fun z => nomatch z)]; exact h1, h2, fun pos cv q => ?_⟩
      obtain ⟨c, o, P', e1, e2, e3, e4, qs, e5, e6⟩ := h3 pos cv q
      exact ⟨c, o, P', e1, ex.frz _ _ _ e2, e3, e4, qs, by rw [h.2 P' (by rintro rfl; exact e4 hT) (by rw [e5]; exact fun z => nomatch z)]; exact e5, e6⟩
/-- .. where the table is one of a code object made at run time -/
theorem Sto.tabbed {P' : Addr} (s : Sto K T hid H M) (hT : P' ∉ T) (hP : GxR.TabG H P') (h : GxR.Tabbed P' H H2) : Sto K T hid H2 M := by
  have ex : Ext hid H M H2 M := Ext.tabbed hP h
  refine ⟨fun a m q => (s.mem a m q).tabbed hP h, fun Q hQ => ?_, fun a ha => ⟨(s.hidn a ha).1, ex.dom a (s.hidn a ha).2⟩⟩
  obtain ⟨ps2, h1, h2, h3⟩ := s.tab Q hQ
  refine ⟨ps2, by rw [h.2 Q (by rintro rfl; exact hT hQ)]; exact h1, h2, fun pos cv q => ?_⟩
  obtain ⟨c, o, P2, e1, e2, e3, e4, qs, e5, e6⟩ := h3 pos cv q
  refine ⟨c, o, P2, e1, ex.frz _ _ _ e2, e3, e4, ?_⟩
  by_cases z : P2 = P'
  · rw [z]; exact h.1
  · exact ⟨qs, by rw [h.2 P2 z]; exact e5, e6⟩
end
/-- the running code's table is known -/
def Cod (X : Cx) (T : List Addr) : Prop := ∃ c P, X.env.code = .ref c ∧ GxR.TabB X.base X.mg c P ∧ P ∈ T
section
variable {X : Cx} {T : List Addr} {W : WX} {elt tg iter : Expr} {scope : Scope} {gpos : Pos} {own : List (Str × Nat)} {wi : TI} {fi : FI} {b : BD} {fe : FE}
theorem gen_sim {K : PySem.W.Frag} {P : Addr} {vs : List Nat} {k : List Bool → Bool} {fin : Nat → (Nat → V) → (V → Prop) → Prop} (hT : P ∈ T) (si : ISim0 K T W wi fi) (hfin : ∀ (os : List Bool) (kk : V → Prop), kk (.bl (k os)) → fin os.length (fun i => .bl (os.getD i false)) kk) :
    ESim K T W (tGen T P wi (canG K T b vs) (canE K T WF fe) vs fin) (fGen k fi b fe vs) := by
  intro hid σ H ρ M xw Q Qv r s w q p
  refine si hid σ H ρ M xw _ _ r s w q fun J H1 M1 ds s1 e1 im q1 => ?_
  obtain ⟨os, go, q2⟩ := q1
  have hl := go.length
  refine ⟨s1.tabS hT, fun H2 htab => ?_⟩
  have s2 := s1.tabd hT htab
  have e2 : Ext hid H1 M1 H2 M1 := Ext.tabd (s1.tabS hT) htab
  refine ⟨os.length, fun i H => Sto K T hid H M1 ∧ Ext hid H2 M1 H M1, fun i => .bl (os.getD i false), ⟨s2, Ext.refl _ _ _⟩, ⟨fun i H hi ⟨s3, e3⟩ => ?_, fun H ⟨s3, e3⟩ => ?_⟩, hfin os _ fun i H hi ⟨s3, e3⟩ => ?_⟩
  · obtain ⟨im1, _⟩ := im H s3 (e2.trans e3)
    obtain ⟨jg, jy⟩ := im1 i (by omega)
    refine ⟨jg, fun x H' hy => ?_⟩
    obtain ⟨d, hd, s4, e4, r4⟩ := jy x H' hy
    obtain ⟨ρ2, hb, hf⟩ := go.get i hd
    have rw_ : REnv K hid H' M1 (wipe σ vs) (wipeE ρ vs) := REnv.wipe (r.ext ((e1.trans e2).trans (e3.trans e4))) vs
    refine ⟨hid, M1, wipeE ρ vs, d, ρ2, rw_, s4, r4, hb, fun σ' r' hw => ⟨by rw [wipe_wipe] at hw; exact hw, ?_⟩⟩
    refine ⟨hid, ρ2, M1, xF, fun y M' => y = .bl (os.getD i false) ∧ M' = M1, r', s4, wok_F, hf _ ⟨rfl, rfl⟩, fun v H5 y M5 s5 e5 r5 q5 => ?_⟩
    obtain ⟨rfl, rfl⟩ := q5
    cases r5
    exact ⟨rfl, s5, e3.trans (e4.trans e5)⟩
  · rw [hl]
    exact (im H s3 (e2.trans e3)).2
  · exact p _ H _ M1 s3 ((e1.trans e2).trans e3) (.bl _) q2
theorem all_getD (os : List Bool) : (List.range os.length).all (fun i => os.getD i false) = os.all id := by
  rw [Bool.eq_iff_iff, List.all_eq_true, List.all_eq_true]
  constructor
  · intro h x hx
    obtain ⟨i, hi, e⟩ := List.getElem_of_mem hx
    have := h i (List.mem_range.mpr hi)
    rw [List.getD_eq_getElem?_getD, List.getElem?_eq_getElem hi, e] at this
    exact this
  · intro h i hi
    have hi := List.mem_range.mp hi
    rw [List.getD_eq_getElem?_getD, List.getElem?_eq_getElem hi]
    exact h _ (List.getElem_mem hi)
end
def genC (N : List Str) (sc scope : Scope) (own : List (Str × Nat)) : Bool := blkC N sc scope own && (scope.names.lookup (".0" : Str) == some .local) && !scope.isCoroutine
theorem genOk_by {N : List Str} {sc scope : Scope} {own : List (Str × Nat)} (h : genC N sc scope own = true) : GenOk N sc scope own := by
  unfold genC at h
  simp only [Bool.and_eq_true, Bool.not_eq_true', beq_iff_eq] at h
  exact ⟨blkOk_by h.1.1, h.1.2, h.2⟩
section
variable {P : Program} {w : World} {K : PySem.W.Frag} {mg : Str → Option Value} {base : Heap} {N ps : List Str} {sc : Scope} {fn : Str → Bool} {k : Nat} {W : WX} {X : Cx} {T : List Addr}
theorem Std.gen (g : Std P w K mg base N sc fn (k + 1) W X) {e : Expr} {elt : Expr} {gs : List Comprehension} {scope : Scope} {gpos : Pos} (he : e = .GeneratorExp elt gs scope gpos) (it : Addr) (s : Shared) (H : Hp) (C : Addr) (code : Value) (fp : List Addr) :
    Std P w K mg base N scope (fun x => scope.names.lookup x == some .cell) k WF (gCx X (gA X e it (gEnv X scope C code)) s H (gEnv X scope C code) fp) :=
  ⟨g.eP, g.ew, g.eK, g.em, g.eb, g.eN, g.nd, rfl, fun _ h => h, g.calm, takes0, PassesOwn.never, gA_room he g.room⟩
variable {elt tg iter : Expr} {scope : Scope} {gpos p pos : Pos} {fi : FI} {b : BD} {fe : FE}
theorem n_allG (g : Std P w K mg base N sc fn (k + 1) W X) (F : Fr mg) (c : Cod X T) (own : List (Str × Nat)) (hi : DI0 X T W tg iter fi) (ok : genC N sc scope own = true)
    (h : ∀ X', Std P w K mg base N scope (fun x => scope.names.lookup x == some .cell) k WF X' → DG X' T tg b (own.map (·.2)) ∧ DE X' T WF elt fe)
    (hg : sc.names.lookup ("all" : Str) = some .globalImplicit := by rfl) (hs : ∀ v, genFold iter X.env v = pure v := by intro _; rfl)
    (hst : starEach [gE elt tg iter scope gpos] X.env = (false, eval (gE elt tg iter scope gpos) X.env) :: starEach [] X.env := by rfl) :
    DE X T W (.Call (.Name "all" p) [.GeneratorExp elt [⟨tg, iter, [], 0⟩] scope gpos] [] pos) (fAllG fi b fe (own.map (·.2))) := by
  obtain ⟨c, P', hc, hB, hT⟩ := c
  obtain ⟨wi, pi, si⟩ := hi
  refine ⟨_, pe_allG (g := canG X.K T b (own.map (·.2))) (te := canE X.K T WF fe) g.room g.calm (by rw [g.eN]; exact g.nd) (g.gl hg) (g.none F.all) boot_all hB hT hc (by rw [g.eN, g.es]; exact genOk_by ok) pi (fun it s H C code fp => (h _ (g.gen rfl it s H C code fp)).1.can) (fun it s H C code fp _ => (h _ (g.gen rfl it s H C code fp)).2.can) hs hst, gen_sim hT si fun os kk hk => ⟨_, rfl, by rw [all_getD]; exact hk⟩⟩
/-! lists -/
variable {e e2 : Expr} {fs : FA}
/-- a def whose code's table is known -/
theorem fn_okFC {x qual : Str} {params : Arguments} {body : List Stmt} {f : Addr} {fd : FuncData} {S : FSpec} {fs : FS} {c P' : Addr} (F : FunD K x qual params body sc [] [] f fd) (sco : FnScope N ps sc) (hcode : fd.code = .ref c) (hB : GxR.TabB base mg c P') (hT : P' ∈ T)
    (har : ∀ ds M Q xw, S ds M Q xw → ds.length = ps.length)
    (hd : ∀ X W, Std P w K mg base N sc (fun _ => true) k W X → Cod X T → DSs X T W body fs)
    (hs : ∀ ds M Q xw, S ds M Q xw → zh N fs ds M Q xw) : FnOk P w K mg base (L2.CX P w) (k + 1) f fd ps (spOf K T S) := by
  obtain ⟨oc, od, dV, kV, doc, pm, an, cdv, ct, osl, rfl, lk, hcd, _, _⟩ := F.ex
  have hcv : cdv = .ref c := hcode
  refine fn_of lk hcd sco (fun vs H Q E h => ?_) fun A outer s H vs Q E hr h => ?_
  · obtain ⟨hid, ds, M, Qd, xw, s, r, q, _⟩ := h
    rw [r.length]
    exact har ds M Qd xw q
  · obtain ⟨hid, ds, M, Qd, xw, st, r, q, po, px⟩ := h
    have hl : vs.length = ds.length := r.length
    have g : Std P w K mg base N sc (fun _ => true) k (fun cls d _ H' => E cls d H') (cxOf (L2.CX P w) P w K mg base N qual sc f cdv A outer s H E) :=
      ⟨rfl, rfl, rfl, rfl, rfl, rfl, sco.nd, rfl, fun _ _ => rfl, rfl, takes_of rfl rfl rfl rfl, passes_of rfl, hr⟩
    obtain ⟨t, p, sim⟩ := hd _ _ g ⟨c, P', hcv, hB, hT⟩
    refine ⟨t, p, sim hid _ H (zi N ds) M { nx := fun _ M' => Qd .non (mres M' M), rt := fun d M' => Qd d (mres M' M), xw := fun xd _ M' => xw xd (mres M' M) } _ ⟨?_, fun i d hi => ?_⟩ st (fun cls dd σ' H' ρ' M' xd r' s' e' x' q' => ?_) (hs ds M Qd xw q) ⟨?_, ?_, fun _ _ _ _ _ _ _ z => z, fun _ _ _ _ _ _ _ z => z⟩⟩
    · unfold zi L2.start
      rw [List.length_append, List.length_append, List.length_map, List.length_map, List.length_replicate, List.length_replicate, hl]
    · unfold zi at hi
      have hi' : i < ds.length := by
        by_cases h : i < ds.length
        · exact h
        · rw [List.getElem?_append_right (by simpa using h), List.getElem?_replicate] at hi
          split at hi <;> cases hi
      rw [List.getElem?_append_left (by simpa using hi'), List.getElem?_map] at hi
      have hd' : ds[i]? = some d := by
        cases e : ds[i]? with
        | none => rw [e] at hi; cases hi
        | some a => rw [e] at hi; cases hi; rfl
      obtain ⟨v, h1, h2⟩ := r.get i hd'
      refine ⟨v, ?_, h2⟩
      unfold L2.start
      rw [List.getElem?_append_left (by rw [List.length_map]; omega), List.getElem?_map, h1]
      rfl
    · exact px cls dd H' (mres M' M) xd s'.res (e'.trans Ext.res) (x'.ext Ext.res rfl) q'
    · intro σ' H' ρ' M' r' s' e' q'
      exact po _ H' _ (mres M' M) s'.res (e'.trans Ext.res) .non q'
    · intro v H' d M' s' e' r' q'
      exact po v H' d (mres M' M) s'.res (e'.trans Ext.res) ((Ext.res (M := M)).rv _ _ r') q'
theorem fn_okC {x qual : Str} {params : Arguments} {body : List Stmt} {f : Addr} {fd : FuncData} {S : FSpec} {fs : FS} {c P' : Addr} {nm : Str} (F : FunD K x qual params body sc [] [] f fd) (hm : mg nm = some (.ref f)) (sco : FnScope N ps sc) (hb : Binds K fd ps []) (hcode : fd.code = .ref c) (hB : GxR.TabB base mg c P') (hT : P' ∈ T)
    (har : ∀ ds M Q xw, S ds M Q xw → ds.length = ps.length)
    (hd : ∀ X W, Std P w K mg base N sc (fun _ => true) k W X → Cod X T → DSs X T W body fs)
    (hs : ∀ ds M Q xw, S ds M Q xw → zh N fs ds M Q xw) : Fn P w K mg base T (k + 1) nm S := ⟨f, fd, ps, hm, F.kp, hb, fn_okFC F sco hcode hB hT har hd hs⟩
theorem tab_of {mg : Str → Option Value} {base : Heap} {c P : Addr} (h : LamX.TabB base mg c P) : GxR.TabB base mg c P := ⟨h.code, h.bm, h.gP⟩
theorem code_at {x qual : Str} {params : Arguments} {body : List Stmt} {fd : FuncData} {dvs : List V} {kws : List (Str × V)} {p : Str × Option Str} (F : FunD K x qual params body sc dvs kws (He.fAd K p) fd) : fd.code = .ref (He.cT K p).1 := by
  obtain ⟨oc, od, dV, kV, doc, pm, an, cdv, ct, osl, rfl, lk, hcd, _, _⟩ := F.ex
  obtain ⟨c, e⟩ := He.codeIn_ref hcd
  have e2 := He.codeOf_eq lk (show (PySem.W.fnOf x qual params body sc dV kV doc pm an cdv ct).code = .ref c from e)
  show cdv = .ref (He.codeOf K p)
  rw [e2]; exact e
end
end U

set_option Elab.async false
set_option linter.all false
set_option maxRecDepth 100000
set_option maxHeartbeats 2000000
/-! U12: enumerate. -/
namespace U
open PySem PySem.Spec PyProof.Rows L2
def enD : Int → List D → List D
  | _, [] => []
  | k, d :: ds => .tup [.int k, d] :: enD (k + 1) ds
theorem enD_len : ∀ (k : Int) (ds : List D), (enD k ds).length = ds.length
  | _, [] => rfl
  | k, d :: ds => by simp [enD, enD_len (k + 1) ds]
theorem enD_get : ∀ (k : Int) (ds : List D) (i : Nat), (enD k ds)[i]? = ds[i]?.map fun d => .tup [.int (k + (i : Nat)), d]
  | _, [], i => by simp [enD]
  | k, d :: ds, 0 => by simp [enD]
  | k, d :: ds, i + 1 => by
    have e : k + 1 + (i : Int) = k + ((i + 1 : Nat) : Int) := by omega
    rw [enD, List.getElem?_cons_succ, List.getElem?_cons_succ, enD_get (k + 1) ds i, e]
/-- enumerate(x), x a tuple | a list -/
def fEn1 (fa : FA) : FI := fun xw ρ M Q => fa xw ρ M fun ds M1 => match ds with
  | [.tup as] => Q (enD 0 as) M1
  | [.lst as] => Q (enD 0 as) M1
  | _ => False
def fEn2 (fa : FA) : FI := fun xw ρ M Q => fa xw ρ M fun ds M1 => match ds with
  | [.tup as, .int k] => (-(2 ^ 63) ≤ k ∧ k < 2 ^ 63) ∧ Q (enD k as) M1
  | [.lst as, .int k] => (-(2 ^ 63) ≤ k ∧ k < 2 ^ 63) ∧ Q (enD k as) M1
  | _ => False
section
variable {X : Cx} {T : List Addr} {W : WX}
theorem itm_en {K : PySem.W.Frag} {hid : List Addr} {H : Hp} {M : Mu} {b : Bool} {a : Addr} {xs : List V} {as : List D} {k : Int} (h1 : FzV K hid H M b a xs) (r1 : Rvs K hid H M xs as) :
    Itm K T hid (ItE K b a k) H M (enD k as) := by
  intro hid' H' M' s c
  have h1' := h1.car c
  have r1' := c.rvs _ _ r1
  have l1 := r1.length
  have hl := enD_len k as
  refine ⟨fun i hi => ?_, ⟨xs, h1', by rw [hl, l1]⟩⟩
  have hi1 : i < as.length := by omega
  refine ⟨⟨xs, xs[i]'(by omega), h1', List.getElem?_eq_getElem (by omega)⟩, fun v H2 y => ?_⟩
  obtain ⟨t, x, o, rfl, hT, hd, rfl, f1⟩ := y
  obtain ⟨v1, e1, q1⟩ := r1'.get i (d := as[i]) (List.getElem?_eq_getElem hi1)
  rw [f1 xs h1'] at e1
  cases e1
  have e := Ext.new (o := .frz o (.tup [.int (k + (i : Nat)), x])) s hT
  refine ⟨.tup [.int (k + (i : Nat)), as[i]], by rw [enD_get, List.getElem?_eq_getElem hi1]; rfl, s.new hT, e, .tup (.inl (.inr ⟨o, upd_same⟩)) (.cons (.int _) (.cons (e.rv _ _ q1) .nil)) ⟨o, _, upd_same, hd⟩⟩
theorem di_en1 {e : Expr} {fa : FA} {p pos tpos : Pos} {elts : List Expr} {kk : Nat} (hg : Gl X "enumerate") (hm : X.mg "enumerate" = none) (ha : DA X T W [e] fa) (hs : starEach [e] X.env = [(false, eval e X.env)]) :
    DI X T W (.Tuple elts kk tpos) (.Call (.Name "enumerate" p) [e] [] pos) (fEn1 fa) := by
  obtain ⟨t, pa, sa⟩ := ha
  refine ⟨_, pi_en1 hg hm pa hs, fun hid σ H ρ M xw Q R r s w q k => ?_⟩
  refine sa hid σ H ρ M xw _ _ r s w q fun vs H1 ds M1 s1 e1 r1 q1 => ?_
  split at q1
  · cases r1 with
    | cons h r =>
      cases r
      cases h with
      | tup h1 k1 => exact ⟨false, _, _, rfl, h1, k _ H1 M1 _ s1 e1 (itm_en (b := false) h1 k1) q1⟩
  · cases r1 with
    | cons h r =>
      cases r
      cases h with
      | lst h1 k1 => exact ⟨true, _, _, rfl, h1.sq, k _ H1 M1 _ s1 e1 (itm_en (b := true) h1 k1) q1⟩
  · exact q1.elim
end
/-! ### isinstance(x, tuple), isinstance(x, list) -/
def tyN : D → Option String
  | .non => some "NoneType"
  | .bl _ => some "bool"
  | .int _ => some "int"
  | .str _ => some "str"
  | .tup _ => some "tuple"
  | .lst _ => some "list"
  | _ => none
def gIsC (n : String) : GC := fun ds M Q => match ds with
  | [x, .ty m] => m = n ∧ (match tyN x with
    | some t => Q (.bl (decide (t = n))) M
    | none => False)
  | _ => False
section
variable {P : Program} {w : World} {K : PySem.W.Frag} {mg : Str → Option Value} {base : Heap} {N : List Str} {sc : Scope} {fn : Str → Bool} {k : Nat} {W : WX} {X : Cx} {T : List Addr} {e e2 : Expr} {fs : FA} {p pos : Pos}
theorem i_en1 (g : Std P w K mg base N sc fn k W X) (F : Fr mg) {tpos : Pos} {elts : List Expr} {kk : Nat} (ha : DA X T W [e] fs) (hg : sc.names.lookup ("enumerate" : Str) = some .globalImplicit := by rfl)
    (hs : starEach [e] X.env = [(false, eval e X.env)] := by rfl) : DI X T W (.Tuple elts kk tpos) (.Call (.Name "enumerate" p) [e] [] pos) (fEn1 fs) :=
  di_en1 (g.gl hg) (g.none F.enumerate) ha hs
end
end U

set_option Elab.async false
set_option linter.all false
set_option maxRecDepth 100000
set_option maxHeartbeats 2000000
/-! I4: t.index(i), t a tuple of ints. -/
namespace U
open PySem PySem.Spec PyProof.Rows L2
end U

set_option Elab.async false
set_option linter.all false
set_option maxRecDepth 100000
set_option maxHeartbeats 1000000
/-! U13: t.index(x); o[i] += e. -/
namespace U
open PySem PySem.Spec PyProof.Rows L2
def idxI : List Int → Int → Option Nat
  | [], _ => none
  | x :: xs, z => if x = z then some 0 else (idxI xs z).map (· + 1)
/-- t.index(e), t a tuple of ints -/
def fTIdx (fo : FE) (fa : FA) : FE := fun xw ρ M Q => fo xw ρ M fun o M1 => (match o with
  | .tup es => (match intsD es with
    | some ns => fa xw ρ M1 fun ds M2 => (match ds with
      | [.int z] => (match idxI ns z with
        | some j => Q (.int (j : Nat)) M2
        | none => False)
      | _ => False)
    | none => False)
  | _ => False)
section
variable {X : Cx} {T : List Addr} {W : WX}
/-- o[i] += e: a list that is written, ints -/
def fAugIx (fo fi fe : FE) : FS := fun E ρ M => fo (xwAt E ρ) ρ M fun o M1 => fi (xwAt E ρ) ρ M1 fun i M2 => (match o, i with
  | .loc a, .int z => (match M2 a with
    | some (.lst ds) => 0 ≤ z ∧ (match ds[z.toNat]? with
      | some (.int x) => fe (xwAt E ρ) ρ M2 fun y M3 => (match y, M3 a with
        | .int y, some (.lst es) => z < es.length ∧ E.nx ρ (mset M3 a (.lst (es.set z.toNat (.int (x + y)))))
        | _, _ => False)
      | _ => False)
    | _ => False)
  | _, _ => False)
end
section
variable {P : Program} {w : World} {K : PySem.W.Frag} {mg : Str → Option Value} {base : Heap} {N : List Str} {sc : Scope} {fn : Str → Bool} {k : Nat} {W : WX} {X : Cx} {T : List Addr}
end
end U

set_option Elab.async false
set_option linter.all false
set_option maxRecDepth 100000
set_option maxHeartbeats 1000000
/-! U16: a, b = x, y by the scope alone. -/
namespace U
open PySem PySem.Spec PyProof.Rows L2
section
variable {P : Program} {w : World} {K : PySem.W.Frag} {mg : Str → Option Value} {base : Heap} {N ps : List Str} {sc : Scope} {fn : Str → Bool} {k : Nat} {W : WX} {X : Cx} {T : List Addr} {e : Expr}
end
end U

set_option Elab.async false
set_option linter.all false
set_option maxRecDepth 100000
set_option maxHeartbeats 2000000
/-! U17: ranges and reversed rows as values. -/
namespace U
open PySem PySem.Spec PyProof.Rows L2
/-! ### list(reversed(x)) of a list -/
section
variable {prog : Program} {w : World} {A : Around} {E : Value → Shared → Prop} {s : Shared}
end
section
variable {X : Cx}
/-! ### range(..) as an argument -/
abbrev FRg := XW → Env' → Mu → (Int → Int → Mu → Prop) → Prop
def fRgA (f : FE) : FRg := fun xw ρ M Q => f xw ρ M fun d M1 => match d with
  | .int j => Q 0 j M1
  | _ => False
def fRgB (f g : FE) : FRg := fun xw ρ M Q => f xw ρ M fun x M1 => g xw ρ M1 fun y M2 => match x, y with
  | .int i, .int j => Q i j M2
  | _, _ => False
variable {T : List Addr} {W : WX}
def fLstRg (f : FRg) : FL := fun xw ρ M Q => f xw ρ M fun a b M1 => RgOk a b ∧ Q (rngD a (b - a).toNat) M1
def fTupRg (f : FRg) : FE := fun xw ρ M Q => f xw ρ M fun a b M1 => RgOk a b ∧ Q (.tup (rngD a (b - a).toNat)) M1
/-! ### reversed(x) -/
def fLstRev (f : FE) : FL := fun xw ρ M Q => f xw ρ M fun d M1 => match lstOf M1 d with
  | some es => Q es.reverse M1
  | none => False
def fRev (f : FE) : FI := fun xw ρ M Q => f xw ρ M fun d M1 => match d with
  | .tup ds => Q ds.reverse M1
  | .lst ds => Q ds.reverse M1
  | _ => False
end
section
variable {P : Program} {w : World} {K : PySem.W.Frag} {mg : Str → Option Value} {base : Heap} {N ps : List Str} {sc : Scope} {fn : Str → Bool} {k : Nat} {W : WX} {X : Cx} {T : List Addr} {e e2 : Expr}
end
end U

set_option Elab.async false
set_option linter.all false
set_option maxRecDepth 100000
set_option maxHeartbeats 1000000
/-! U19: list comprehensions of two clauses. -/
namespace U
open PySem PySem.Spec PyProof.Rows L2
def lc2Go (b : BD) (ft : FT) (fi1 : FI) (b1 : BD) (ft1 : FT) (fe : FE) (vs1 : List Nat) (ρ : Env') : List D → List D → Mu → (List D → Mu → Prop) → Prop
  | [], acc, M, Q => Q acc M
  | d :: ds, acc, M, Q => match b d ρ with
    | some ρ2 => ft xF ρ2 M fun c M1 => if c = true then fi1 xF ρ2 M1 fun es M2 => lcGo b1 ft1 fe (wipeE ρ2 vs1) es acc M2 fun acc2 M3 => lc2Go b ft fi1 b1 ft1 fe vs1 ρ ds acc2 M3 Q
        else lc2Go b ft fi1 b1 ft1 fe vs1 ρ ds acc M1 Q
    | none => False
def fLc2 (fi : FI) (b : BD) (ft : FT) (fi1 : FI) (b1 : BD) (ft1 : FT) (fe : FE) (vs vs1 : List Nat) : FL := fun xw ρ M Q => fi xw ρ M fun ds M1 => lc2Go b ft fi1 b1 ft1 fe vs1 (wipeE ρ vs) ds [] M1 Q
def canI (K : PySem.W.Frag) (T : List Addr) (W : WX) (fi : FI) : TI := fun σ H R => ∃ hid ρ M xw, ∃ Q : List D → Mu → Prop, REnv K hid H M σ ρ ∧ Sto K T hid H M ∧ WOk K T hid W σ H M xw ∧ fi xw ρ M Q ∧ ∀ J H' M' ds, Sto K T hid H' M' → Ext hid H M H' M' → Itm K T hid J H' M' ds → Q ds M' → R J H'
theorem DI.can {X : Cx} {T : List Addr} {W : WX} {tg iter : Expr} {fi : FI} (h : DI X T W tg iter fi) : PI X tg iter (canI X.K T W fi) := by
  obtain ⟨wi, p, si⟩ := h
  exact ⟨fun pins s σ H R I q => p.run pins s σ H R I (let ⟨hid, ρ, M, xw, Q, a, b, c, d, e⟩ := q; si hid σ H ρ M xw Q R a b c d e)⟩
section
variable {X : Cx} {T : List Addr} {W : WX}
end
section
variable {P : Program} {w : World} {K : PySem.W.Frag} {mg : Str → Option Value} {base : Heap} {N : List Str} {sc : Scope} {fn : Str → Bool} {k : Nat} {W : WX} {X : Cx} {T : List Addr} {pos : Pos}
end
end U

set_option Elab.async false
set_option linter.all false
set_option maxRecDepth 100000
set_option maxHeartbeats 4000000
/-! G7: sum of a generator expression. -/
namespace U
open PySem PySem.Spec PyProof.Rows L2
namespace GPlan
variable {p : GPlan}
/-- the consumer writes its own object -/
theorem Rdy.own (ok : p.Ok) {S : Addr} (hS : p.S = some S) (hb : p.X.s_0.heap.objs.size ≤ S) (ha : p.a ≠ S) {j : Nat} {s : Shared} (h : p.Rdy j s) {h' : Heap} {o' : Obj} {t' : Nat}
    (k : ∀ b o, b ≠ S → s.heap.get? b = some o → h'.get? b = some o) (ho : h'.get? S = some o') (nc : ∀ v, o'.data ≠ .cell v) : p.Rdy j { s with heap := h', toks := t' } := by
  obtain ⟨⟨H', q, o, I, t, n, w⟩, g, gs⟩ := h
  unfold Own at o
  rw [hS] at o
  obtain ⟨o0, rfl, e0⟩ := o
  obtain ⟨_, b1, b2, b3, b4⟩ := I.pin (S, o0) (List.mem_append_right _ (List.mem_append_right _ List.mem_cons_self))
  have I0 : Inv p.X p.p0 (wipe p.σ p.vs) H' s := I.unpinned
  have np : ∀ r ∈ p.X.pn ++ p.p0, r.1 ≠ S := fun r hr => by
    rw [ok.pn, List.nil_append] at hr
    rw [List.mem_singleton.mp hr]
    exact ha
  have I1 : Inv p.X p.p0 (wipe p.σ p.vs) H' { s with heap := h', toks := t' } := I0.turned k b1 b2 (.inr hb) (fun x c e z => by
    obtain ⟨v, oc, q1, q2⟩ := I.cell x c e
    rw [z, e0] at q1
    cases q1
    exact b4 v q2) np
  obtain ⟨J, T, _⟩ := ok.turn
  refine ⟨⟨H', [(S, o')], ?_, I1.pins_of fun r hr => ?_, T.keep _ _ _ t fun b hb o e => k b o (fun z => ok.nSb S hS (z ▸ hb)) e, n, w⟩, g, gs⟩
  · unfold Own
    rw [hS]
    exact ⟨o', rfl, ho⟩
  · rcases List.mem_append.mp hr with hr | hr
    · exact I1.pin r (List.mem_append_right _ hr)
    · rw [List.mem_singleton.mp hr]
      exact ⟨ho, b1, b2, b3, nc⟩
end GPlan

section
variable {X : Cx} {pins : List (Addr × Obj)} {σ : L2.St} {H : Hp} {s : Shared}
variable {c P : Addr} {Tb : List Addr} {elt tg iter : Expr} {scope : Scope} {gpos p pos : Pos} {own : List (Str × Nat)} {wi : TI} {g : TG} {te : TE} {k : Nat}
end
/-! the items' numbers -/
def GenI (b : BD) (fe : FE) (ρ : Env') (M : Mu) : List D → List Int → Prop
  | [], [] => True
  | d :: ds, n :: ns => (∃ ρ2, b d ρ = some ρ2 ∧ ∀ Q : D → Mu → Prop, Q (.int n) M → fe xF ρ2 M Q) ∧ GenI b fe ρ M ds ns
  | _, _ => False
theorem GenI.length {b : BD} {fe : FE} {ρ : Env'} {M : Mu} : ∀ {ds : List D} {ns : List Int}, GenI b fe ρ M ds ns → ns.length = ds.length
  | [], [], _ => rfl
  | d :: ds, n :: ns, h => by rw [List.length_cons, List.length_cons, GenI.length h.2]
  | [], _ :: _, h => h.elim
  | _ :: _, [], h => h.elim
theorem GenI.get {b : BD} {fe : FE} {ρ : Env'} {M : Mu} : ∀ {ds : List D} {ns : List Int}, GenI b fe ρ M ds ns → ∀ (i : Nat) {d : D}, ds[i]? = some d → ∃ ρ2, b d ρ = some ρ2 ∧ ∀ Q : D → Mu → Prop, Q (.int (ns.getD i 0)) M → fe xF ρ2 M Q
  | d :: ds, n :: ns, h, 0, e, he => by cases he; exact h.1
  | d :: ds, n :: ns, h, i + 1, e, he => by
    have := GenI.get h.2 i (d := e) (by simpa using he)
    simpa using this
  | [], [], _, i, _, he => by cases he
  | [], _ :: _, h, _, _, _ => h.elim
  | _ :: _, [], h, _, _, _ => h.elim
theorem GenI.map {α : Type} {b : BD} {fe : FE} {ρ : Env'} {M : Mu} {enc : α → D} {f : α → Int} : ∀ (xs : List α), (∀ x ∈ xs, ∃ ρ2, b (enc x) ρ = some ρ2 ∧ ∀ Q : D → Mu → Prop, Q (.int (f x)) M → fe xF ρ2 M Q) → GenI b fe ρ M (xs.map enc) (xs.map f)
  | [], _ => trivial
  | x :: xs, h => ⟨h x List.mem_cons_self, GenI.map xs fun y hy => h y (List.mem_cons_of_mem _ hy)⟩
def fSumG (fi : FI) (b : BD) (fe : FE) (vs : List Nat) : FE := fun xw ρ M Q => fi xw ρ M fun ds M1 => ∃ ns : List Int, GenI b fe (wipeE ρ vs) M1 ds ns ∧ Q (.int ns.sum) M1
section
variable {X : Cx} {T : List Addr} {W : WX} {elt tg iter : Expr} {scope : Scope} {gpos p pos : Pos} {own : List (Str × Nat)} {wi : TI} {fi : FI} {b : BD} {fe : FE}
end
section
variable {P : Program} {w : World} {K : PySem.W.Frag} {mg : Str → Option Value} {base : Heap} {N ps : List Str} {sc : Scope} {fn : Str → Bool} {k : Nat} {W : WX} {X : Cx} {T : List Addr} {e : Expr}
variable {elt tg iter : Expr} {scope : Scope} {gpos p pos : Pos} {fi : FI} {b : BD} {fe : FE}
end
end U

set_option Elab.async false
set_option linter.all false
set_option maxRecDepth 100000
set_option maxHeartbeats 4000000
/-! G8: a generator expression within one. -/
namespace U
open PySem PySem.Spec PyProof.Rows L2
section
variable {X : Cx} {pins : List (Addr × Obj)} {σ : L2.St} {H : Hp} {s : Shared}
end
section
variable {P : Program} {w : World} {K : PySem.W.Frag} {mg : Str → Option Value} {base : Heap} {N ps : List Str} {sc : Scope} {fn : Str → Bool} {k : Nat} {W : WX} {X : Cx} {T : List Addr}
variable {elt tg iter : Expr} {scope : Scope} {gpos p pos : Pos} {fi : FI} {b : BD} {fe : FE}
end
end U

set_option Elab.async false
set_option linter.all false
set_option maxRecDepth 100000
set_option maxHeartbeats 1000000
/-! T0: tables of sets, of any size up to 2 ^ 15 slots: the round of 5 i + 1 meets all of 2 ^ k slots. -/
namespace U
open PySem PySem.Spec PyProof.Rows L2

/-! ### numbers -/
def rnd : Nat → Nat
  | 0 => 0
  | k + 1 => 5 * rnd k + 1
theorem rnd_add (a : Nat) : ∀ b, rnd (a + b) = 5 ^ b * rnd a + rnd b
  | 0 => by simp [rnd]
  | b + 1 => by
    show 5 * rnd (a + b) + 1 = 5 ^ (b + 1) * rnd a + (5 * rnd b + 1)
    rw [rnd_add a b, Nat.pow_succ, Nat.mul_add, Nat.mul_comm (5 ^ b) 5, Nat.mul_assoc]
    omega
theorem rnd_par : ∀ k, rnd k % 2 = k % 2
  | 0 => rfl
  | k + 1 => by
    have := rnd_par k
    show (5 * rnd k + 1) % 2 = _
    omega
theorem five_four : ∀ e, 5 ^ e % 4 = 1
  | 0 => rfl
  | e + 1 => by
    have := five_four e
    rw [Nat.pow_succ]
    omega
theorem odd_cut : ∀ (k a o : Nat), o % 2 = 1 → 2 ^ k ∣ a * o → 2 ^ k ∣ a
  | 0, a, _, _, _ => by simp
  | k + 1, a, o, ho, h => by
    have h2 : a * o % 2 = 0 := Nat.mod_eq_zero_of_dvd (Nat.dvd_trans (by rw [Nat.pow_succ]; exact Nat.dvd_mul_left 2 _) h)
    have ha : a % 2 = 0 := by
      rw [Nat.mul_mod, ho] at h2
      omega
    obtain ⟨c, rfl⟩ : ∃ c, a = c * 2 := ⟨a / 2, by omega⟩
    rw [Nat.pow_succ] at h ⊢
    rw [show c * 2 * o = c * o * 2 by rw [Nat.mul_assoc, Nat.mul_comm 2 o, ← Nat.mul_assoc]] at h
    exact Nat.mul_dvd_mul (odd_cut k c o ho (Nat.dvd_of_mul_dvd_mul_right (by decide) h)) (Nat.dvd_refl 2)
theorem rnd_dvd : ∀ (k d : Nat), 2 ^ k ∣ rnd d → 2 ^ k ∣ d
  | 0, d, _ => by simp
  | k + 1, d, h => by
    have h2 : rnd d % 2 = 0 := Nat.mod_eq_zero_of_dvd (Nat.dvd_trans (by rw [Nat.pow_succ]; exact Nat.dvd_mul_left 2 _) h)
    rw [rnd_par] at h2
    obtain ⟨e, rfl⟩ : ∃ e, d = e + e := ⟨d / 2, by omega⟩
    have f := five_four e
    obtain ⟨o, ho⟩ : ∃ o, 5 ^ e + 1 = 2 * o := ⟨(5 ^ e + 1) / 2, by omega⟩
    have ho2 : o % 2 = 1 := by omega
    have e1 : rnd (e + e) = rnd e * o * 2 := by
      rw [rnd_add]
      have : 5 ^ e * rnd e + rnd e = (5 ^ e + 1) * rnd e := by rw [Nat.add_mul, Nat.one_mul]
      rw [this, ho, Nat.mul_assoc, Nat.mul_comm, Nat.mul_comm o]
    rw [e1, Nat.pow_succ] at h
    have h3 := rnd_dvd k e (odd_cut k _ o ho2 (Nat.dvd_of_mul_dvd_mul_right (by decide) h))
    rw [Nat.pow_succ, show e + e = e * 2 by omega]
    exact Nat.mul_dvd_mul h3 (Nat.dvd_refl 2)
theorem lcg_rnd (m : Nat) : ∀ k, lcgN m k = rnd k % (m + 1)
  | 0 => by simp [lcgN, rnd]
  | k + 1 => by
    show (lcgN m k * 5 + 1) % (m + 1) = (5 * rnd k + 1) % (m + 1)
    rw [lcg_rnd m k, Nat.add_mod, Nat.mul_mod, Nat.mod_mod, ← Nat.mul_mod, ← Nat.add_mod, Nat.mul_comm]
/-- the masks of our tables -/
def MaskK (m : Nat) : Prop := m = 7 ∨ m = 31 ∨ m = 127 ∨ m = 511 ∨ m = 2047 ∨ m = 8191 ∨ m = 32767
theorem MaskK.pow {m : Nat} (h : MaskK m) : ∃ k, m + 1 = 2 ^ k := by
  rcases h with rfl | rfl | rfl | rfl | rfl | rfl | rfl
  · exact ⟨3, rfl⟩
  · exact ⟨5, rfl⟩
  · exact ⟨7, rfl⟩
  · exact ⟨9, rfl⟩
  · exact ⟨11, rfl⟩
  · exact ⟨13, rfl⟩
  · exact ⟨15, rfl⟩
theorem MaskK.low {m : Nat} (h : MaskK m) : 7 ≤ m ∧ m ≤ 32767 := by
  rcases h with rfl | rfl | rfl | rfl | rfl | rfl | rfl <;> decide
theorem round_ne {m : Nat} (h : MaskK m) (a : Nat) {b c : Nat} (h1 : b < c) (h2 : c - b ≤ m) : lcgN m (a + b) ≠ lcgN m (a + c) := fun e => by
  obtain ⟨k, h3⟩ := h.pow
  rw [lcg_rnd, lcg_rnd] at e
  have e2 : rnd (a + c) = 5 ^ (a + b) * rnd (c - b) + rnd (a + b) := by rw [← rnd_add, show c - b + (a + b) = a + c by omega]
  rw [e2] at e
  have d0 : (5 ^ (a + b) * rnd (c - b)) % (m + 1) = 0 := by
    have := Nat.sub_mod_eq_zero_of_mod_eq e.symm
    rwa [Nat.add_sub_cancel] at this
  have d : 2 ^ k ∣ rnd (c - b) * 5 ^ (a + b) := by
    rw [← h3, Nat.mul_comm]
    exact Nat.dvd_of_mod_eq_zero d0
  have d2 := rnd_dvd k _ (odd_cut k _ _ (by have := five_four (a + b); omega) d)
  have := Nat.le_of_dvd (by omega) d2
  omega
/-- from anywhere each slot is met within one round -/
theorem round_all {m : Nat} (h : MaskK m) (a : Nat) {j : Nat} (hj : j ≤ m) : ∃ k, k ≤ m ∧ lcgN m (a + k) = j := by
  rcases Classical.em (∃ k, k ≤ m ∧ lcgN m (a + k) = j) with c | c
  · exact c
  exfalso
  have lt : ∀ k, lcgN m k < m + 1 := fun k => by rw [lcg_rnd]; exact Nat.mod_lt _ (Nat.succ_pos _)
  have nd : (j :: (List.range (m + 1)).map fun k => lcgN m (a + k)).Nodup := by
    refine List.nodup_cons.mpr ⟨fun hm => ?_, ?_⟩
    · obtain ⟨k, hk, e⟩ := List.mem_map.mp hm
      exact c ⟨k, by have := List.mem_range.mp hk; omega, e⟩
    · refine List.pairwise_map.mpr (List.Pairwise.imp_of_mem (fun {x y} hx hy hxy => ?_) (List.pairwise_lt_range (n := m + 1)))
      have := List.mem_range.mp hy
      exact round_ne h a hxy (by omega)
  have := nat_nodup_len _ (List.range (m + 1)) nd fun x hx => by
    rcases List.mem_cons.mp hx with rfl | hx
    · exact List.mem_range.mpr (by omega)
    · obtain ⟨k, _, rfl⟩ := List.mem_map.mp hx
      exact List.mem_range.mpr (lt _)
  simp only [List.length_cons, List.length_map, List.length_range] at this
  omega
theorem way_in (m : Nat) (h : Int) (k : Nat) : way m h k ≤ m := by
  have b := runEnd_bd (m := m) (i := SetTable.bits h % (m + 1)) (Nat.le_of_lt_succ (Nat.mod_lt _ (Nat.succ_pos _)))
  have q := nth_in (m := m) k (runAt m (SetTable.bits h % (m + 1)) (SetTable.bits h)) (by
    unfold runAt
    dsimp only
    omega)
  exact Nat.le_trans (Nat.le_add_right _ _) q

/-! ### tables -/
/-- a table in which each hash is found on its way -/
structure TabK (t : SetTable) (hs : List Int) : Prop where
  ris : Ris t.place.toList
  dm : t.dummies = #[]
  sz : t.place.size = hs.length
  mok : MaskK t.mask
  bd : ∀ y ∈ t.place.toList, y ≤ t.mask
  reach : ∀ (n : Nat) (g : Int) (p : Nat), hs[n]? = some g → t.place.toList[n]? = some p → ∃ q, way t.mask g q = p ∧ ∀ r, r < q → way t.mask g r ∈ t.place.toList
/-- a free slot is met within ten steps for each entry -/
theorem met_few {m : Nat} (hm : MaskK m) (h : Int) (ps : List Nat) (room : ps.length ≤ m) : ∃ k, k ≤ 10 * (ps.length + 12) ∧ way m h k ∉ ps := by
  rcases Classical.em (∃ n, n ≤ ps.length ∧ runI m (SetTable.bits h) (12 + n) ∉ ps) with ⟨n, hn, hf⟩ | c
  · obtain ⟨k, hk, e2⟩ := run_nth m (SetTable.bits h) (12 + n)
    refine ⟨k, by omega, ?_⟩
    have e3 : way m h k = runI m (SetTable.bits h) (12 + n) := congrArg SetTable.Probe.j e2
    rw [e3]
    exact hf
  exfalso
  obtain ⟨a, _, ea⟩ := round_all hm 0 (runI_le m (SetTable.bits h) 12)
  rw [Nat.zero_add] at ea
  have rn : ∀ n, runI m (SetTable.bits h) (12 + n) = lcgN m (a + n) := fun n => by rw [runI_tail (bits_lt h), ← ea, lcgN_add]
  have nd : ((List.range (ps.length + 1)).map fun n => lcgN m (a + n)).Nodup := by
    refine List.pairwise_map.mpr (List.Pairwise.imp_of_mem (fun {x y} hx hy hxy => ?_) (List.pairwise_lt_range (n := ps.length + 1)))
    have := List.mem_range.mp hy
    exact round_ne hm a hxy (by omega)
  have := nat_nodup_len _ ps nd fun x hx => by
    obtain ⟨n, h1, rfl⟩ := List.mem_map.mp hx
    have h2 := List.mem_range.mp h1
    rw [← rn]
    exact Classical.byContradiction fun z => c ⟨n, by omega, z⟩
  simp only [List.length_map, List.length_range] at this
  omega

/-! ### the largest table: 4096 runs one after the other cover more than 19660 slots -/
def wnd (x : Nat) : Nat := if x + 9 ≤ 32767 then 1023 <<< x else 1 <<< x
def mu5 : Nat → Nat
  | 0 => 5
  | k + 1 => mu5 k * mu5 k % 32768
def ad5 : Nat → Nat
  | 0 => 1
  | k + 1 => (mu5 k * ad5 k + ad5 k) % 32768
def runsU : Nat → Nat → Nat
  | 0, x => wnd x
  | k + 1, x => runsU k x ||| runsU k ((mu5 k * x + ad5 k) % 32768)
def popc : Nat → Nat → Nat
  | 0, m => m % 2
  | k + 1, m => popc k (m % 2 ^ 2 ^ k) + popc k (m / 2 ^ 2 ^ k)
theorem cover_big : (List.range 8).all (fun c => Nat.blt 19660 (popc 15 (runsU 12 (4096 * c)))) = true := by decide +kernel
theorem step_big : (List.range 8).all (fun c => (List.range 8).any fun c' => Nat.beq ((mu5 12 * (4096 * c) + ad5 12) % 32768) (4096 * c')) = true := by decide +kernel
theorem mu5_pow : ∀ k, 5 ^ 2 ^ k % 32768 = mu5 k % 32768
  | 0 => rfl
  | k + 1 => by
    have ih := mu5_pow k
    rw [Nat.pow_succ, Nat.pow_mul, Nat.pow_two, Nat.mul_mod, ih, ← Nat.mul_mod]
    show _ = mu5 k * mu5 k % 32768 % 32768
    rw [Nat.mod_mod]
theorem ad5_rnd : ∀ k, rnd (2 ^ k) % 32768 = ad5 k % 32768
  | 0 => rfl
  | k + 1 => by
    have ih := ad5_rnd k
    rw [show 2 ^ (k + 1) = 2 ^ k + 2 ^ k by rw [Nat.pow_succ]; omega, rnd_add, Nat.add_mod, Nat.mul_mod, mu5_pow, ih, ← Nat.mul_mod, ← Nat.add_mod]
    show _ = (mu5 k * ad5 k + ad5 k) % 32768 % 32768
    rw [Nat.mod_mod]
theorem lcg_far (a k : Nat) : lcgN 32767 (a + 2 ^ k) = (mu5 k * lcgN 32767 a + ad5 k) % 32768 := by
  rw [lcg_rnd, lcg_rnd, rnd_add]
  show (5 ^ 2 ^ k * rnd a + rnd (2 ^ k)) % 32768 = (mu5 k * (rnd a % 32768) + ad5 k) % 32768
  rw [Nat.add_mod, Nat.mul_mod, mu5_pow, ad5_rnd, ← Nat.mul_mod, ← Nat.add_mod, Nat.add_mod (mu5 k * (rnd a % 32768)), Nat.mul_mod (mu5 k), Nat.mod_mod, ← Nat.mul_mod, ← Nat.add_mod]
theorem runsU_bit : ∀ (k a y : Nat), (runsU k (lcgN 32767 a)).testBit y = true → ∃ i, i < 2 ^ k ∧ (wnd (lcgN 32767 (a + i))).testBit y = true
  | 0, a, y, h => ⟨0, by decide, h⟩
  | k + 1, a, y, h => by
    have e2 : 2 ^ (k + 1) = 2 ^ k + 2 ^ k := by rw [Nat.pow_succ]; omega
    have h' : ((runsU k (lcgN 32767 a)) ||| runsU k ((mu5 k * lcgN 32767 a + ad5 k) % 32768)).testBit y = true := h
    rw [← lcg_far, Nat.testBit_or, Bool.or_eq_true] at h'
    rcases h' with h' | h'
    · obtain ⟨i, h1, h2⟩ := runsU_bit k a y h'
      exact ⟨i, by omega, h2⟩
    · obtain ⟨i, h1, h2⟩ := runsU_bit k (a + 2 ^ k) y h'
      exact ⟨2 ^ k + i, by omega, by rw [← Nat.add_assoc]; exact h2⟩
theorem wnd_bit {x y : Nat} (h : (wnd x).testBit y = true) : x ≤ y ∧ y ≤ SetTable.runEnd 32767 x := by
  unfold wnd at h
  unfold SetTable.runEnd
  split at h
  · rename_i hx
    rw [if_pos hx]
    rw [Nat.testBit_shiftLeft, Bool.and_eq_true, decide_eq_true_eq] at h
    refine ⟨h.1, Classical.byContradiction fun z => ?_⟩
    have : Nat.testBit 1023 (y - x) = false := Nat.testBit_lt_two_pow (Nat.lt_of_lt_of_le (by decide : 1023 < 2 ^ 10) (Nat.pow_le_pow_right (by decide) (by omega)))
    rw [this] at h
    exact absurd h.2 (by decide)
  · rename_i hx
    rw [if_neg hx]
    rw [Nat.testBit_shiftLeft, Bool.and_eq_true, decide_eq_true_eq] at h
    refine ⟨h.1, Classical.byContradiction fun z => ?_⟩
    have : Nat.testBit 1 (y - x) = false := Nat.testBit_lt_two_pow (Nat.lt_of_lt_of_le (by decide : 1 < 2 ^ 1) (Nat.pow_le_pow_right (by decide) (by omega)))
    rw [this] at h
    exact absurd h.2 (by decide)
theorem popc_le : ∀ (k m : Nat) (ps : List Nat), (∀ y, y < 2 ^ k → m.testBit y = true → y ∈ ps) → popc k m ≤ ps.length
  | 0, m, ps, h => by
    show m % 2 ≤ _
    rcases Nat.mod_two_eq_zero_or_one m with z | z
    · rw [z]; exact Nat.zero_le _
    · have := h 0 (by decide) (by rw [Nat.testBit_zero, z]; rfl)
      rw [z]
      exact List.length_pos_of_mem this
  | k + 1, m, ps, h => by
    have e2 : 2 ^ (k + 1) = 2 ^ k + 2 ^ k := by rw [Nat.pow_succ]; omega
    have h1 := popc_le k (m % 2 ^ 2 ^ k) (ps.filter fun y => decide (y < 2 ^ k)) fun y hy hb => by
      rw [Nat.testBit_mod_two_pow, Bool.and_eq_true] at hb
      exact List.mem_filter.mpr ⟨h y (by omega) hb.2, decide_eq_true hy⟩
    have h2 := popc_le k (m / 2 ^ 2 ^ k) ((ps.filter fun y => !decide (y < 2 ^ k)).map fun y => y - 2 ^ k) fun y hy hb => by
      rw [Nat.testBit_div_two_pow] at hb
      refine List.mem_map.mpr ⟨y + 2 ^ k, List.mem_filter.mpr ⟨h _ (by omega) hb, ?_⟩, by omega⟩
      rw [Bool.not_eq_true', decide_eq_false_iff_not]; omega
    rw [List.length_map] at h2
    have h3 : (ps.filter fun y => decide (y < 2 ^ k)).length + (ps.filter fun y => !decide (y < 2 ^ k)).length = ps.length := by
      clear h h1 h2
      induction ps with
      | nil => rfl
      | cons y ps ih =>
        rw [List.filter_cons, List.filter_cons, List.length_cons]
        cases decide (y < 2 ^ k) <;> simp <;> omega
    show popc k (m % 2 ^ 2 ^ k) + popc k (m / 2 ^ 2 ^ k) ≤ _
    omega
theorem lcg_mult : ∀ b, ∃ c, c < 8 ∧ lcgN 32767 (4096 * b) = 4096 * c
  | 0 => ⟨0, by decide, rfl⟩
  | b + 1 => by
    obtain ⟨c, h1, h2⟩ := lcg_mult b
    have h3 := List.all_eq_true.mp step_big c (List.mem_range.mpr h1)
    obtain ⟨c', h4, h5⟩ := List.any_eq_true.mp h3
    refine ⟨c', List.mem_range.mp h4, ?_⟩
    rw [show 4096 * (b + 1) = 4096 * b + 2 ^ 12 by omega, lcg_far, h2]
    exact Nat.eq_of_beq_eq_true h5
theorem met_many (h : Int) (ps : List Nat) (few : ps.length ≤ 19660) : ∃ k, k ≤ 82049 ∧ way 32767 h k ∉ ps := by
  have hm : MaskK 32767 := .inr (.inr (.inr (.inr (.inr (.inr rfl)))))
  refine Classical.byContradiction fun c => ?_
  have all : ∀ k, k ≤ 82049 → way 32767 h k ∈ ps := fun k hk => Classical.byContradiction fun z => c ⟨k, hk, z⟩
  obtain ⟨a, _, ea⟩ := round_all hm 0 (runI_le 32767 (SetTable.bits h) 12)
  rw [Nat.zero_add] at ea
  have rn : ∀ n, runI 32767 (SetTable.bits h) (12 + n) = lcgN 32767 (a + n) := fun n => by rw [runI_tail (bits_lt h), ← ea, lcgN_add]
  obtain ⟨b, hb⟩ : ∃ b, b = (a + 4095) / 4096 := ⟨_, rfl⟩
  obtain ⟨c0, c1, c2⟩ := lcg_mult b
  have big := List.all_eq_true.mp cover_big c0 (List.mem_range.mpr c1)
  have big : 19660 < popc 15 (runsU 12 (4096 * c0)) := by simpa [Nat.blt_eq] using big
  have le := popc_le 15 (runsU 12 (4096 * c0)) ps fun y _ hy => by
    rw [← c2] at hy
    obtain ⟨i, i1, i2⟩ := runsU_bit 12 (4096 * b) y hy
    have i1 : i < 4096 := i1
    have en : 4096 * b + i = a + (4096 * b + i - a) := by omega
    rw [en, ← rn] at i2
    obtain ⟨y1, y2⟩ := wnd_bit i2
    obtain ⟨k, hk, e2⟩ := run_nth 32767 (SetTable.bits h) (12 + (4096 * b + i - a))
    have e3 := runEnd_bd (runI_le 32767 (SetTable.bits h) (12 + (4096 * b + i - a)))
    have e4 : way 32767 h (k + (y - runI 32767 (SetTable.bits h) (12 + (4096 * b + i - a)))) = y := by
      show (nth 32767 _ _).j = y
      rw [nth_add, e2, nth_run _ _ _ _ (by omega)]
      show runI 32767 (SetTable.bits h) (12 + (4096 * b + i - a)) + (y - runI 32767 (SetTable.bits h) (12 + (4096 * b + i - a))) = y
      omega
    rw [← e4]
    exact all _ (by omega)
  omega
theorem met_free {m : Nat} (hm : MaskK m) (h : Int) (ps : List Nat) (room : ps.length ≤ m) (few : ps.length ≤ 19660) : ∃ k, k ≤ 82049 ∧ way m h k ∉ ps := by
  by_cases e : m = 32767
  · subst e
    exact met_many h ps few
  · obtain ⟨k, h1, h2⟩ := met_few hm h ps room
    have : m ≤ 8191 := by rcases hm with rfl | rfl | rfl | rfl | rfl | rfl | rfl <;> omega
    exact ⟨k, by omega, h2⟩
theorem TabK.first {t : SetTable} {hs : List Int} (T : TabK t hs) (room : hs.length ≤ t.mask) (few : hs.length ≤ 19660) (g : Int) :
    ∃ q, q ≤ 82049 ∧ q < 10 * SetTable.turns t.mask ∧ way t.mask g q ∉ t.place.toList ∧ ∀ r, r < q → way t.mask g r ∈ t.place.toList := by
  have sz := T.sz
  rw [← Array.length_toList] at sz
  obtain ⟨k, hk, np⟩ := met_free T.mok g t.place.toList (by omega) (by omega)
  obtain ⟨k2, hk2, np2⟩ := met_few T.mok g t.place.toList (by omega)
  obtain ⟨q, q1, q2, q3⟩ := st_least (p := fun r => way t.mask g r ∉ t.place.toList) k np
  refine ⟨q, by omega, Classical.byContradiction fun z => ?_, q2, fun r hr => Classical.byContradiction fun z => q3 r hr z⟩
  refine q3 k2 ?_ np2
  unfold SetTable.turns at z
  omega
theorem TabK.put {t : SetTable} {hs : List Int} (T : TabK t hs) {g : Int} {q : Nat} (free : way t.mask g q ∉ t.place.toList) (all : ∀ r, r < q → way t.mask g r ∈ t.place.toList) :
    ∃ n, (t.put (way t.mask g q)).2 = n ∧ n ≤ hs.length ∧ TabK (t.put (way t.mask g q)).1 (hs.take n ++ g :: hs.drop n) ∧ (t.put (way t.mask g q)).1.mask = t.mask ∧ (t.put (way t.mask g q)).1.led = t.led ∧
      (t.put (way t.mask g q)).1.fill = hs.length + 1 := by
  have inm := way_in t.mask g q
  generalize hp : way t.mask g q = p at free inm ⊢
  have cut := (below_cut T.ris p).1
  have szL : t.place.toList.length = hs.length := by rw [Array.length_toList, T.sz]
  have n1 : SetTable.below t.place p ≤ t.place.toList.length := by rw [Array.length_toList]; exact cut
  have n2 : SetTable.below t.place p ≤ hs.length := by omega
  have pl := put_place t p
  have dm := put_dm T.dm p
  have fresh : t.place[SetTable.below t.place p]? ≠ some p := fun z => free (by rw [← Array.getElem?_toList] at z; exact List.mem_of_getElem? z)
  have more : ∀ {y : Nat}, y ∈ t.place.toList → y ∈ (t.put p).1.place.toList := fun hy => by rw [pl]; exact mem_ins.mpr (Or.inr hy)
  have size : (t.put p).1.place.size = hs.length + 1 := by rw [← Array.length_toList, pl, len_ins _ n1, szL]
  refine ⟨SetTable.below t.place p, rfl, n2, ⟨ris_insert T.ris fresh, dm, by rw [len_ins _ n2]; exact size, T.mok, fun y hy => ?_, fun k g2 p2 a1 a2 => ?_⟩, rfl, rfl, ?_⟩
  · rw [pl] at hy
    exact (mem_ins.mp hy).elim (fun z => by rw [z]; exact inm) (T.bd y)
  · rw [tins_get hs n2] at a1
    rw [pl, tins_get _ n1] at a2
    have old : ∀ k, hs[k]? = some g2 → t.place.toList[k]? = some p2 → ∃ q, way t.mask g2 q = p2 ∧ ∀ r, r < q → way t.mask g2 r ∈ (t.put p).1.place.toList := fun k b1 b2 => by
      obtain ⟨q, c1, c2⟩ := T.reach k g2 p2 b1 b2
      exact ⟨q, c1, fun r hr => more (c2 r hr)⟩
    show ∃ q, way t.mask g2 q = p2 ∧ _
    split at a1
    · rename_i lt
      rw [if_pos lt] at a2
      exact old k a1 a2
    · rename_i lt
      rw [if_neg lt] at a2
      split at a1
      · rename_i eq
        rw [if_pos eq] at a2
        cases a1
        cases a2
        exact ⟨q, hp, fun r hr => more (all r hr)⟩
      · rename_i eq
        rw [if_neg eq] at a2
        exact old (k - 1) a1 a2
  · unfold SetTable.fill
    rw [size, dm] <;> rfl

/-! ### a table laid anew -/
end U

set_option Elab.async false
set_option linter.all false
set_option maxRecDepth 100000
set_option maxHeartbeats 1000000
set_option pp.deepTerms false
set_option pp.maxSteps 1500
/-! T1: sets of nested tuples (model level): the table, the search, adding. -/
namespace U
open PySem PySem.Spec PyProof.Rows L2

/-! ### data as keys -/
mutual
theorem key_inj : ∀ (x y : D) (m n : Nat), kyD m x = true → kyD n y = true → x.key = y.key → x = y
  | .int i, y, m, n, _, h2, e => by
    cases y <;> simp [D.key] at e <;> first | (subst e; rfl) | (cases n <;> simp [kyD] at h2)
  | .str i, y, m, n, _, h2, e => by
    cases y <;> simp [D.key] at e <;> first | (subst e; rfl) | (cases n <;> simp [kyD] at h2)
  | .tup ds, y, m, n, h1, h2, e => by
    cases m with
    | zero => simp [kyD] at h1
    | succ m =>
      cases y with
      | tup es =>
        cases n with
        | zero => simp [kyD] at h2
        | succ n =>
          simp only [D.key, NestedKey.tup.injEq] at e
          simp only [kyD] at h1 h2
          rw [keys_inj ds es m n h1 h2 e]
      | _ => simp [D.key] at e
  | .non, _, m, _, h1, _, _ | .bl _, _, m, _, h1, _, _ | .lst _, _, m, _, h1, _, _ | .loc _, _, m, _, h1, _, _ | .ty _, _, m, _, h1, _, _ => by cases m <;> simp [kyD] at h1
theorem keys_inj : ∀ (xs ys : List D) (m n : Nat), xs.all (kyD m) = true → ys.all (kyD n) = true → D.keys xs = D.keys ys → xs = ys
  | [], [], _, _, _, _, _ => rfl
  | [], _ :: _, _, _, _, _, e => by simp [D.keys] at e
  | _ :: _, [], _, _, _, _, e => by simp [D.keys] at e
  | x :: xs, y :: ys, m, n, h1, h2, e => by
    rw [List.all_cons, Bool.and_eq_true] at h1 h2
    simp only [D.keys, List.cons.injEq] at e
    rw [key_inj x y m n h1.1 h2.1 e.1, keys_inj xs ys m n h1.2 h2.2 e.2]
end
mutual
theorem ky_depth : ∀ (d : D) (n : Nat), kyD n d = true → d.key.depth ≤ n
  | .int _, _, _ => by simp [D.key, NestedKey.depth]
  | .str _, _, _ => by simp [D.key, NestedKey.depth]
  | .tup ds, 0, h => by simp [kyD] at h
  | .tup ds, n + 1, h => by
    have := kys_depth ds n (by simpa only [kyD] using h)
    simp only [D.key, NestedKey.depth]; omega
  | .non, n, h | .bl _, n, h | .lst _, n, h | .loc _, n, h | .ty _, n, h => by cases n <;> simp [kyD] at h
theorem kys_depth : ∀ (ds : List D) (n : Nat), ds.all (kyD n) = true → NestedKey.depthAll (D.keys ds) ≤ n
  | [], _, _ => by simp [D.keys, NestedKey.depthAll]
  | d :: ds, n, h => by
    rw [List.all_cons, Bool.and_eq_true] at h
    have h1 := ky_depth d n h.1
    have h2 := kys_depth ds n h.2
    simp only [D.keys, NestedKey.depthAll]; omega
end

/-- the tuple at b is the key k -/
def KAt (h : Heap) (k : NestedKey) (b : Addr) : Prop := NestedIs h k (.ref b) ∧ k.depth ≤ 8
theorem KAt.kept {h h' : Heap} {k : NestedKey} {b : Addr} (x : KAt h k b) (g : ∀ c u, h.get? c = some u → h'.get? c = some u) : KAt h' k b := ⟨NestedIs.at (fun c u _ _ e _ => g c u e) k _ x.1, x.2⟩
section
variable {P : Program} {w : World} {A : Around} {E : Value → Shared → Prop} {s : Shared}
/-! small questions asked of a key -/
def ClsNo (P : Program) (w : World) (n : Nat) (s : Shared) (v : Value) : Prop := ∀ (A : Around) (E : Value → Shared → Prop) (Q : Bool → Shared → Prop), Q false s → wpAny (model P w) A (ofAClassStatement n v) Q E s
theorem ClsNo.tuple {n : Nat} {a : Addr} {o : Obj} {vs : Array Value} {m : Nat} (ho : s.heap.get? a = some o) (hc : o.cls = .type "tuple") (hd : o.data = .seq vs m) (all : ∀ v ∈ vs.toList, ClsNo P w n s v) : ClsNo P w (n + 1) s (.ref a) := fun A E Q h => by
  unfold ofAClassStatement
  refine wpAny_bind (wpAny_typeOf (T := "tuple") ⟨o, ho, hc⟩ ?_)
  dsimp only
  have tt : (("tuple" : String) == "tuple") = true := by decide
  simp only [tt, if_true, Bool.not_true, Bool.false_eq_true, if_false]
  try refine wpAny_bind (wpAny_pure ?_)
  try simp only [Bool.not_true, Bool.false_eq_true, if_false]
  show wpAny _ _ (seqItems? (.ref a) >>= _) _ _ s
  refine wpAny_bind (wpAny_seqItems ho hd ?_)
  dsimp only
  refine wpAny_bind ?_
  show wpAny _ _ (forIn vs _ _) _ _ s
  rw [← Array.forIn_toList]
  refine wpAny_forIn_list _ (fun rest r s2 => r.1 = none ∧ s2 = s ∧ ∀ u ∈ rest, ClsNo P w n s u) _ ?_ ?_ _ _ ⟨rfl, rfl, all⟩
  · rintro u rest r s2 ⟨hr, rfl, al⟩
    refine wpAny_bind (al u List.mem_cons_self _ _ _ ?_)
    simp only [Bool.false_eq_true, if_false]
    exact wpAny_pure ⟨rfl, rfl, fun z hz => al z (List.mem_cons_of_mem _ hz)⟩
  · rintro ⟨r1, r2⟩ s2 ⟨hr, rfl, _⟩
    simp only at hr
    subst hr
    exact wpAny_pure h
mutual
theorem cls_key : ∀ (k : NestedKey) (v : Value) (n : Nat) (s : Shared), NestedIs s.heap k v → k.depth ≤ n → ClsNo P w n s v
  | .none, _, n, s, x, _ => by cases x; cases n <;> exact fun A E Q h => wpAny_pure h
  | .num i, _, n, s, x, _ => by cases x <;> cases n <;> exact fun A E Q h => wpAny_pure h
  | .text y, _, n, s, x, _ => by cases x; cases n <;> exact fun A E Q h => wpAny_pure h
  | .tup ks, _, n, s, x, hn => by
    cases x with
    | tup g c d hk =>
      simp only [NestedKey.depth] at hn
      cases n with
      | zero => omega
      | succ n => exact ClsNo.tuple g c d (cls_keys ks _ n s hk (by omega))
theorem cls_keys : ∀ (ks : List NestedKey) (vs : List Value) (n : Nat) (s : Shared), NestedAll s.heap ks vs → NestedKey.depthAll ks ≤ n → ∀ v ∈ vs, ClsNo P w n s v
  | [], _, n, s, x, _, v, hv => by cases x; cases hv
  | k :: ks, _, n, s, x, hn, v, hv => by
    cases x with
    | cons x1 x2 =>
      simp only [NestedKey.depthAll] at hn
      rcases List.mem_cons.mp hv with e | hv
      · rw [e]; exact cls_key k _ n s x1 (by omega)
      · exact cls_keys ks _ n s x2 (by omega) v hv
end
def HvAny (P : Program) (w : World) (n : Nat) (s : Shared) (v : Value) : Prop := ∀ (A : Around) (E : Value → Shared → Prop) (Q : Bool → Shared → Prop), (∀ b, Q b s) → wpAny (model P w) A (hashByValue n v) Q E s
theorem HvAny.tuple {n : Nat} {a : Addr} {o : Obj} {vs : Array Value} {m : Nat} (ho : s.heap.get? a = some o) (hc : o.cls = .type "tuple") (hd : o.data = .seq vs m) (all : ∀ v ∈ vs.toList, HvAny P w n s v) : HvAny P w (n + 1) s (.ref a) := fun A E Q h => by
  unfold hashByValue
  refine wpAny_bind (wpAny_specialOf (T := "tuple") ⟨o, ho, hc⟩ F.slot_tuple_hash.lookup ?_)
  show wpAny _ _ (seqItems? (.ref a) >>= _) _ _ s
  refine wpAny_bind (wpAny_seqItems ho hd ?_)
  refine wpAny_bind ?_
  show wpAny _ _ (forIn vs _ _) _ _ s
  rw [← Array.forIn_toList]
  refine wpAny_forIn_list _ (fun rest r s2 => r.1 = none ∧ s2 = s ∧ ∀ u ∈ rest, HvAny P w n s u) _ ?_ ?_ _ _ ⟨rfl, rfl, all⟩
  · rintro u rest r s2 ⟨hr, rfl, al⟩
    refine wpAny_bind (al u List.mem_cons_self _ _ _ fun b => ?_)
    cases b with
    | true =>
      simp only [Bool.not_true, Bool.false_eq_true, if_false]
      exact wpAny_pure ⟨rfl, rfl, fun z hz => al z (List.mem_cons_of_mem _ hz)⟩
    | false =>
      simp only [Bool.not_false, if_true]
      exact wpAny_pure (wpAny_pure (h false))
  · rintro ⟨r1, r2⟩ s2 ⟨hr, rfl, _⟩
    simp only at hr
    subst hr
    exact wpAny_pure (h true)
mutual
theorem hv_key : ∀ (k : NestedKey) (v : Value) (n : Nat) (s : Shared), NestedIs s.heap k v → HvAny P w n s v
  | .none, _, n, s, x => by cases x; cases n <;> exact fun A E Q h => wpAny_pure (h _)
  | .num i, _, n, s, x => by cases x <;> cases n <;> exact fun A E Q h => wpAny_pure (h _)
  | .text y, _, n, s, x => by cases x; cases n <;> exact fun A E Q h => wpAny_pure (h _)
  | .tup ks, _, n, s, x => by
    cases x with
    | tup g c d hk =>
      cases n with
      | zero => exact fun A E Q h => wpAny_pure (h _)
      | succ n => exact HvAny.tuple g c d (hv_keys ks _ n s hk)
theorem hv_keys : ∀ (ks : List NestedKey) (vs : List Value) (n : Nat) (s : Shared), NestedAll s.heap ks vs → ∀ v ∈ vs, HvAny P w n s v
  | [], _, n, s, x, v, hv => by cases x; cases hv
  | k :: ks, _, n, s, x, v, hv => by
    cases x with
    | cons x1 x2 =>
      rcases List.mem_cons.mp hv with e | hv
      · rw [e]; exact hv_key k _ n s x1
      · exact hv_keys ks _ n s x2 v hv
end
/-! ### the set -/
abbrev Ent := Addr × D
abbrev Ent.k (p : Ent) : NestedKey := p.2.key
def erow (w : World) (L : List Ent) : List (Int × Value) := L.map fun p => (p.2.key.hash w, Value.ref p.1)
structure SN (w : World) (h : Heap) (S : Addr) (L : List Ent) (rows : Array (Int × Value)) (e : Nat) (tb : SetTable) : Prop where
  obj : ∃ u, h.get? S = some u ∧ u.ExactSet ∧ u.data = .set rows e tb
  row : rows.toList = erow w L
  tab : TabK tb (L.map fun p => p.2.key.hash w)
  dis : (L.map fun p => p.2.key).Nodup
  at_ : ∀ p ∈ L, KAt h p.2.key p.1
  led : w.params.followText "set-order" = true ∨ tb.led = true
  low : L.length * 5 < tb.mask * 3
  few : L.length ≤ 19660
variable {S : Addr} {L : List Ent} {rows : Array (Int × Value)} {e : Nat} {tb : SetTable}
theorem erow_len (w : World) (L : List Ent) : (erow w L).length = L.length := by unfold erow; rw [List.length_map]
theorem rows_len {rows : Array (Int × Value)} {L : List Ent} (h : rows.toList = erow w L) : rows.size = L.length := by rw [← Array.length_toList, h, erow_len]
theorem SN.len (R : SN w s.heap S L rows e tb) : rows.size = L.length := rows_len R.row
abbrev walkOf (m : Nat) (h : Int) : SetTable.Probe := runAt m (SetTable.bits h % (m + 1)) (SetTable.bits h)

end
end U

set_option Elab.async false
set_option linter.all false
set_option maxRecDepth 100000
set_option maxHeartbeats 3200000
/-! T2: adding to a set of nested tuples; set(list). -/
namespace U
open PySem PySem.Spec PyProof.Rows L2
section
variable {P : Program} {w : World} {A : Around} {E : Value → Shared → Prop} {s : Shared}
variable {S : Addr} {L : List Ent} {rows : Array (Int × Value)} {e : Nat} {tb : SetTable}
/-- what is kept when an entry is put -/
structure PutN (w : World) (s : Shared) (S : Addr) (L : List Ent) (q : Ent) (L1 : List Ent) (rows1 : Array (Int × Value)) (tb tb1 : SetTable) : Prop where
  row : rows1.toList = erow w L1
  tab : TabK tb1 (L1.map fun p => p.2.key.hash w)
  perm : L1.Perm (q :: L)
  mask : tb1.mask = tb.mask
  led : tb1.led = tb.led
  fill : tb1.fill = L.length + 1
theorem SN.kept {h h2 : Heap} (R : SN w h S L rows e tb) (hS : ∀ u, h.get? S = some u → h2.get? S = some u) (at2 : ∀ p ∈ L, KAt h2 p.2.key p.1) : SN w h2 S L rows e tb :=
  let ⟨u, hu, r⟩ := R.obj
  ⟨⟨u, hS u hu, r⟩, R.row, R.tab, R.dis, at2, R.led, R.low, R.few⟩
abbrev emptySet (w : World) : Obj := { cls := .type "set", dict := none, data := .set #[] 0 (.fresh 0 0 (!w.params.followText "set-order")) }
theorem SN.fresh {h : Heap} (hS : h.get? S = some (emptySet w)) : SN w h S [] #[] 0 (.fresh 0 0 (!w.params.followText "set-order")) where
  obj := ⟨_, hS, ⟨rfl, rfl, rfl⟩, rfl⟩
  row := rfl
  tab := ⟨List.Pairwise.nil, rfl, rfl, .inl rfl, fun x hx => (nomatch hx), fun i h j hi => (by simp at hi)⟩
  dis := List.nodup_nil
  at_ := fun p hp => (nomatch hp)
  led := by
    show _ ∨ (!w.params.followText "set-order") = true
    cases w.params.followText "set-order" <;> simp
  low := by show 0 * 5 < 7 * 3; decide
  few := Nat.zero_le _
end
end U

set_option Elab.async false
set_option linter.all false
set_option maxRecDepth 100000
set_option maxHeartbeats 3200000
/-! T3: set(list) of nested tuples. -/
namespace U
open PySem PySem.Spec PyProof.Rows L2
/-- what a set has from the first n of the entries -/
structure Has (ks : List Ent) (n : Nat) (L : List Ent) : Prop where
  sub : ∀ p ∈ L, p ∈ ks.take n
  all : ∀ p ∈ ks.take n, p.2.key ∈ L.map fun p => p.2.key
  len : L.length ≤ n
theorem Has.start (ks : List Ent) : Has ks 0 [] := ⟨fun p h => (nomatch h), fun p h => by simp at h, Nat.le_refl _⟩
theorem Has.step {ks L L2 : List Ent} {n : Nat} {x : Ent} (g : Has ks n L) (h : ks[n]? = some x) (c1 : x.2.key ∈ L.map (fun p => p.2.key) → L2 = L) (c2 : x.2.key ∉ L.map (fun p => p.2.key) → L2.Perm (x :: L)) : Has ks (n + 1) L2 := by
  have tk := take_next h
  rcases Classical.em (x.2.key ∈ L.map fun p => p.2.key) with c | c
  · rw [c1 c]
    refine ⟨fun p hp => by rw [tk]; exact List.mem_append_left _ (g.sub p hp), fun p hp => ?_, Nat.le_succ_of_le g.len⟩
    rw [tk] at hp
    rcases List.mem_append.mp hp with z | z
    · exact g.all p z
    · rw [List.mem_singleton.mp z]; exact c
  · have pm := c2 c
    refine ⟨fun p hp => ?_, fun p hp => ?_, by rw [pm.length_eq, List.length_cons]; exact Nat.succ_le_succ g.len⟩
    · rw [tk]
      rcases List.mem_cons.mp (pm.mem_iff.mp hp) with z | z
      · rw [z]; exact List.mem_append_right _ (List.mem_singleton.mpr rfl)
      · exact List.mem_append_left _ (g.sub p z)
    · rw [(pm.map fun p : Ent => p.2.key).mem_iff, List.map_cons]
      rw [tk] at hp
      rcases List.mem_append.mp hp with z | z
      · exact List.mem_cons_of_mem _ (g.all p z)
      · rw [List.mem_singleton.mp z]; exact List.mem_cons_self
section
variable {P : Program} {w : World} {A : Around} {E : Value → Shared → Prop} {s : Shared}
set_option maxRecDepth 100000 in
end
end U

set_option Elab.async false
set_option linter.all false
set_option maxRecDepth 100000
set_option maxHeartbeats 1000000
/-! TA: nested tuples whose items past the first difference need not be alike: their order, their `<`, the kind of their sort. -/
namespace U
open PySem PySem.Spec PyProof.Rows L2 PySem.SeqAt
open PySem.W (dataLt keyToks keyToksAll lex_pre lex_atom toks_all_cons)

/-! ### the plain order -/
def ltD (x y : D) : Bool := dataLt x.pd y.pd
def leD (x y : D) : Bool := !ltD y x
mutual
/-- the two are alike up to the first difference -/
def wkD : D → D → Bool
  | .int _, .int _ => true
  | .str _, .str _ => true
  | .tup xs, .tup ys => wkL xs ys
  | _, _ => false
def wkL : List D → List D → Bool
  | x :: xs, y :: ys => if NestedKey.beq x.key y.key = true then wkL xs ys else wkD x y
  | _, _ => true
end
theorem wkL_cons (x : D) (xs : List D) (y : D) (ys : List D) : wkL (x :: xs) (y :: ys) = if NestedKey.beq x.key y.key = true then wkL xs ys else wkD x y := by rw [wkL]
theorem wkD_tup (xs ys : List D) : wkD (.tup xs) (.tup ys) = wkL xs ys := by rw [wkD]
theorem beq_same {x y : D} {m n : Nat} (h1 : kyD m x = true) (h2 : kyD n y = true) (h : NestedKey.beq x.key y.key = true) : x = y := key_inj x y m n h1 h2 (NestedKey.eq_of_beq _ _ h)
theorem pds_cons (x : D) (xs : List D) : D.pds (x :: xs) = x.pd :: D.pds xs := rfl
mutual
theorem toks_wk : ∀ (x y : D) (m n : Nat), kyD m x = true → kyD n y = true → wkD x y = true → x ≠ y → ∀ l k, PyProof.Rows.lexLt itemOrd (keyToks x.pd ++ l) (keyToks y.pd ++ k) = PyProof.Rows.lexLt itemOrd (keyToks x.pd) (keyToks y.pd)
  | .int i, y, _, _, _, _, w, ne, l, k => by
    cases y with
    | int j =>
      have : (Sum.inl i : Int ⊕ List Nat) ≠ Sum.inl j := fun e => ne (by cases e; rfl)
      exact lex_atom this l k
    | _ => simp [wkD] at w
  | .str i, y, _, _, _, _, w, ne, l, k => by
    cases y with
    | str j =>
      have : (Sum.inr i.cps.toList : Int ⊕ List Nat) ≠ Sum.inr j.cps.toList := fun e => ne (by rw [PySem.W.str_of_cps (Sum.inr.inj e)])
      exact lex_atom this l k
    | _ => simp [wkD] at w
  | .tup xs, y, m, n, h1, h2, w, ne, l, k => by
    cases y with
    | tup ys =>
      cases m with
      | zero => simp [kyD] at h1
      | succ m =>
        cases n with
        | zero => simp [kyD] at h2
        | succ n => exact toksL_wk xs ys m n (by simpa only [kyD] using h1) (by simpa only [kyD] using h2) (by rw [← wkD_tup]; exact w) (fun e => ne (by rw [e])) l k
    | _ => simp [wkD] at w
  | .non, _, _, _, _, _, w, _, _, _ | .bl _, _, _, _, _, _, w, _, _, _ | .lst _, _, _, _, _, _, w, _, _, _ | .loc _, _, _, _, _, _, w, _, _, _ | .ty _, _, _, _, _, _, w, _, _, _ => by simp [wkD] at w
theorem toksL_wk : ∀ (xs ys : List D) (m n : Nat), xs.all (kyD m) = true → ys.all (kyD n) = true → wkL xs ys = true → xs ≠ ys → ∀ l k, PyProof.Rows.lexLt itemOrd (keyToksAll (D.pds xs) ++ l) (keyToksAll (D.pds ys) ++ k) = PyProof.Rows.lexLt itemOrd (keyToksAll (D.pds xs)) (keyToksAll (D.pds ys))
  | [], [], _, _, _, _, _, ne, _, _ => absurd rfl ne
  | [], y :: ys, _, _, _, _, _, _, l, k => by
    rw [pds_cons, toks_all_cons]
    exact (lex_diff (O := itemOrd) (x := Sum.inl 0) (y := Sum.inl 1) (by simp)).trans (lex_diff (O := itemOrd) (x := Sum.inl 0) (y := Sum.inl 1) (by simp)).symm
  | x :: xs, [], _, _, _, _, _, _, l, k => by
    rw [pds_cons, toks_all_cons]
    exact (lex_diff (O := itemOrd) (x := Sum.inl 1) (y := Sum.inl 0) (by simp)).trans (lex_diff (O := itemOrd) (x := Sum.inl 1) (y := Sum.inl 0) (by simp)).symm
  | x :: xs, y :: ys, m, n, h1, h2, w, ne, l, k => by
    rw [List.all_cons, Bool.and_eq_true] at h1 h2
    rw [wkL_cons] at w
    rw [pds_cons, pds_cons, toks_all_cons, toks_all_cons]
    have assoc : ∀ (a b c : List (Int ⊕ List Nat)), Sum.inl 1 :: (a ++ b) ++ c = [Sum.inl 1] ++ (a ++ (b ++ c)) := fun a b c => by simp
    have assoc2 : ∀ (a b : List (Int ⊕ List Nat)), Sum.inl 1 :: (a ++ b) = [Sum.inl 1] ++ (a ++ b) := fun a b => by simp
    rw [assoc, assoc, assoc2 (keyToks x.pd), assoc2 (keyToks y.pd), lex_pre, lex_pre]
    by_cases e : NestedKey.beq x.key y.key = true
    · rw [if_pos e] at w
      have exy := beq_same h1.1 h2.1 e
      subst exy
      rw [lex_pre, lex_pre]
      exact toksL_wk xs ys m n h1.2 h2.2 w (fun z => ne (by rw [z])) l k
    · rw [if_neg e] at w
      have nxy : x ≠ y := fun z => e (by rw [z]; exact NestedKey.beq_self _)
      rw [toks_wk x y m n h1.1 h2.1 w nxy, toks_wk x y m n h1.1 h2.1 w nxy]
end
theorem ltL_yes {x : D} {xs ys : List D} : PyProof.Rows.lexLt itemOrd (keyToksAll (D.pds (x :: xs))) (keyToksAll (D.pds (x :: ys))) = PyProof.Rows.lexLt itemOrd (keyToksAll (D.pds xs)) (keyToksAll (D.pds ys)) := by
  rw [pds_cons, pds_cons, toks_all_cons, toks_all_cons]
  have assoc2 : ∀ (b : List (Int ⊕ List Nat)), Sum.inl 1 :: (keyToks x.pd ++ b) = (Sum.inl 1 :: keyToks x.pd) ++ b := fun b => rfl
  rw [assoc2, assoc2, lex_pre]
theorem ltL_no {x y : D} {xs ys : List D} {m n : Nat} (h1 : kyD m x = true) (h2 : kyD n y = true) (w : wkD x y = true) (ne : x ≠ y) : PyProof.Rows.lexLt itemOrd (keyToksAll (D.pds (x :: xs))) (keyToksAll (D.pds (y :: ys))) = ltD x y := by
  rw [pds_cons, pds_cons, toks_all_cons, toks_all_cons]
  have assoc2 : ∀ (a b : List (Int ⊕ List Nat)), Sum.inl 1 :: (a ++ b) = [Sum.inl 1] ++ (a ++ b) := fun a b => rfl
  rw [assoc2, assoc2, lex_pre, toks_wk x y m n h1 h2 w ne]; rfl

/-! ### the model's `<` of two tuples, item by item up to the first difference -/
inductive LexP (A : Around) (s : Shared) : List Value → List Value → Bool → Prop
  | nil (ws : List Value) : LexP A s [] ws (decide (0 < ws.length))
  | nil2 (v : Value) (vs : List Value) : LexP A s (v :: vs) [] false
  | yes {v w : Value} {vs ws : List Value} {k : Bool} : EqAt A s v w true → LexP A s vs ws k → LexP A s (v :: vs) (w :: ws) k
  | no {v w : Value} {vs ws : List Value} {k : Bool} : EqAt A s v w false → RcLt A s v w k → LexP A s (v :: vs) (w :: ws) k
theorem tupLt_walk (la lb : Addr) (us ws : Array Value) (nu nw : Nat) (du dw : Option Addr) (su sw : Array (Option Value)) (r : Bool) :
    Meets (Builtin.«tuple.__lt__» ⟨[.ref la, .ref lb], []⟩) (fun A R s =>
      s.heap.get? la = some { cls := .type "tuple", dict := du, data := .seq us nu, slots := su } ∧
      s.heap.get? lb = some { cls := .type "tuple", dict := dw, data := .seq ws nw, slots := sw } ∧
      LexP A.in1 s us.toList ws.toList r ∧ R (.ok (.ret (.bool r))) s) := by
  refine .of_wp fun prog w A R s hyp => ?_
  obtain ⟨hp, g, d, tk, os⟩ := s
  obtain ⟨ha, hb, hx, hR⟩ := hyp
  have isSub := AutoSeq1.sub_tuple_tuple
  wp_walk using AutoSeq1.wpAny_loadPart' ha, AutoSeq1.wpAny_loadPart' hb, wpAny_forIn_list _ (fun todo acc s' => acc.1 = none ∧ s' = ⟨hp, g, d, tk, os⟩ ∧
    ∃ ps qs : List Value, todo = ps.zip qs ∧ LexP A.in1 ⟨hp, g, d, tk, os⟩ ps qs r ∧ (us.size < ws.size ↔ ps.length < qs.length)) _
  case turn =>
    rintro ⟨y, x⟩ todo acc s' ⟨hacc, rfl, ps, qs, hz, hL, hn⟩
    cases hL with
    | nil => cases hz
    | nil2 => cases hz
    | yes he hL =>
      injection hz with h1 h2
      cases h1
      refine wpAny_bind (he prog w _ _ ?_)
      wp_walk
      exact ⟨rfl, rfl, _, _, h2, hL, by rw [hn]; simp⟩
    | no he hr =>
      injection hz with h1 h2
      cases h1
      refine wpAny_bind (he prog w _ _ ?_)
      have hr := hr prog w
      generalize richCompare .Lt y x = rc at hr ⊢
      wp_walk
      refine hr _ _ ?_
      wp_walk
      exact ⟨_, rfl, hR⟩
  case fin =>
    rintro ⟨b1, b2⟩ s' ⟨hacc, rfl, ps, qs, hz, hL, hn⟩
    simp only at hacc
    subst hacc
    have er : r = decide (us.size < ws.size) := by
      cases hL with
      | nil => rw [Bool.eq_iff_iff, decide_eq_true_eq, decide_eq_true_eq, hn]; simp
      | nil2 => symm; rw [decide_eq_false_iff_not, hn]; simp
      | yes => cases hz
      | no => cases hz
    subst er
    wp_walk
    exact ⟨_, rfl, by simpa [Builtin.Tuple.tupleCompareSizes] using hR⟩
  case h =>
    exact ⟨rfl, rfl, _, _, rfl, hx, by simp⟩
section
variable {prog : Program} {w : World} {A : Around} {E : Value → Shared → Prop} {s : Shared}
theorem rc_tupLt {la lb : Addr} {us ws : Array Value} {r : Bool} (ha : s.heap.IsTuple la us) (hb : s.heap.IsTuple lb ws) (hu : A.units < cLine) (hx : LexP A.in1 s us.toList ws.toList r) : RcLt A s (.ref la) (.ref lb) r := fun prog w E Q h => by
  obtain ⟨⟨c1, d1, t1, s1⟩, o1, e1, n1, f1⟩ := id ha
  obtain ⟨⟨c2, d2, t2, s2⟩, o2, e2, n2, f2⟩ := id hb
  simp only at e1 f1 e2 f2
  subst e1 f1 e2 f2
  exact richCompare_meets_room (op := .Lt) ⟨_, o1, rfl⟩ ⟨_, o2, rfl⟩ F.slot_tuple_lt F.entry_tuple_lt (F.args_tuple_lt_2 _ _) (tupLt_walk la lb us ws n1 n2 d1 d2 s1 s2 r)
    ⟨o1, o2, hx, show Value.bool r ≠ Value.notImplemented ∧ Q (.bool r) s from ⟨(fun x => nomatch x), h⟩⟩ hu
end
end U

set_option Elab.async false
set_option linter.all false
set_option maxRecDepth 100000
set_option maxHeartbeats 1000000
/-! TB: sorting tuples that are alike up to their first difference. -/
namespace U
open PySem PySem.Spec PyProof.Rows L2 PySem.SeqAt
open PySem.W (dataLt keyToks keyToksAll lex_pre toks_all_cons EachIs kas_first_eq kas_mapM)

mutual
theorem reads_key {h : Heap} : ∀ (d : D) (n : Nat) (v : Value) (as : List Addr), kyD n d = true → Reads h v d.pd as → NestedIs h d.key v
  | .int i, _, _, _, _, r => by cases r; exact .int _ _
  | .str i, _, _, _, _, r => by cases r; exact .text _ _
  | .tup ds, 0, _, _, q, _ => by simp [kyD] at q
  | .tup ds, n + 1, _, _, q, r => by
    simp only [D.pd] at r
    cases r with
    | tuple h1 h2 h3 h4 => exact .tup h1 h2 h3 (reads_keys ds n _ _ (by simpa only [kyD] using q) h4)
  | .non, n, _, _, h, _ | .bl _, n, _, _, h, _ | .lst _, n, _, _, h, _ | .loc _, n, _, _, h, _ | .ty _, n, _, _, h, _ => by cases n <;> simp [kyD] at h
theorem reads_keys {h : Heap} : ∀ (ds : List D) (n : Nat) (vs : List Value) (as : List Addr), ds.all (kyD n) = true → ReadsAll h vs (D.pds ds) as → NestedAll h (D.keys ds) vs
  | [], _, _, _, _, r => by simp only [D.pds] at r; cases r; exact .nil
  | d :: ds, n, _, _, q, r => by
    rw [List.all_cons, Bool.and_eq_true] at q
    simp only [D.pds] at r
    cases r with
    | cons r1 r2 => exact .cons (reads_key d n _ _ q.1 r1) (reads_keys ds n _ _ q.2 r2)
end
mutual
theorem ky_pdepth : ∀ (d : D) (n : Nat), kyD n d = true → d.pd.depth ≤ n
  | .int _, _, _ => by simp [D.pd, PyData.depth]
  | .str _, _, _ => by simp [D.pd, PyData.depth]
  | .tup ds, 0, h => by simp [kyD] at h
  | .tup ds, n + 1, h => by
    have := kys_pdepth ds n (by simpa only [kyD] using h)
    simp only [D.pd, PyData.depth]; omega
  | .non, n, h | .bl _, n, h | .lst _, n, h | .loc _, n, h | .ty _, n, h => by cases n <;> simp [kyD] at h
theorem kys_pdepth : ∀ (ds : List D) (n : Nat), ds.all (kyD n) = true → PyData.depthAll (D.pds ds) ≤ n
  | [], _, _ => by simp [D.pds, PyData.depthAll]
  | d :: ds, n, h => by
    rw [List.all_cons, Bool.and_eq_true] at h
    have h1 := ky_pdepth d n h.1
    have h2 := kys_pdepth ds n h.2
    simp only [D.pds, PyData.depthAll]; omega
end
mutual
theorem reads_nil {h : Heap} : ∀ (d : D) (n : Nat) (v : Value) (as : List Addr), kyD n d = true → Reads h v d.pd as → as = []
  | .int i, _, _, _, _, r => by cases r; rfl
  | .str i, _, _, _, _, r => by cases r; rfl
  | .tup ds, 0, _, _, q, _ => by simp [kyD] at q
  | .tup ds, n + 1, _, _, q, r => by
    simp only [D.pd] at r
    cases r with
    | tuple h1 h2 h3 h4 => exact reads_nils ds n _ _ (by simpa only [kyD] using q) h4
  | .non, n, _, _, h, _ | .bl _, n, _, _, h, _ | .lst _, n, _, _, h, _ | .loc _, n, _, _, h, _ | .ty _, n, _, _, h, _ => by cases n <;> simp [kyD] at h
theorem reads_nils {h : Heap} : ∀ (ds : List D) (n : Nat) (vs : List Value) (as : List Addr), ds.all (kyD n) = true → ReadsAll h vs (D.pds ds) as → as = []
  | [], _, _, _, _, r => by simp only [D.pds] at r; cases r; rfl
  | d :: ds, n, _, _, q, r => by
    rw [List.all_cons, Bool.and_eq_true] at q
    simp only [D.pds] at r
    cases r with
    | cons r1 r2 => rw [reads_nil d n _ _ q.1 r1, reads_nils ds n _ _ q.2 r2]; rfl
end


/-! ### `<` -/
mutual
theorem alike_self : ∀ (d : D) (n : Nat), kyD n d = true → PySem.W.alike d.pd d.pd = true
  | .int _, _, _ => rfl
  | .str _, _, _ => rfl
  | .tup ds, 0, h => by simp [kyD] at h
  | .tup ds, n + 1, h => by
    have := alikes_self ds n (by simpa only [kyD] using h)
    simpa only [D.pd, PySem.W.alike] using this
  | .non, n, h | .bl _, n, h | .lst _, n, h | .loc _, n, h | .ty _, n, h => by cases n <;> simp [kyD] at h
theorem alikes_self : ∀ (ds : List D) (n : Nat), ds.all (kyD n) = true → PySem.W.alikeAll (D.pds ds) (D.pds ds) = true
  | [], _, _ => by simp [D.pds, PySem.W.alikeAll]
  | d :: ds, n, h => by
    rw [List.all_cons, Bool.and_eq_true] at h
    simp only [D.pds, PySem.W.alikeAll, Bool.and_eq_true]
    exact ⟨alike_self d n h.1, alikes_self ds n h.2⟩
end
mutual
theorem rc_wk : ∀ (x y : D) (m n : Nat) (A : Around) (s : Shared) (a b : Value) (as bs : List Addr), kyD m x = true → kyD n y = true → Reads s.heap a x.pd as → Reads s.heap b y.pd bs → wkD x y = true → A.units + m < cLine → RcLt A s a b (ltD x y)
  | .int i, y, m, n, A, s, a, b, as, bs, _, _, ra, rb, w, hu => by
    cases y with
    | int j => exact PySem.W.rcLt_alike (.int i) (.int j) A s a b as bs ra rb rfl (fun e => nomatch e) (by simp only [PyData.depth, Nat.min_self]; omega)
    | _ => simp [wkD] at w
  | .str i, y, m, n, A, s, a, b, as, bs, _, _, ra, rb, w, hu => by
    cases y with
    | str j => exact PySem.W.rcLt_alike (.str i) (.str j) A s a b as bs ra rb rfl (fun e => nomatch e) (by simp only [PyData.depth, Nat.min_self]; omega)
    | _ => simp [wkD] at w
  | .tup xs, y, m, n, A, s, a, b, as, bs, h1, h2, ra, rb, w, hu => by
    cases y with
    | tup ys =>
      cases m with
      | zero => simp [kyD] at h1
      | succ m =>
        cases n with
        | zero => simp [kyD] at h2
        | succ n =>
          simp only [D.pd] at ra rb
          cases ra with
          | tuple a1 a2 a3 a4 =>
            cases rb with
            | tuple b1 b2 b3 b4 =>
              exact rc_tupLt ⟨_, a1, a2, _, a3⟩ ⟨_, b1, b2, _, b3⟩ (by omega) (lexP_wk xs ys m n A.in1 s _ _ _ _ (by simpa only [kyD] using h1) (by simpa only [kyD] using h2) a4 b4 (by rw [← wkD_tup]; exact w) (by rw [Around.in1_units]; omega))
    | _ => simp [wkD] at w
  | .non, _, _, _, _, _, _, _, _, _, _, _, _, _, w, _ | .bl _, _, _, _, _, _, _, _, _, _, _, _, _, _, w, _ | .lst _, _, _, _, _, _, _, _, _, _, _, _, _, _, w, _ | .loc _, _, _, _, _, _, _, _, _, _, _, _, _, _, w, _ | .ty _, _, _, _, _, _, _, _, _, _, _, _, _, _, w, _ => by simp [wkD] at w
theorem lexP_wk : ∀ (xs ys : List D) (m n : Nat) (A : Around) (s : Shared) (vs ws : List Value) (as bs : List Addr), xs.all (kyD m) = true → ys.all (kyD n) = true → ReadsAll s.heap vs (D.pds xs) as → ReadsAll s.heap ws (D.pds ys) bs → wkL xs ys = true → A.units + m < cLine → LexP A s vs ws (PyProof.Rows.lexLt itemOrd (keyToksAll (D.pds xs)) (keyToksAll (D.pds ys)))
  | [], ys, m, n, A, s, vs, ws, as, bs, _, _, ra, rb, _, _ => by
    simp only [D.pds] at ra
    cases ra
    have e : PyProof.Rows.lexLt itemOrd (keyToksAll (D.pds [])) (keyToksAll (D.pds ys)) = decide (0 < ws.length) := by
      cases ys with
      | nil => simp only [D.pds] at rb; cases rb; exact lex_irrefl _
      | cons y ys =>
        rw [pds_cons] at rb ⊢
        cases rb
        rw [toks_all_cons]
        exact (lex_diff (O := itemOrd) (x := Sum.inl 0) (y := Sum.inl 1) (by simp)).trans rfl
    rw [e]; exact .nil ws
  | x :: xs, [], m, n, A, s, vs, ws, as, bs, _, _, ra, rb, _, _ => by
    rw [pds_cons] at ra
    simp only [D.pds] at rb
    cases ra
    cases rb
    have e : PyProof.Rows.lexLt itemOrd (keyToksAll (D.pds (x :: xs))) (keyToksAll (D.pds [])) = false := by
      rw [pds_cons, toks_all_cons]
      exact (lex_diff (O := itemOrd) (x := Sum.inl 1) (y := Sum.inl 0) (by simp)).trans rfl
    rw [e]; exact .nil2 _ _
  | x :: xs, y :: ys, m, n, A, s, vs, ws, as, bs, h1, h2, ra, rb, w, hu => by
    rw [List.all_cons, Bool.and_eq_true] at h1 h2
    rw [wkL_cons] at w
    rw [pds_cons] at ra rb
    cases ra with
    | cons r1 r2 =>
      cases rb with
      | cons q1 q2 =>
        have eq := eqAt_key x.key y.key A s _ _ (reads_key x m _ _ h1.1 r1) (reads_key y n _ _ h2.1 q1) (by have := ky_depth x m h1.1; omega)
        by_cases e : NestedKey.beq x.key y.key = true
        · rw [if_pos e] at w
          rw [e] at eq
          have exy := beq_same h1.1 h2.1 e
          subst exy
          rw [ltL_yes]
          exact .yes eq (lexP_wk xs ys m n A s _ _ _ _ h1.2 h2.2 r2 q2 w hu)
        · rw [if_neg e] at w
          rw [Bool.eq_false_iff.mpr e] at eq
          rw [ltL_no h1.1 h2.1 w fun z => e (by rw [z]; exact NestedKey.beq_self _)]
          exact .no eq (rc_wk x y m n A s _ _ _ _ h1.1 h2.1 r1 q1 w hu)
end
section
variable {prog : Program} {w : World} {A : Around} {E : Value → Shared → Prop} {s : Shared}
end

/-! ### the kind of the keys, and all of it as list.sort asks it -/
section
variable {M : Model} {A : Around} {E : Value → Shared → Prop} {s : Shared}
end

/-! ### the order on the values -/
structure SrtB (B : List Ent) : Prop where
  ky : ∀ p ∈ B, kyD 8 p.2 = true
  wk : ∀ p ∈ B, ∀ q ∈ B, wkD p.2 q.2 = true
  tp : ∀ p ∈ B, ∃ xs, p.2 = .tup xs
theorem SrtB.inj {B : List Ent} (b : SrtB B) {h : Heap} (rd : ∀ p ∈ B, ∃ as, Reads h (.ref p.1) p.2.pd as) : ∀ p ∈ B, ∀ q ∈ B, p.1 = q.1 → p.2 = q.2 := fun p hp q hq e => by
  obtain ⟨as, r⟩ := rd p hp
  obtain ⟨bs, r2⟩ := rd q hq
  rw [e] at r
  exact key_inj p.2 q.2 8 8 (b.ky p hp) (b.ky q hq) (NestedIs.inj _ _ _ (reads_key _ 8 _ _ (b.ky p hp) r) (reads_key _ 8 _ _ (b.ky q hq) r2))
section
variable {prog : Program} {w : World} {A : Around} {E : Value → Shared → Prop} {s : Shared}
end
end U

set_option Elab.async false
set_option linter.all false
set_option maxRecDepth 100000
set_option maxHeartbeats 2000000
/-! I6: a set of any size (up to the line) walked, gathered into a list. -/
namespace U
open PySem PySem.Spec PyProof.Rows L2
section
variable {P : Program} {w : World} {A : Around} {X : Value → Shared → Prop} {z : Shared} {b : Addr} {rs : Array (Int × Value)} {n : Nat} {tb : SetTable}
end
end U

set_option Elab.async false
set_option linter.all false
set_option maxRecDepth 100000
set_option maxHeartbeats 1000000
/-! T4: the order of nested tuples; sorted(list), sorted(set(list)) at the model's level. -/
namespace U
open PySem PySem.Spec PyProof.Rows L2

/-! ### the plain order -/
def srt (ds : List D) : List D := ds.mergeSort leD
/-- each key once -/
def dst : List D → List D
  | [] => []
  | d :: ds => if d.key ∈ ds.map D.key then dst ds else d :: dst ds
def srtU (ds : List D) : List D := srt (dst ds)
def alikeB (ds : List D) : Bool := ds.all fun x => ds.all fun y => wkD x y
def neT : D → Bool
  | .tup _ => true
  | _ => false
def okSrt (ds : List D) : Bool := ds.all (kyD 8) && alikeB ds && (decide (ds.length ≤ 1) || ds.all neT)
structure SrtOk (ds : List D) : Prop where
  ky : ∀ x ∈ ds, kyD 8 x = true
  al : ∀ x ∈ ds, ∀ y ∈ ds, wkD x y = true
  ne : ds.length ≤ 1 ∨ ∀ x ∈ ds, ∃ xs, x = .tup xs
theorem SrtOk.sub {ds es : List D} (h : SrtOk ds) (s : ∀ x ∈ es, x ∈ ds) (l : es.length ≤ ds.length) : SrtOk es := ⟨fun x hx => h.ky x (s x hx), fun x hx y hy => h.al x (s x hx) y (s y hy), h.ne.imp (fun q => Nat.le_trans l q) fun q x hx => q x (s x hx)⟩
/-! ### reading -/
section
variable {P : Program} {w : World} {A : Around} {E : Value → Shared → Prop} {s : Shared}
end
end U

set_option Elab.async false
set_option linter.all false
set_option maxRecDepth 100000
set_option maxHeartbeats 1000000
/-! T5: sorted(e), sorted(set(e)) by data; defs that return a new list. -/
namespace U
open PySem PySem.Spec PyProof.Rows L2

/-! ### reading what is known -/
section
variable {K : PySem.W.Frag} {hid : List Addr} {H : Hp} {M : Mu}
mutual
theorem ky_dp : ∀ (d : D) (n : Nat) (v : V), kyD n d = true → Rv K hid H M v d → Dp K H v d.pd
  | .int i, _, _, _, h => by cases h; exact .int i
  | .str x, _, _, _, h => by cases h; exact .str x
  | .tup ds, 0, _, q, h => by simp [kyD] at q
  | .tup ds, n + 1, _, q, h => by
    cases h with
    | tup h r => exact .tup h (kys_dp ds n _ (by simpa only [kyD] using q) r)
  | .non, n, _, q, _ | .bl _, n, _, q, _ | .lst _, n, _, q, _ | .loc _, n, _, q, _ | .ty _, n, _, q, _ => by cases n <;> simp [kyD] at q
theorem kys_dp : ∀ (ds : List D) (n : Nat) (vs : List V), ds.all (kyD n) = true → Rvs K hid H M vs ds → DpAll K H vs (D.pds ds)
  | [], _, _, _, h => by cases h; exact .nil
  | d :: ds, n, _, q, h => by
    cases h with
    | cons h r =>
      rw [List.all_cons, Bool.and_eq_true] at q
      exact .cons (ky_dp d n _ q.1 h) (kys_dp ds n _ q.2 r)
end
def isTup : D → Bool
  | .tup _ => true
  | _ => false
end

/-! ### the model's calls -/
section
variable {P : Program} {w : World} {A : Around} {E : Value → Shared → Prop} {s : Shared}
end

/-! ### at a place of a def -/
section
variable {X : Cx} {k : Nat}
/-- what sorted asks of its list -/
structure SrtAt (K : PySem.W.Frag) (H : Hp) (a : Addr) (B : List Ent) : Prop where
  sq : SqL K H a (B.map fun p => V.ref p.1)
  dp : ∀ p ∈ B, Dp K H (.ref p.1) p.2.pd
  ok : SrtOk (B.map (·.2))
end

/-! ### by data -/
/-- at most n different keys -/
def FewD (n : Nat) (es : List D) : Prop := ∀ l : List D, (∀ x ∈ l, x ∈ es) → (l.map D.key).Nodup → l.length ≤ n
open Classical in
noncomputable def okQ (n : Nat) (es : List D) : Bool := okSrt es && es.all isTup && decide (FewD n es)
def fSrt (fa : FA) : FL := fun xw ρ M Q => fa xw ρ M fun ds M1 => match ds with
  | [d] => (match lstOf M1 d with
    | some es => okQ 19660 es = true ∧ Q (srt es) M1
    | none => False)
  | _ => False
def fSrtU (f : FE) : FL := fun xw ρ M Q => f xw ρ M fun d M1 => match lstOf M1 d with
  | some es => okQ 19660 es = true ∧ Q (srtU es) M1
  | none => False
section
variable {K : PySem.W.Frag} {T hid : List Addr} {H : Hp} {M : Mu}
variable {X : Cx} {W : WX} {k : Nat}
end
section
variable {P : Program} {w : World} {K : PySem.W.Frag} {mg : Str → Option Value} {base : Heap} {N : List Str} {sc : Scope} {fn : Str → Bool} {k : Nat} {W : WX} {X : Cx} {T : List Addr} {e : Expr} {fs : FA} {f : FE} {p p2 q pos : Pos}
end

/-! ### defs that return a new list -/
abbrev LSpec := List D → Mu → (List D → Mu → Prop) → XW → Prop
def spOfL (K : PySem.W.Frag) (T : List Addr) (S : LSpec) : Sp := fun vs H Q E => ∃ hid ds M Qd xw, Sto K T hid H M ∧ Rvs K hid H M vs ds ∧ S ds M Qd xw ∧ PstL K T hid H M Qd Q ∧
  ∀ cls dd H' M' xd, Sto K T hid H' M' → Ext hid H M H' M' → XR K hid H' M' cls dd xd → xw xd M' → E cls dd H'
structure FnL (P : Program) (w : World) (K : PySem.W.Frag) (mg : Str → Option Value) (base : Heap) (T : List Addr) (k : Nat) (x : Str) (S : LSpec) : Prop where
  ex : ∃ f fd ps, mg x = some (.ref f) ∧ PySem.W.keepIn K (.ref f) = true ∧ Binds K fd ps [] ∧ FnOk P w K mg base (L2.CX P w) k f fd ps (spOfL K T S)
theorem FnL.mono {P : Program} {w : World} {K : PySem.W.Frag} {mg : Str → Option Value} {base : Heap} {T : List Addr} {j k : Nat} {x : Str} {S : LSpec} (F : FnL P w K mg base T j x S) (h : j ≤ k) : FnL P w K mg base T k x S :=
  let ⟨f, fd, ps, a, b, c, d⟩ := F.ex; ⟨f, fd, ps, a, b, c, d.mono h⟩
def fCallL (S : LSpec) (fa : FA) : FL := fun xw ρ M Q => fa xw ρ M fun ds M1 => S ds M1 Q xw
/-- return of a new list -/
def fRetL (f : FL) : FS := fun E ρ M => f (xwAt E ρ) ρ M fun ds M1 => ∀ p, M p = none → M1 p = none → E.rt (.loc p) (mset M1 p (.lst ds))
section
variable {X : Cx} {T : List Addr} {W : WX}
end
def bodyL (N : List Str) (f : FS) (ds : List D) (M : Mu) (Q : List D → Mu → Prop) (xw : XW) : Prop :=
  f { nx := fun _ _ => False, rt := fun d M' => ∃ a es, d = .loc a ∧ M a = none ∧ M' a = some (.lst es) ∧ Q es (mres M' M), xw := fun xd _ M' => xw xd (mres M' M) } (zi N ds) M
section
variable {P : Program} {w : World} {K : PySem.W.Frag} {mg : Str → Option Value} {base : Heap} {N ps : List Str} {sc : Scope} {k : Nat} {T : List Addr}
variable {fn : Str → Bool} {W : WX} {X : Cx}
end
end U

set_option Elab.async false
set_option linter.all false
set_option maxRecDepth 100000
set_option maxHeartbeats 1000000
/-! U20: sorted({e for x in xs}): sets of nested tuples made by a comprehension. -/
namespace U
open PySem PySem.Spec PyProof.Rows L2

/-! ### the set while it is made -/
/-- what is known of the set's own object -/
def SNr (w : World) (h : Heap) (S : Addr) (L : List Ent) : Prop := ∃ rows e tb, (∃ u, h.get? S = some u ∧ u.ExactSet ∧ u.data = .set rows e tb) ∧ rows.toList = erow w L ∧ TabK tb (L.map fun p => p.2.key.hash w) ∧ (L.map fun p => p.2.key).Nodup ∧
  (w.params.followText "set-order" = true ∨ tb.led = true) ∧ L.length * 5 < tb.mask * 3 ∧ L.length ≤ 19660
theorem SN.r {w : World} {h : Heap} {S : Addr} {L : List Ent} {rows : Array (Int × Value)} {e : Nat} {tb : SetTable} (R : SN w h S L rows e tb) : SNr w h S L := ⟨rows, e, tb, R.obj, R.row, R.tab, R.dis, R.led, R.low, R.few⟩
theorem SNr.full {w : World} {h : Heap} {S : Addr} {L : List Ent} (R : SNr w h S L) (k : ∀ p ∈ L, KAt h p.2.key p.1) : ∃ rows e tb, SN w h S L rows e tb :=
  let ⟨rows, e, tb, a, b, c, d, f, g, i⟩ := R
  ⟨rows, e, tb, a, b, c, d, k, f, g, i⟩
section
variable {X : Cx} {pins : List (Addr × Obj)} {σ : L2.St} {H : Hp} {s : Shared}
end

/-! ### the comprehension -/
section
variable {X : Cx}
end

/-! ### sorted of it -/
section
variable {X : Cx} {k : Nat}
end

/-! ### by data -/
def scGo (b : BD) (ft : FT) (fe : FE) (ρ : Env') : List D → List D → Mu → (List D → Mu → Prop) → Prop
  | [], acc, M, Q => Q acc M
  | d :: ds, acc, M, Q => match b d ρ with
    | some ρ2 => ft xF ρ2 M fun c M1 => if c = true then fe xF ρ2 M1 fun y M2 => (isTup y && kyD 8 y) = true ∧ acc.length < 19660 ∧ scGo b ft fe ρ ds (acc ++ [y]) M2 Q else scGo b ft fe ρ ds acc M1 Q
    | none => False
def fSrtS (fi : FI) (b : BD) (ft : FT) (fe : FE) (vs : List Nat) : FL := fun xw ρ M Q => fi xw ρ M fun ds M1 => scGo b ft fe (wipeE ρ vs) ds [] M1 fun es M2 => okQ 19660 es = true ∧ Q (srtU es) M2
section
variable {K : PySem.W.Frag} {T hid : List Addr} {H : Hp} {M : Mu}
theorem Car.whidX {S : Addr} {φ : Heap → Prop} {o : HO} (h : H S = some (.ext φ)) : Car K (S :: hid) H M (S :: hid) (upd H S o) M := by
  have other : ∀ {a : Addr} {z : HO}, H a = some z → (∀ ψ, z ≠ .ext ψ) → upd H S o a = some z := fun {a z} e n => by
    rw [upd_ne fun q => ?_]
    · exact e
    · rw [q, h] at e; exact n φ (Option.some.inj e).symm
  refine ⟨fun a ys q => ?_, fun a ys q => ?_, fun a ⟨ob, u, q, d⟩ => ⟨ob, u, other q fun _ z => (nomatch z), d⟩⟩
  · rcases q with (q | ⟨ob, q⟩) | q
    · exact .inl (.inl (other q fun _ z => nomatch z))
    · exact .inl (.inr ⟨ob, other q fun _ z => nomatch z⟩)
    · exact .inr q
  · rcases q with ⟨h1, h2, h3⟩ | ⟨ob, q⟩ | q
    · exact .inl ⟨other h1 fun _ z => (nomatch z), h2, h3⟩
    · exact .inr (.inl ⟨ob, other q fun _ z => nomatch z⟩)
    · exact .inr (.inr q)
theorem Sto.whidX {S : Addr} {φ ψ : Heap → Prop} (s : Sto K T (S :: hid) H M) (h : H S = some (.ext φ)) : Sto K T (S :: hid) (upd H S (.ext ψ)) M := by
  refine ⟨fun a m q => (s.mem a m q).car (Car.whidX h) (upd_ne (s.lst_at List.mem_cons_self q)), fun P hP => ?_, fun a ha => ?_⟩
  · exact (s.tab P hP).upd fun u e => by rw [h] at e; cases e; exact ⟨fun _ z => (nomatch z), fun _ _ z => (nomatch z)⟩
  · obtain ⟨h1, h2⟩ := s.hidn a ha
    refine ⟨h1, ?_⟩
    by_cases e : a = S
    · subst e; rw [upd_same]; exact fun z => nomatch z
    · rw [upd_ne e]; exact h2
end
section
variable {X : Cx} {T : List Addr} {W : WX} {k : Nat}
end
section
variable {P : Program} {w : World} {K : PySem.W.Frag} {mg : Str → Option Value} {base : Heap} {N : List Str} {sc : Scope} {fn : Str → Bool} {k : Nat} {W : WX} {X : Cx} {T : List Addr} {p p2 pos : Pos}
end
end U

set_option Elab.async false
set_option linter.all false
set_option maxRecDepth 100000
set_option maxHeartbeats 1000000
/-! V1: the terms computed: rewriting rules from the head on; loops by induction. -/
namespace U
open PySem PySem.Spec PyProof.Rows L2

/-- what is not to be read yet -/
inductive Ky {α : Type} (a : α) : Type where
  | mk : Ky a
/-- a test whose answer is at hand; the branches stay unread -/
def IfS (b : Bool) (f g : FS) {E : FEnds} (_ : Ky E) (ρ : Env') (M : Mu) : Prop := if b = true then f E ρ M else g E ρ M
theorem zj {f g : FS} {E : FEnds} {ρ : Env'} {M : Mu} : IfS true f g (.mk : Ky E) ρ M = f E ρ M := rfl
theorem zk {f g : FS} {E : FEnds} {ρ : Env'} {M : Mu} : IfS false f g (.mk : Ky E) ρ M = g E ρ M := rfl
theorem IfS_mk {b : Bool} {f g : FS} {E : FEnds} {ρ : Env'} {M : Mu} (h1 : b = true → f E ρ M) (h2 : b = false → g E ρ M) : IfS b f g (.mk : Ky E) ρ M := by
  cases b with
  | true => exact h1 rfl
  | false => exact h2 rfl
def IfE (b : Bool) (f g : FE) (xw : XW) (ρ : Env') (M : Mu) {Q : D → Mu → Prop} (_ : Ky Q) : Prop := if b = true then f xw ρ M Q else g xw ρ M Q
theorem zl {f g : FE} {xw : XW} {ρ : Env'} {M : Mu} {Q : D → Mu → Prop} : IfE true f g xw ρ M (.mk : Ky Q) = f xw ρ M Q := rfl
theorem zm {f g : FE} {xw : XW} {ρ : Env'} {M : Mu} {Q : D → Mu → Prop} : IfE false f g xw ρ M (.mk : Ky Q) = g xw ρ M Q := rfl
def AndT (b : Bool) (g : FT) (xw : XW) (ρ : Env') (M : Mu) {Q : Bool → Mu → Prop} (_ : Ky Q) : Prop := if b = true then g xw ρ M Q else Q false M
def OrT (b : Bool) (g : FT) (xw : XW) (ρ : Env') (M : Mu) {Q : Bool → Mu → Prop} (_ : Ky Q) : Prop := if b = true then Q true M else g xw ρ M Q
theorem zn {g : FT} {xw : XW} {ρ : Env'} {M : Mu} {Q : Bool → Mu → Prop} : AndT true g xw ρ M (.mk : Ky Q) = g xw ρ M Q := rfl
theorem zo {g : FT} {xw : XW} {ρ : Env'} {M : Mu} {Q : Bool → Mu → Prop} : AndT false g xw ρ M (.mk : Ky Q) = Q false M := rfl
theorem zp {g : FT} {xw : XW} {ρ : Env'} {M : Mu} {Q : Bool → Mu → Prop} : OrT true g xw ρ M (.mk : Ky Q) = Q true M := rfl
theorem zq {g : FT} {xw : XW} {ρ : Env'} {M : Mu} {Q : Bool → Mu → Prop} : OrT false g xw ρ M (.mk : Ky Q) = g xw ρ M Q := rfl
def AndV (d : D) (g : FE) (xw : XW) (ρ : Env') (M : Mu) {Q : D → Mu → Prop} (_ : Ky Q) : Prop := match d with
  | .bl b => if b = true then g xw ρ M Q else Q (.bl false) M
  | _ => False
def OrV (d : D) (g : FE) (xw : XW) (ρ : Env') (M : Mu) {Q : D → Mu → Prop} (_ : Ky Q) : Prop := match d with
  | .bl b => if b = true then Q (.bl true) M else g xw ρ M Q
  | _ => False
theorem zr {g : FE} {xw : XW} {ρ : Env'} {M : Mu} {Q : D → Mu → Prop} : AndV (.bl true) g xw ρ M (.mk : Ky Q) = g xw ρ M Q := rfl
theorem zt {g : FE} {xw : XW} {ρ : Env'} {M : Mu} {Q : D → Mu → Prop} : AndV (.bl false) g xw ρ M (.mk : Ky Q) = Q (.bl false) M := rfl
theorem zu {g : FE} {xw : XW} {ρ : Env'} {M : Mu} {Q : D → Mu → Prop} : OrV (.bl true) g xw ρ M (.mk : Ky Q) = Q (.bl true) M := rfl
theorem zv {g : FE} {xw : XW} {ρ : Env'} {M : Mu} {Q : D → Mu → Prop} : OrV (.bl false) g xw ρ M (.mk : Ky Q) = g xw ρ M Q := rfl
/-- a call: what follows stays unread -/
def CallS (S : FSpec) (ds : List D) (M : Mu) (xw : XW) {Q : D → Mu → Prop} (_ : Ky Q) : Prop := S ds M Q xw
/-- a loop at its head -/
def CallLS (S : LSpec) (ds : List D) (M : Mu) (xw : XW) {Q : List D → Mu → Prop} (_ : Ky Q) : Prop := S ds M Q xw
def ForS (b : BD) (f : FS) (ds : List D) {E : FEnds} (_ : Ky E) (ρ : Env') (M : Mu) : Prop := forGo b f ds E ρ M
def WhileS (c : FT) (f : FS) {E : FEnds} (_ : Ky E) (ρ : Env') (M : Mu) : Prop := fWhile c f E ρ M
def LcS (b : BD) (ft : FT) (fe : FE) (ρ : Env') (ds : List D) (M : Mu) {Q : List D → Mu → Prop} (_ : Ky Q) : Prop := lcGo b ft fe ρ ds [] M Q
def SumGS (b : BD) (fe : FE) (ρ : Env') (ds : List D) (M : Mu) {Q : D → Mu → Prop} (_ : Ky Q) : Prop := ∃ ns : List Int, GenI b fe ρ M ds ns ∧ Q (.int ns.sum) M
def GenS (k : List Bool → Bool) (b : BD) (fe : FE) (ρ : Env') (ds : List D) (M : Mu) {Q : D → Mu → Prop} (_ : Ky Q) : Prop := ∃ os, GenO b fe ρ M ds os ∧ Q (.bl (k os)) M
section
variable {f g : FS} {E : FEnds} {ρ : Env'} {M : Mu} {xw : XW} {Q : D → Mu → Prop} {QA : List D → Mu → Prop} {QB : Bool → Mu → Prop} {QO : Option Int → Mu → Prop} {fa fb fc : FE} {ga gb : FT} {ha : FA} {la : FL} {ia : FI} {oa ob : FO} {b : BD} {bs : BL} {i n : Nat} {d : D} {ds : List D} {G G' : G2} {C : GC} {S : FSpec} {vs : List Nat} {GI : Int → Int → Prop} {gi : Int → Int → D} {x y z : Int}
theorem zw : fThen f g E ρ M = f { E with nx := g E } ρ M := rfl
theorem zx : fPass E ρ M = E.nx ρ M := rfl
theorem zy : fBreak E ρ M = E.bk ρ M := rfl
theorem zz : fCont E ρ M = E.ct ρ M := rfl
theorem z9 : fExpr fa E ρ M = fa (xwAt E ρ) ρ M fun _ M1 => E.nx ρ M1 := rfl
theorem ya : fRet fa E ρ M = fa (xwAt E ρ) ρ M E.rt := rfl
theorem wb : fRetL la E ρ M = la (xwAt E ρ) ρ M fun ds M1 => ∀ p, M p = none → M1 p = none → E.rt (.loc p) (mset M1 p (.lst ds)) := rfl
theorem yb : fRetN E ρ M = E.rt .non M := rfl
theorem yc : fIfS ga f g E ρ M = ga (xwAt E ρ) ρ M fun b M1 => IfS b f g (.mk : Ky E) ρ M1 := rfl
theorem yd : fSet i fa E ρ M = fa (xwAt E ρ) ρ M fun d M1 => E.nx (ρ.set i (some d)) M1 := rfl
theorem ye : fOwn i la E ρ M = la (xwAt E ρ) ρ M fun ds M1 => ∀ p, M p = none → M1 p = none → E.nx (ρ.set i (some (.loc p))) (mset M1 p (.lst ds)) := rfl
theorem yf : fAsg fa b E ρ M = fa (xwAt E ρ) ρ M fun d M1 => match b d ρ with
  | some ρ1 => E.nx ρ1 M1
  | none => False := rfl
theorem yg : fSetIx fa fb fc E ρ M = fc (xwAt E ρ) ρ M fun v M1 => fa (xwAt E ρ) ρ M1 fun o M2 => fb (xwAt E ρ) ρ M2 fun i M3 => gSetIx o i v M3 fun M4 => E.nx ρ M4 := rfl
theorem yh {a : Addr} {v : D} {k : Mu → Prop} : gSetIx (.loc a) (.int z) v M k = (match M a with
    | some (.lst ds) => (match ixN ds.length z with
      | some j => k (mset M a (.lst (ds.set j v)))
      | none => False)
    | _ => False) := rfl
theorem yi : fAug i G fa E ρ M = (match ρ[i]? with
  | some (some d) => fa (xwAt E ρ) ρ M fun y M1 => G d y M1 fun z M2 => E.nx (ρ.set i (some z)) M2
  | _ => False) := rfl
theorem yj : gIadd (.int x) (.int y) M Q = Q (.int (x + y)) M := rfl
theorem yl {as bs : List D} : gIadd (.tup as) (.tup bs) M Q = (as.length + bs.length ≤ sizeLine ∧ Q (.tup (as ++ bs)) M) := rfl
theorem yk {a : Addr} : gIadd (.loc a) d M Q = (match M a, lstOf M d with
    | some (.lst ds), some es => ds.length + es.length ≤ sizeLine ∧ Q (.loc a) (mset M a (.lst (ds ++ es)))
    | _, _ => False) := rfl
theorem ym : fFrz i f E ρ M = (match ρ[i]? with
  | some (some (.loc a)) => (match M a with
    | some (.lst ds) => f E (ρ.set i (some (.lst ds))) (mdel M a)
    | _ => False)
  | _ => False) := rfl
theorem yn : fFor ia b f E ρ M = ia (xwAt E ρ) ρ M fun ds M1 => ForS b f ds (.mk : Ky E) ρ M1 := rfl
theorem yo : fWhile ga f E ρ M = WhileS ga f (.mk : Ky E) ρ M := rfl
/-! expressions -/
theorem yp : fNm i xw ρ M Q = (match ρ[i]? with
  | some (some d) => Q d M
  | _ => False) := rfl
theorem eC : fC d xw ρ M Q = Q d M := rfl
theorem yq : fOp G fa fb xw ρ M Q = fa xw ρ M fun x M1 => fb xw ρ M1 fun y M2 => G x y M2 Q := rfl
theorem eB : fB fa xw ρ M QB = fa xw ρ M fun d M1 => match d with
  | .bl b => QB b M1
  | _ => False := rfl
theorem yr : fTr fa xw ρ M QB = fa xw ρ M fun d M1 => trD M1 d fun b => QB b M1 := rfl
theorem yt {b : Bool} {Q : Bool → Prop} : trD M (.bl b) Q = Q b := rfl
theorem yu {Q : Bool → Prop} : trD M (.int x) Q = Q (x != 0) := rfl
theorem yw {Q : Bool → Prop} : trD M .non Q = Q false := rfl
theorem yx {Q : Bool → Prop} : trD M (.tup ds) Q = Q (!ds.isEmpty) := rfl
theorem yy {Q : Bool → Prop} : trD M (.lst ds) Q = Q (!ds.isEmpty) := rfl
theorem yz {a : Addr} {Q : Bool → Prop} : trD M (.loc a) Q = (match M a with
    | some (.lst ds) => Q (!ds.isEmpty)
    | _ => False) := rfl
theorem y5 : fAnd ga gb xw ρ M QB = ga xw ρ M fun c M1 => AndT c gb xw ρ M1 (.mk : Ky QB) := rfl
theorem y6 : fOr ga gb xw ρ M QB = ga xw ρ M fun c M1 => OrT c gb xw ρ M1 (.mk : Ky QB) := rfl
theorem y8 : fNot ga xw ρ M QB = ga xw ρ M fun c M1 => QB (!c) M1 := rfl
theorem y9 : fAndV fa fb xw ρ M Q = fa xw ρ M fun d M1 => AndV d fb xw ρ M1 (.mk : Ky Q) := by
  rfl
theorem xa : fOrV fa fb xw ρ M Q = fa xw ρ M fun d M1 => OrV d fb xw ρ M1 (.mk : Ky Q) := by
  rfl
theorem xb : fNotV fa xw ρ M Q = fa xw ρ M fun d M1 => match d with
  | .bl b => Q (.bl (!b)) M1
  | _ => False := rfl
theorem xc : fIf ga fa fb xw ρ M Q = ga xw ρ M fun b M1 => IfE b fa fb xw ρ M1 (.mk : Ky Q) := rfl
theorem xg : fNil xw ρ M QA = QA [] M := rfl
theorem xh : fCons fa ha xw ρ M QA = fa xw ρ M fun d M1 => ha xw ρ M1 fun ds M2 => QA (d :: ds) M2 := rfl
theorem xi : fTup ha xw ρ M Q = ha xw ρ M fun ds M1 => ds.length ≤ sizeLine ∧ Q (.tup ds) M1 := rfl
theorem xj : fOfL la xw ρ M Q = la xw ρ M fun ds M1 => Q (.lst ds) M1 := rfl
theorem xk : fLstL ha xw ρ M QA = ha xw ρ M fun ds M1 => ds.length ≤ sizeLine ∧ QA ds M1 := rfl
theorem xl : fListL ha xw ρ M QA = ha xw ρ M fun ds M1 => match ds with
  | [d] => (match seqOf M1 d with
    | some es => QA es M1
    | none => False)
  | _ => False := rfl
theorem xm : fCatL fa fb xw ρ M QA = fa xw ρ M fun x M1 => fb xw ρ M1 fun y M2 => match lstOf M2 x, lstOf M2 y with
  | some a, some b => a.length + b.length ≤ sizeLine ∧ QA (a ++ b) M2
  | _, _ => False := rfl
def Lc2S (b : BD) (ft : FT) (fi1 : FI) (b1 : BD) (ft1 : FT) (fe : FE) (vs1 : List Nat) (ρ : Env') (ds : List D) (M : Mu) {Q : List D → Mu → Prop} (_ : Ky Q) : Prop := lc2Go b ft fi1 b1 ft1 fe vs1 ρ ds [] M Q
theorem xp {ib : FI} {b1 : BD} {gb : FT} {vs1 : List Nat} : fLc2 ia b ga ib b1 gb fa vs vs1 xw ρ M QA = ia xw ρ M fun ds M1 => Lc2S b ga ib b1 gb fa vs1 (wipeE ρ vs) ds M1 (.mk : Ky QA) := rfl
def ScS (b : BD) (ft : FT) (fe : FE) (ρ : Env') (ds : List D) (M : Mu) {Q : List D → Mu → Prop} (_ : Ky Q) : Prop := scGo b ft fe ρ ds [] M Q
theorem xo : fSrtS ia b ga fa vs xw ρ M QA = ia xw ρ M fun ds M1 => ScS b ga fa (wipeE ρ vs) ds M1 (.mk : Ky fun es M2 => okQ 19660 es = true ∧ QA (srtU es) M2) := rfl
theorem xn : fLc ia b ga fa vs xw ρ M QA = ia xw ρ M fun ds M1 => LcS b ga fa (wipeE ρ vs) ds M1 (.mk : Ky QA) := rfl
theorem xq : wipeE ρ [] = ρ := rfl
theorem xr : wipeE ρ (i :: vs) = (wipeE ρ vs).set i none := rfl
theorem xt : fSeq fa xw ρ M QA = fa xw ρ M fun d M1 => match d with
  | .tup ds => QA ds M1
  | .lst ds => QA ds M1
  | _ => False := rfl
theorem xu : fRng1 ha xw ρ M QA = ha xw ρ M fun ds M1 => match ds with
  | [.int j] => (-(2 ^ 62) ≤ j ∧ j < 2 ^ 62) ∧ QA (rngD 0 j.toNat) M1
  | _ => False := rfl
theorem xy : fRng2 ha xw ρ M QA = ha xw ρ M fun ds M1 => match ds with
  | [.int i, .int j] => (-(2 ^ 62) ≤ i ∧ i < 2 ^ 62 ∧ -(2 ^ 62) ≤ j ∧ j < 2 ^ 62) ∧ QA (rngD i (j - i).toNat) M1
  | _ => False := rfl
theorem xz : fCall S ha xw ρ M Q = ha xw ρ M fun ds M1 => CallS S ds M1 xw (.mk : Ky Q) := rfl
theorem x5 {S : LSpec} : fCallL S ha xw ρ M QA = ha xw ρ M fun ds M1 => CallLS S ds M1 xw (.mk : Ky QA) := rfl
theorem wc : fSrt ha xw ρ M QA = ha xw ρ M fun ds M1 => match ds with
  | [d] => (match lstOf M1 d with
    | some es => okQ 19660 es = true ∧ QA (srt es) M1
    | none => False)
  | _ => False := rfl
theorem wd : fSrtU fa xw ρ M QA = fa xw ρ M fun d M1 => match lstOf M1 d with
  | some es => okQ 19660 es = true ∧ QA (srtU es) M1
  | none => False := rfl
theorem x6 : fTIdx fa ha xw ρ M Q = fa xw ρ M fun o M1 => (match o with
  | .tup es => (match intsD es with
    | some ns => ha xw ρ M1 fun ds M2 => (match ds with
      | [.int z] => (match idxI ns z with
        | some j => Q (.int (j : Nat)) M2
        | none => False)
      | _ => False)
    | none => False)
  | _ => False) := rfl
theorem x7 : fAugIx fa fb fc E ρ M = fa (xwAt E ρ) ρ M fun o M1 => fb (xwAt E ρ) ρ M1 fun i M2 => (match o, i with
  | .loc a, .int z => (match M2 a with
    | some (.lst ds) => 0 ≤ z ∧ (match ds[z.toNat]? with
      | some (.int x) => fc (xwAt E ρ) ρ M2 fun y M3 => (match y, M3 a with
        | .int y, some (.lst es) => z < es.length ∧ E.nx ρ (mset M3 a (.lst (es.set z.toNat (.int (x + y)))))
        | _, _ => False)
      | _ => False)
    | _ => False)
  | _, _ => False) := rfl
theorem we : fCB C ha xw ρ M Q = ha xw ρ M fun ds M1 => C ds M1 Q := rfl
theorem wf : fNeg fa xw ρ M Q = fa xw ρ M fun d M1 => match d with
  | .int i => Q (.int (-i)) M1
  | _ => False := rfl
theorem wg : fChain G G' fa fb fc xw ρ M Q = fa xw ρ M fun x M1 => fb xw ρ M1 fun y M2 => G x y M2 fun z M3 => match z with
  | .bl k => if k = true then fc xw ρ M3 fun u M4 => G' y u M4 Q else Q (.bl false) M3
  | _ => False := rfl
theorem wh : fAppend fa ha xw ρ M Q = fa xw ρ M fun o M1 => (match o with
  | .loc a => (match M1 a with
    | some (.lst _) => ha xw ρ M1 fun ds M2 => (match ds with
      | [d] => (match M2 a with
        | some (.lst es) => es.length < sizeLine ∧ Q .non (mset M2 a (.lst (es ++ [d])))
        | _ => False)
      | _ => False)
    | _ => False)
  | _ => False) := rfl
theorem wj : fPop fa xw ρ M Q = fa xw ρ M fun o M1 => (match o with
  | .loc a => (match M1 a with
    | some (.lst es) => (match es.getLast? with
      | some d => Q d (mset M1 a (.lst es.dropLast))
      | none => False)
    | _ => False)
  | _ => False) := rfl
theorem wl : fNo xw ρ M QO = QO none M := rfl
theorem wm : fSome fa xw ρ M QO = fa xw ρ M fun d M1 => match d with
  | .int i => QO (some i) M1
  | _ => False := rfl
theorem wn : fSl' fa oa ob xw ρ M Q = fa xw ρ M fun x M1 => oa xw ρ M1 fun lo M2 => ob xw ρ M2 fun hi M3 => (match x with
  | .str _ => False
  | x => gSl x lo hi M3 Q) := rfl
theorem vc {lo hi : Option Int} : gSl (.tup ds) lo hi M Q = Q (.tup (cutD ds lo hi)) M := rfl
theorem vd {lo hi : Option Int} : gSl (.lst ds) lo hi M Q = Q (.lst (cutD ds lo hi)) M := rfl
theorem vf {a : Addr} {lo hi : Option Int} : gSl (.loc a) lo hi M Q = (match lstOf M (.loc a) with
    | some ds => Q (.lst (cutD ds lo hi)) M
    | none => False) := rfl
theorem wo : fAnyG ia b fa vs xw ρ M Q = ia xw ρ M fun ds M1 => GenS (fun os => os.any id) b fa (wipeE ρ vs) ds M1 (.mk : Ky Q) := rfl
theorem wp : fAllG ia b fa vs xw ρ M Q = ia xw ρ M fun ds M1 => GenS (fun os => os.all id) b fa (wipeE ρ vs) ds M1 (.mk : Ky Q) := rfl
theorem za : fSumG ia b fa vs xw ρ M Q = ia xw ρ M fun ds M1 => SumGS b fa (wipeE ρ vs) ds M1 (.mk : Ky Q) := rfl
theorem zb {fr : FRg} : fLstRg fr xw ρ M QA = fr xw ρ M fun a b M1 => RgOk a b ∧ QA (rngD a (b - a).toNat) M1 := rfl
theorem zc {fr : FRg} : fTupRg fr xw ρ M Q = fr xw ρ M fun a b M1 => RgOk a b ∧ Q (.tup (rngD a (b - a).toNat)) M1 := rfl
theorem zd {QR : Int → Int → Mu → Prop} : fRgA fa xw ρ M QR = fa xw ρ M fun d M1 => match d with
  | .int j => QR 0 j M1
  | _ => False := rfl
theorem ze {QR : Int → Int → Mu → Prop} : fRgB fa fb xw ρ M QR = fa xw ρ M fun x M1 => fb xw ρ M1 fun y M2 => match x, y with
  | .int i, .int j => QR i j M2
  | _, _ => False := rfl
theorem zf : fLstRev fa xw ρ M QA = fa xw ρ M fun d M1 => match lstOf M1 d with
  | some es => QA es.reverse M1
  | none => False := rfl
theorem zg : fRev fa xw ρ M QA = fa xw ρ M fun d M1 => match d with
  | .tup ds => QA ds.reverse M1
  | .lst ds => QA ds.reverse M1
  | _ => False := rfl
theorem wq : fZip ha xw ρ M QA = ha xw ρ M fun ds M1 => match ds with
  | [.tup as, .tup bs] => QA ((as.zip bs).map fun p => .tup [p.1, p.2]) M1
  | [.lst as, .lst bs] => QA ((as.zip bs).map fun p => .tup [p.1, p.2]) M1
  | [.tup as, .lst bs] => QA ((as.zip bs).map fun p => .tup [p.1, p.2]) M1
  | [.lst as, .tup bs] => QA ((as.zip bs).map fun p => .tup [p.1, p.2]) M1
  | _ => False := rfl
theorem wt : fZip3 ha xw ρ M QA = ha xw ρ M fun ds M1 => match ds with
  | [x, y, z] => (match seqP x, seqP y, seqP z with
    | some as, some bs, some cs => QA ((as.zip (bs.zip cs)).map fun p => .tup [p.1, p.2.1, p.2.2]) M1
    | _, _, _ => False)
  | _ => False := rfl
theorem wu {n m : String} {d : D} : gIsC n [d, .ty m] M Q = (m = n ∧ (match tyN d with
    | some t => Q (.bl (decide (t = n))) M
    | none => False)) := rfl
theorem wv : tyN (.tup ds) = some "tuple" := rfl
theorem ww : tyN (.lst ds) = some "list" := rfl
theorem wx : tyN .non = some "NoneType" := rfl
theorem wy {b : Bool} : tyN (.bl b) = some "bool" := rfl
theorem wz : tyN (.int x) = some "int" := rfl
theorem w3 : seqP (.tup ds) = some ds := rfl
theorem w4 : seqP (.lst ds) = some ds := rfl
theorem x9 : fEn1 ha xw ρ M QA = ha xw ρ M fun ds M1 => match ds with
  | [.tup as] => QA (enD 0 as) M1
  | [.lst as] => QA (enD 0 as) M1
  | _ => False := rfl
theorem wa : fEn2 ha xw ρ M QA = ha xw ρ M fun ds M1 => match ds with
  | [.tup as, .int k] => (-(2 ^ 63) ≤ k ∧ k < 2 ^ 63) ∧ QA (enD k as) M1
  | [.lst as, .int k] => (-(2 ^ 63) ≤ k ∧ k < 2 ^ 63) ∧ QA (enD k as) M1
  | _ => False := rfl
theorem w6 : fSeqA fa xw ρ M QA = fa xw ρ M fun d M1 => match seqOf M1 d with
  | some ds => QA ds M1
  | none => False := rfl
theorem x8 {j : Nat} : fPar i j ha E ρ M = ha (xwAt E ρ) ρ M fun ds M1 => match ds with
  | [d, e] => E.nx ((ρ.set i (some d)).set j (some e)) M1
  | _ => False := rfl
theorem w7 : gAnyL [d] M Q = (match lstOf M d with
    | some es => (match boolsD es with
      | some bs => Q (.bl (bs.any id)) M
      | none => False)
    | none => False) := rfl
theorem w8 : gAllL [d] M Q = (match lstOf M d with
    | some es => (match boolsD es with
      | some bs => Q (.bl (bs.all id)) M
      | none => False)
    | none => False) := rfl
theorem w9 : gSumL [d] M Q = (match lstOf M d with
    | some es => (match intsD es with
      | some bs => Q (.int bs.sum) M
      | none => False)
    | none => False) := rfl
/-! operators -/
theorem vg : gAdd (.int x) (.int y) M Q = Q (.int (x + y)) M := rfl
theorem vh {es : List D} : gAdd (.tup ds) (.tup es) M Q = (ds.length + es.length ≤ sizeLine ∧ Q (.tup (ds ++ es)) M) := rfl
theorem vi {u v : Str} : gAdd (.str u) (.str v) M Q = (u.length + v.length ≤ sizeLine ∧ Q (.str (u ++ v)) M) := rfl
theorem vj {es : List D} : gAdd (.lst ds) (.lst es) M Q = (ds.length + es.length ≤ sizeLine ∧ Q (.lst (ds ++ es)) M) := rfl
theorem vk : gI0 gi (.int x) (.int y) M Q = Q (gi x y) M := rfl
theorem vm : gI GI gi (.int x) (.int y) M Q = (GI x y ∧ Q (gi x y) M) := rfl
theorem vn : gMul (.int x) (.int y) M Q = ((CMul x y ∨ CMulW x y) ∧ Q (.int (x * y)) M) := rfl
theorem vo : gMul (.tup ds) (.int y) M Q = (0 ≤ y ∧ y ≤ 1000 ∧ ds.length ≤ 1000 ∧ Q (.tup (List.replicate y.toNat ds).flatten) M) := rfl
theorem vp {u v : D} : gEq u v M Q = (dle 60 (rsv M u) = true ∧ dle 60 (rsv M v) = true ∧ Q (.bl (eqD (rsv M u) (rsv M v))) M) := rfl
theorem vq {u v : D} : gNe u v M Q = (dle 60 (rsv M u) = true ∧ dle 60 (rsv M v) = true ∧ Q (.bl (!eqD (rsv M u) (rsv M v))) M) := rfl
theorem vt {u : D} : gIs u .non M Q = Q (.bl (u3 u)) M := rfl
theorem vv {p q : Bool} : gIs (.bl p) (.bl q) M Q = Q (.bl (decide (p = q))) M := rfl
theorem vw {u : D} : gIsNot u .non M Q = Q (.bl (!u3 u)) M := rfl
theorem vx {p q : Bool} : gIsNot (.bl p) (.bl q) M Q = Q (.bl (!decide (p = q))) M := rfl
theorem vy {u v : D} : gIn u v M Q = (match seqOf M v with
  | some ds => dle 60 (rsv M u) = true ∧ ds.all (dle 59) = true ∧ Q (.bl (ds.any fun y => eqD y (rsv M u))) M
  | none => False) := rfl
theorem vz {u v : D} : gNotIn u v M Q = (match seqOf M v with
  | some ds => dle 60 (rsv M u) = true ∧ ds.all (dle 59) = true ∧ Q (.bl (!ds.any fun y => eqD y (rsv M u))) M
  | none => False) := rfl
theorem v0 : gIx (.tup ds) (.int x) M Q = (match L2.atI ds x with
  | some d => Q d M
  | none => False) := rfl
theorem v3 : gIx (.lst ds) (.int x) M Q = (match L2.atI ds x with
  | some d => Q d M
  | none => False) := rfl
theorem v4 {a : Addr} : gIx (.loc a) (.int x) M Q = (match seqOf M (.loc a) with
  | some ds => (match L2.atI ds x with
    | some d => Q d M
    | none => False)
  | none => False) := rfl
theorem v5 : gLen [.tup ds] M Q = Q (.int ds.length) M := rfl
theorem v7 : gLen [.lst ds] M Q = Q (.int ds.length) M := rfl
theorem v8 {a : Addr} : gLen [.loc a] M Q = (match seqOf M (.loc a) with
    | some es => Q (.int es.length) M
    | none => False) := rfl
theorem v9 : gInt [.int x] M Q = Q (.int x) M := rfl
theorem ua {c : Bool} : gInt [.bl c] M Q = Q (.int (if c then 1 else 0)) M := rfl
theorem ub : gTuple [.tup ds] M Q = Q (.tup ds) M := rfl
theorem uc : gTuple [.lst ds] M Q = Q (.tup ds) M := rfl
theorem ud {a : Addr} : gTuple [.loc a] M Q = (match seqOf M (.loc a) with
    | some es => Q (.tup es) M
    | none => False) := rfl
theorem ue : gMax [.int x, .int y] M Q = Q (.int (if y > x then y else x)) M := rfl
theorem uf : gMin [.int x, .int y] M Q = Q (.int (if y < x then y else x)) M := rfl
theorem ug {c : Bool} {n : String} : gIsBool [.bl c, .ty n] M Q = (n = "bool" ∧ Q (.bl true) M) := rfl
theorem uh {n : String} : gIsBool [.int x, .ty n] M Q = (n = "bool" ∧ Q (.bl false) M) := rfl
theorem ui : seqOf M (.tup ds) = some ds := rfl
theorem uj : seqOf M (.lst ds) = some ds := rfl
theorem uk {a : Addr} : seqOf M (.loc a) = (match M a with
    | some (.lst ds) => some ds
    | _ => none) := rfl
theorem ul : lstOf M (.lst ds) = some ds := rfl
theorem um {a : Addr} : lstOf M (.loc a) = (match M a with
    | some (.lst ds) => some ds
    | _ => none) := rfl
theorem uo : rsv M (.int x) = .int x := rfl
theorem uq {c : Bool} : rsv M (.bl c) = .bl c := rfl
theorem ur {s : Str} : rsv M (.str s) = .str s := rfl
theorem ut : rsv M .non = .non := rfl
theorem uu : rsv M (.tup ds) = .tup ds := rfl
theorem uv : rsv M (.lst ds) = .lst ds := rfl
theorem uw : dle n (.int x) = true := by cases n <;> rfl
theorem ux {c : Bool} : dle n (.bl c) = true := by cases n <;> rfl
theorem uy : dle n .non = true := by cases n <;> rfl
theorem dle_t60 : dle 60 (.tup ds) = ds.all (dle 59) := rfl
theorem uz : eqD (.int x) (.int y) = decide (x = y) := by
  show (x == y) = _
  by_cases h : x = y
  · subst h; simp
  · rw [decide_eq_false h]; exact beq_eq_false_iff_ne.mpr h
theorem u2 {p q : Bool} : eqD (.bl p) (.bl q) = (p == q) := rfl
theorem eqD_s {u v : Str} : eqD (.str u) (.str v) = decide (u = v) := by
  show (u == v) = _
  by_cases h : u = v
  · subst h; simp
  · rw [decide_eq_false h]; exact beq_eq_false_iff_ne.mpr h
theorem u5 : bNm i d ρ = some (ρ.set i (some d)) := rfl
theorem u6 : bTup n bs (.tup ds) ρ = if ds.length = n then bs ds ρ else none := rfl
theorem u7 : bCons b bs (d :: ds) ρ = (b d ρ).bind (bs ds) := rfl
theorem u8 : bNil [] ρ = some ρ := rfl
end
theorem atI_nat' {α : Type} {l : List α} (i : Nat) (h1 : i < l.length) : atI l (i : Int) = l[i]? := by
  have h : ixN l.length (i : Int) = some i := by
    unfold ixN
    rw [if_pos (by omega), if_pos (by omega), Int.toNat_natCast]
  unfold atI
  rw [h]
  rfl
theorem tv {α : Type} {x : α} {l : List α} : atI (x :: l) 0 = some x := atI_nat' 0 (by simp)
theorem tw {α : Type} {x y : α} {l : List α} : atI (x :: y :: l) 1 = some y := atI_nat' 1 (by simp)
theorem tz {α : Type} {x y z : α} {l : List α} : atI (x :: y :: z :: l) 2 = some z := atI_nat' 2 (by simp)
theorem t8 {α : Type} {x y z u v : α} {l : List α} : atI (x :: y :: z :: u :: v :: l) 4 = some v := atI_nat' 4 (by simp)
theorem t9 {α : Type} {x y z u v w : α} {l : List α} : atI (x :: y :: z :: u :: v :: w :: l) 5 = some w := atI_nat' 5 (by simp)
theorem t3 {α : Type} {x y z u : α} {l : List α} : atI (x :: y :: z :: u :: l) 3 = some u := atI_nat' 3 (by simp)
theorem atI_nat {α : Type} {l : List α} {i : Int} (h0 : 0 ≤ i) (h1 : i < l.length) : atI l i = l[i.toNat]? := by
  unfold atI ixN
  rw [if_pos h0, if_pos h1]; rfl
theorem c0 : ((0 : Nat) : Int) = 0 := rfl
theorem c1 : ((1 : Nat) : Int) = 1 := rfl
theorem u9 : ixN 4 0 = some 0 := by decide
theorem tj : ixN 4 1 = some 1 := by decide
theorem tm : ixN 4 2 = some 2 := by decide
theorem tq : ixN 4 3 = some 3 := by decide
theorem ixN_of {n : Nat} {i : Int} (h0 : 0 ≤ i) (h1 : i < n) : ixN n i = some i.toNat := by
  unfold ixN
  rw [if_pos h0, if_pos h1]

end U

set_option Elab.async false
set_option linter.all false
set_option maxRecDepth 100000
set_option maxHeartbeats 1000000
/-! V2: loops by induction; what a drawing keeps. -/
namespace U
open PySem PySem.Spec PyProof.Rows L2

theorem forS_ind {b : BD} {f : FS} {E : FEnds} (I : List D → Env' → Mu → Prop)
    (step : ∀ d ds ρ M, I (d :: ds) ρ M → ∃ ρ2, b d ρ = some ρ2 ∧ ∀ n c : Env' → Mu → Prop, (∀ ρ M, I ds ρ M → n ρ M) → (∀ ρ M, I ds ρ M → c ρ M) → f { nx := n, rt := E.rt, bk := E.nx, ct := c, xw := E.xw } ρ2 M)
    (done : ∀ ρ M, I [] ρ M → E.nx ρ M) : ∀ (ds : List D) (ρ : Env') (M : Mu), I ds ρ M → ForS b f ds (.mk : Ky E) ρ M
  | [], ρ, M, h => done ρ M h
  | d :: ds, ρ, M, h => by
    obtain ⟨ρ2, h1, h2⟩ := step d ds ρ M h
    unfold ForS forGo
    rw [h1]
    exact h2 _ _ (forS_ind I step done ds) (forS_ind I step done ds)
theorem lc_ind {b : BD} {ft : FT} {fe : FE} {ρ : Env'} {Q : List D → Mu → Prop} (I : List D → List D → Mu → Prop)
    (step : ∀ d ds acc M, I (d :: ds) acc M → ∃ ρ2, b d ρ = some ρ2 ∧ ∀ k : List D → Mu → Prop, (∀ acc M, I ds acc M → k acc M) → ft xF ρ2 M fun c M1 => if c = true then fe xF ρ2 M1 fun y M2 => acc.length < sizeLine ∧ k (acc ++ [y]) M2 else k acc M1)
    (done : ∀ acc M, I [] acc M → Q acc M) : ∀ (ds acc : List D) (M : Mu), I ds acc M → lcGo b ft fe ρ ds acc M Q
  | [], acc, M, h => done acc M h
  | d :: ds, acc, M, h => by
    obtain ⟨ρ2, h1, h2⟩ := step d ds acc M h
    unfold lcGo
    rw [h1]
    exact h2 (fun acc M => lcGo b ft fe ρ ds acc M Q) (lc_ind I step done ds)
theorem lcS_ind {b : BD} {ft : FT} {fe : FE} {ρ : Env'} {Q : List D → Mu → Prop} (I : List D → List D → Mu → Prop) {ds : List D} {M : Mu} (h : I ds [] M)
    (step : ∀ d ds acc M, I (d :: ds) acc M → ∃ ρ2, b d ρ = some ρ2 ∧ ∀ k : List D → Mu → Prop, (∀ acc M, I ds acc M → k acc M) → ft xF ρ2 M fun c M1 => if c = true then fe xF ρ2 M1 fun y M2 => acc.length < sizeLine ∧ k (acc ++ [y]) M2 else k acc M1)
    (done : ∀ acc M, I [] acc M → Q acc M) : LcS b ft fe ρ ds M (.mk : Ky Q) := lc_ind I step done ds [] M h
theorem seqS {f g : FS} {E : FEnds} {ρ : Env'} {M : Mu} (I : Env' → Mu → Prop) (h1 : ∀ n : Env' → Mu → Prop, (∀ ρ M, I ρ M → n ρ M) → f { E with nx := n } ρ M) (h2 : ∀ ρ M, I ρ M → g E ρ M) : fThen f g E ρ M := h1 (g E) h2
theorem ifCut {b : Bool} {f g : FS} {E : FEnds} {ρ : Env'} {M : Mu} (I : Env' → Mu → Prop) (h1 : ∀ n : Env' → Mu → Prop, (∀ ρ M, I ρ M → n ρ M) → IfS b f g (.mk : Ky { E with nx := n }) ρ M) (h2 : ∀ ρ M, I ρ M → E.nx ρ M) : IfS b f g (.mk : Ky E) ρ M := h1 E.nx h2
/-! ### the state of a drawing -/
def IsSt (M : Mu) (a : Addr) : Prop := ∃ x0 x1 x3 scr, M a = some (.lst [.int x0, .int x1, .lst scr, .int x3]) ∧ 0 ≤ x1 ∧ ∀ d ∈ scr, ∃ i, d = .int i
/-- from M to M' nothing but the state at a was written -/
def Stp (a : Addr) (M M' : Mu) : Prop := (∀ b, b ≠ a → M' b = M b) ∧ IsSt M' a
theorem Stp.trans {a : Addr} {M M1 M2 : Mu} (h : Stp a M M1) (k : Stp a M1 M2) : Stp a M M2 := ⟨fun b hb => (k.1 b hb).trans (h.1 b hb), k.2⟩
theorem Stp.refl {a : Addr} {M : Mu} (h : IsSt M a) : Stp a M M := ⟨fun _ _ => rfl, h⟩
theorem IsSt.ex {a : Addr} {M : Mu} (h : IsSt M a) : ∃ m, M a = some m := by
  obtain ⟨_, _, _, _, e, _⟩ := h
  exact ⟨_, e⟩
theorem IsSt.res {a : Addr} {M M' : Mu} (h : IsSt M' a) (k : ∃ m, M a = some m) : IsSt (mres M' M) a := by
  obtain ⟨x0, x1, x3, scr, e, r⟩ := h
  obtain ⟨m, k⟩ := k
  exact ⟨x0, x1, x3, scr, by unfold mres; rw [k]; exact e, r⟩
theorem Stp.res {a : Addr} {M M' : Mu} (h : Stp a M M') (k : IsSt M a) : Stp a M (mres M' M) := by
  refine ⟨fun b hb => ?_, IsSt.res h.2 k.ex⟩
  unfold mres
  cases e : M b with
  | none => rfl
  | some m => exact (h.1 b hb).trans e
theorem Stp.set {a : Addr} {M : Mu} {m : MO} (h : ∃ x0 x1 x3 scr, m = .lst [.int x0, .int x1, .lst scr, .int x3] ∧ 0 ≤ x1 ∧ ∀ d ∈ scr, ∃ i, d = .int i) : Stp a M (mset M a m) := by
  obtain ⟨x0, x1, x3, scr, rfl, h⟩ := h
  exact ⟨fun b hb => mset_ne hb, x0, x1, x3, scr, sf, h⟩
/-- a drawing: what stands behind the state are the arguments; R tells what may come out -/
def Drw (R : List D → D → Prop) (Pre : List D → Prop) : FSpec := fun ds M Q _ => ∃ a rest, ds = .loc a :: rest ∧ Pre rest ∧ IsSt M a ∧ ∀ M' d, R rest d → Stp a M M' → Q d M'
def S_ldraw : FSpec := Drw (fun r d => ∃ n i : Int, r = [.int n] ∧ d = .int i ∧ 0 ≤ i ∧ i < n) fun r => ∃ n : Int, r = [.int n] ∧ 0 < n ∧ n < 1073741824
def N_ldraw : List Str := ["_law_state", "_law_limit", "_law_position", "_law_cell", "_law_mixed", "_law_digit"]
def f_ldraw : FS := fThen (fIfS (fB (fOp gLt (fOp gIx (fNm 0) (fC (.int 0))) (fNm 1))) (fThen (fSet 2 (fOp gIx (fNm 0) (fC (.int 1)))) (fThen (fSetIx (fNm 0) (fC (.int 1)) (fOp gAdd (fNm 2) (fC (.int 1)))) (fThen (fSet 3 (fC (.int 0))) (fThen (fIfS (fB (fOp gLt (fNm 2) (fCB gLen (fCons (fOp gIx (fNm 0) (fC (.int 2))) fNil)))) (fSet 3 (fOp gIx (fOp gIx (fNm 0) (fC (.int 2))) (fNm 2))) fPass) (fIfS (fB (fOp gGe (fNm 3) (fOp gPow (fC (.int 10)) (fC (.int 18))))) (fSetIx (fNm 0) (fC (.int 0)) (fNm 3)) (fThen (fSetIx (fNm 0) (fC (.int 3)) (fOp gMod (fCB gInt (fCons (fOp gMul (fOp gAdd (fOp gAdd (fOp gAdd (fOp gIx (fNm 0) (fC (.int 3))) (fOp gMod (fCB gInt (fCons (fNm 3) fNil)) (fC (.int 2147483629)))) (fNm 2)) (fC (.int 1))) (fC (.int 48271))) fNil)) (fC (.int 2147483647)))) (fThen (fSet 4 (fOp gMod (fCB gInt (fCons (fOp gAdd (fOp gMul (fOp gIx (fNm 0) (fC (.int 3))) (fC (.int 69621))) (fC (.int 11))) fNil)) (fC (.int 2147483629)))) (fSetIx (fNm 0) (fC (.int 0)) (fOp gAdd (fOp gMul (fNm 4) (fC (.int 2147483647))) (fOp gMod (fCB gInt (fCons (fOp gAdd (fOp gMul (fNm 4) (fC (.int 30011))) (fOp gIx (fNm 0) (fC (.int 3)))) fNil)) (fC (.int 2147483587)))))))))))) fPass) (fThen (fSet 5 (fOp gMod (fCB gInt (fCons (fOp gIx (fNm 0) (fC (.int 0))) fNil)) (fNm 1))) (fThen (fSetIx (fNm 0) (fC (.int 0)) (fOp gFdiv (fOp gIx (fNm 0) (fC (.int 0))) (fNm 1))) (fRet (fNm 5))))

theorem b_ldraw (ds : List D) (M : Mu) (Q : D → Mu → Prop) (xw : XW) (h : S_ldraw ds M Q xw) : zh N_ldraw f_ldraw ds M Q xw := by
  obtain ⟨a, rest, rfl, ⟨n, rfl, n0, n1⟩, st, post⟩ := h
  have hres : ∀ M' d, (∃ i : Int, d = .int i ∧ 0 ≤ i ∧ i < n) → Stp a M M' → Q d (mres M' M) := fun M' d ⟨i, e, h1, h2⟩ h => post _ _ ⟨n, i, rfl, e, h1, h2⟩ (h.res st)
  obtain ⟨x0, x1, x3, scr, hM, p0, hs⟩ := id st
  have c1 : CMul (x3 + 0 + x1 + 1) 48271 := .inr (by decide)
  have cm : ∀ x y : Int, -(2 ^ 64) < y → y < 2 ^ 64 → CMul x y := fun x y h1 h2 => .inr ⟨h1, h2⟩
  simp only [zh, bodyL, zi, N_ldraw, List.map_cons, List.map_nil, List.length_cons, List.length_nil, List.replicate_succ, List.replicate_zero, List.cons_append, List.nil_append, Nat.reduceAdd, Nat.reduceSub]
  unfold f_ldraw
  refine seqS (fun ρ M' => (∃ o2 o3 o4, ρ = [some (.loc a), some (.int n), o2, o3, o4, none]) ∧ Stp a M M') (fun nx hn => ?_) ?_
  · try simp -dsimp only [↓za,↓zb,↓zc,↓zd,↓ze,↓zf,↓zg,zh,zi,List.map_cons,List.map_nil,List.length_cons,List.length_nil,List.replicate_succ,List.replicate_zero,List.cons_append,List.nil_append,Nat.reduceAdd,Nat.reduceSub,List.set_cons_zero,List.set_cons_succ,List.getElem?_cons_zero,List.getElem?_cons_succ,Bool.not_true,Bool.not_false,decide_true,decide_false,↓zj,↓zk,↓zl,↓zm,↓zn,↓zo,↓zp,↓zq,↓zr,↓zt,↓zu,↓zv,zj,zk,zl,zm,zn,zo,zp,zq,zr,zt,zu,zv,↓zw,↓zx,↓zy,↓zz,↓z9,↓ya,↓yb,↓yc,↓yd,↓ye,↓yf,↓yg,↓yh,↓yi,↓yj,↓yk,↓yl,↓ym,↓yn,↓yo,↓yp,↓eC,↓yq,↓eB,↓yr,↓yt,↓yu,↓yw,↓yx,↓yy,↓yz,↓y5,↓y6,↓y8,↓y9,↓xa,↓xb,↓xc,↓xg,↓xh,↓xi,↓xj,↓xk,↓xl,↓xm,↓xn,↓xo,↓xp,↓xq,↓xr,↓xt,↓xu,↓xy,↓xz,↓x5,↓x6,↓x7,↓x8,↓x9,↓wa,↓wb,↓wc,↓wd,↓we,↓wf,↓wg,↓wh,↓wj,↓wl,↓wm,↓wn,↓wo,↓wp,↓wq,↓wt,↓wu,wv,ww,wx,wy,wz,w3,w4,↓x9,↓wa,↓w6,↓x8,↓w7,↓w8,↓w9,va,vb,↓vc,↓vd,↓vf,↓vg,↓vh,↓vi,↓vj,↓vk,↓vm,↓vn,↓vo,↓vp,↓vq,↓vt,↓vv,↓vw,↓vx,↓vy,↓vz,↓v0,↓v3,↓v4,↓v5,↓v7,↓v8,↓v9,↓ua,↓ub,↓uc,↓ud,↓ue,↓uf,↓ug,↓uh,ui,uj,uk,ul,um,uo,uq,ur,ut,uu,uv,uw,ux,uy,uz,u2,u3,u5,u6,u7,u8,Option.bind_some,u9,tj,tm,tq,tv,tw,tz,t3,t8,t9,sf,true_and,beq_self_eq_true,Bool.false_eq_true,c0,c1,Int.cast_ofNat_Int,Int.reduceEq,Int.reduceLT,Int.reduceLE,Int.reduceAdd,Int.reduceSub,↓reduceIte, hM]
    refine IfS_mk (fun hlt => ?_) fun hge => ?_
    · try simp -dsimp only [↓za,↓zb,↓zc,↓zd,↓ze,↓zf,↓zg,zh,zi,List.map_cons,List.map_nil,List.length_cons,List.length_nil,List.replicate_succ,List.replicate_zero,List.cons_append,List.nil_append,Nat.reduceAdd,Nat.reduceSub,List.set_cons_zero,List.set_cons_succ,List.getElem?_cons_zero,List.getElem?_cons_succ,Bool.not_true,Bool.not_false,decide_true,decide_false,↓zj,↓zk,↓zl,↓zm,↓zn,↓zo,↓zp,↓zq,↓zr,↓zt,↓zu,↓zv,zj,zk,zl,zm,zn,zo,zp,zq,zr,zt,zu,zv,↓zw,↓zx,↓zy,↓zz,↓z9,↓ya,↓yb,↓yc,↓yd,↓ye,↓yf,↓yg,↓yh,↓yi,↓yj,↓yk,↓yl,↓ym,↓yn,↓yo,↓yp,↓eC,↓yq,↓eB,↓yr,↓yt,↓yu,↓yw,↓yx,↓yy,↓yz,↓y5,↓y6,↓y8,↓y9,↓xa,↓xb,↓xc,↓xg,↓xh,↓xi,↓xj,↓xk,↓xl,↓xm,↓xn,↓xo,↓xp,↓xq,↓xr,↓xt,↓xu,↓xy,↓xz,↓x5,↓x6,↓x7,↓x8,↓x9,↓wa,↓wb,↓wc,↓wd,↓we,↓wf,↓wg,↓wh,↓wj,↓wl,↓wm,↓wn,↓wo,↓wp,↓wq,↓wt,↓wu,wv,ww,wx,wy,wz,w3,w4,↓x9,↓wa,↓w6,↓x8,↓w7,↓w8,↓w9,va,vb,↓vc,↓vd,↓vf,↓vg,↓vh,↓vi,↓vj,↓vk,↓vm,↓vn,↓vo,↓vp,↓vq,↓vt,↓vv,↓vw,↓vx,↓vy,↓vz,↓v0,↓v3,↓v4,↓v5,↓v7,↓v8,↓v9,↓ua,↓ub,↓uc,↓ud,↓ue,↓uf,↓ug,↓uh,ui,uj,uk,ul,um,uo,uq,ur,ut,uu,uv,uw,ux,uy,uz,u2,u3,u5,u6,u7,u8,Option.bind_some,u9,tj,tm,tq,tv,tw,tz,t3,t8,t9,sf,true_and,beq_self_eq_true,Bool.false_eq_true,c0,c1,Int.cast_ofNat_Int,Int.reduceEq,Int.reduceLT,Int.reduceLE,Int.reduceAdd,Int.reduceSub,↓reduceIte, hM]
      refine ifCut (fun ρ M' => (∃ z : Int, ρ = [some (.loc a), some (.int n), some (.int x1), some (.int z), none, none]) ∧ M' = mset M a (.lst [.int x0, .int (x1 + 1), .lst scr, .int x3])) (fun nx2 hn2 => ?_) ?_
      · refine IfS_mk (fun hp => ?_) fun hp => ?_
        · try simp -dsimp only [↓za,↓zb,↓zc,↓zd,↓ze,↓zf,↓zg,zh,zi,List.map_cons,List.map_nil,List.length_cons,List.length_nil,List.replicate_succ,List.replicate_zero,List.cons_append,List.nil_append,Nat.reduceAdd,Nat.reduceSub,List.set_cons_zero,List.set_cons_succ,List.getElem?_cons_zero,List.getElem?_cons_succ,Bool.not_true,Bool.not_false,decide_true,decide_false,↓zj,↓zk,↓zl,↓zm,↓zn,↓zo,↓zp,↓zq,↓zr,↓zt,↓zu,↓zv,zj,zk,zl,zm,zn,zo,zp,zq,zr,zt,zu,zv,↓zw,↓zx,↓zy,↓zz,↓z9,↓ya,↓yb,↓yc,↓yd,↓ye,↓yf,↓yg,↓yh,↓yi,↓yj,↓yk,↓yl,↓ym,↓yn,↓yo,↓yp,↓eC,↓yq,↓eB,↓yr,↓yt,↓yu,↓yw,↓yx,↓yy,↓yz,↓y5,↓y6,↓y8,↓y9,↓xa,↓xb,↓xc,↓xg,↓xh,↓xi,↓xj,↓xk,↓xl,↓xm,↓xn,↓xo,↓xp,↓xq,↓xr,↓xt,↓xu,↓xy,↓xz,↓x5,↓x6,↓x7,↓x8,↓x9,↓wa,↓wb,↓wc,↓wd,↓we,↓wf,↓wg,↓wh,↓wj,↓wl,↓wm,↓wn,↓wo,↓wp,↓wq,↓wt,↓wu,wv,ww,wx,wy,wz,w3,w4,↓x9,↓wa,↓w6,↓x8,↓w7,↓w8,↓w9,va,vb,↓vc,↓vd,↓vf,↓vg,↓vh,↓vi,↓vj,↓vk,↓vm,↓vn,↓vo,↓vp,↓vq,↓vt,↓vv,↓vw,↓vx,↓vy,↓vz,↓v0,↓v3,↓v4,↓v5,↓v7,↓v8,↓v9,↓ua,↓ub,↓uc,↓ud,↓ue,↓uf,↓ug,↓uh,ui,uj,uk,ul,um,uo,uq,ur,ut,uu,uv,uw,ux,uy,uz,u2,u3,u5,u6,u7,u8,Option.bind_some,u9,tj,tm,tq,tv,tw,tz,t3,t8,t9,sf,true_and,beq_self_eq_true,Bool.false_eq_true,c0,c1,Int.cast_ofNat_Int,Int.reduceEq,Int.reduceLT,Int.reduceLE,Int.reduceAdd,Int.reduceSub,↓reduceIte]
          have hp' : x1 < scr.length := of_decide_eq_true hp
          have hlt : x1.toNat < scr.length := by omega
          obtain ⟨z, ez⟩ := hs _ (List.getElem_mem hlt)
          have e2 : atI scr x1 = some (.int z) := by rw [atI_nat p0 hp', List.getElem?_eq_getElem hlt, ez]
          rw [e2]
          exact hn2 _ _ ⟨⟨z, rfl⟩, rfl⟩
        · try simp -dsimp only [↓za,↓zb,↓zc,↓zd,↓ze,↓zf,↓zg,zh,zi,List.map_cons,List.map_nil,List.length_cons,List.length_nil,List.replicate_succ,List.replicate_zero,List.cons_append,List.nil_append,Nat.reduceAdd,Nat.reduceSub,List.set_cons_zero,List.set_cons_succ,List.getElem?_cons_zero,List.getElem?_cons_succ,Bool.not_true,Bool.not_false,decide_true,decide_false,↓zj,↓zk,↓zl,↓zm,↓zn,↓zo,↓zp,↓zq,↓zr,↓zt,↓zu,↓zv,zj,zk,zl,zm,zn,zo,zp,zq,zr,zt,zu,zv,↓zw,↓zx,↓zy,↓zz,↓z9,↓ya,↓yb,↓yc,↓yd,↓ye,↓yf,↓yg,↓yh,↓yi,↓yj,↓yk,↓yl,↓ym,↓yn,↓yo,↓yp,↓eC,↓yq,↓eB,↓yr,↓yt,↓yu,↓yw,↓yx,↓yy,↓yz,↓y5,↓y6,↓y8,↓y9,↓xa,↓xb,↓xc,↓xg,↓xh,↓xi,↓xj,↓xk,↓xl,↓xm,↓xn,↓xo,↓xp,↓xq,↓xr,↓xt,↓xu,↓xy,↓xz,↓x5,↓x6,↓x7,↓x8,↓x9,↓wa,↓wb,↓wc,↓wd,↓we,↓wf,↓wg,↓wh,↓wj,↓wl,↓wm,↓wn,↓wo,↓wp,↓wq,↓wt,↓wu,wv,ww,wx,wy,wz,w3,w4,↓x9,↓wa,↓w6,↓x8,↓w7,↓w8,↓w9,va,vb,↓vc,↓vd,↓vf,↓vg,↓vh,↓vi,↓vj,↓vk,↓vm,↓vn,↓vo,↓vp,↓vq,↓vt,↓vv,↓vw,↓vx,↓vy,↓vz,↓v0,↓v3,↓v4,↓v5,↓v7,↓v8,↓v9,↓ua,↓ub,↓uc,↓ud,↓ue,↓uf,↓ug,↓uh,ui,uj,uk,ul,um,uo,uq,ur,ut,uu,uv,uw,ux,uy,uz,u2,u3,u5,u6,u7,u8,Option.bind_some,u9,tj,tm,tq,tv,tw,tz,t3,t8,t9,sf,true_and,beq_self_eq_true,Bool.false_eq_true,c0,c1,Int.cast_ofNat_Int,Int.reduceEq,Int.reduceLT,Int.reduceLE,Int.reduceAdd,Int.reduceSub,↓reduceIte]
          exact hn2 _ _ ⟨⟨0, rfl⟩, rfl⟩
      · rintro ρ M' ⟨⟨z, rfl⟩, rfl⟩
        try simp -dsimp only [↓za,↓zb,↓zc,↓zd,↓ze,↓zf,↓zg,zh,zi,List.map_cons,List.map_nil,List.length_cons,List.length_nil,List.replicate_succ,List.replicate_zero,List.cons_append,List.nil_append,Nat.reduceAdd,Nat.reduceSub,List.set_cons_zero,List.set_cons_succ,List.getElem?_cons_zero,List.getElem?_cons_succ,Bool.not_true,Bool.not_false,decide_true,decide_false,↓zj,↓zk,↓zl,↓zm,↓zn,↓zo,↓zp,↓zq,↓zr,↓zt,↓zu,↓zv,zj,zk,zl,zm,zn,zo,zp,zq,zr,zt,zu,zv,↓zw,↓zx,↓zy,↓zz,↓z9,↓ya,↓yb,↓yc,↓yd,↓ye,↓yf,↓yg,↓yh,↓yi,↓yj,↓yk,↓yl,↓ym,↓yn,↓yo,↓yp,↓eC,↓yq,↓eB,↓yr,↓yt,↓yu,↓yw,↓yx,↓yy,↓yz,↓y5,↓y6,↓y8,↓y9,↓xa,↓xb,↓xc,↓xg,↓xh,↓xi,↓xj,↓xk,↓xl,↓xm,↓xn,↓xo,↓xp,↓xq,↓xr,↓xt,↓xu,↓xy,↓xz,↓x5,↓x6,↓x7,↓x8,↓x9,↓wa,↓wb,↓wc,↓wd,↓we,↓wf,↓wg,↓wh,↓wj,↓wl,↓wm,↓wn,↓wo,↓wp,↓wq,↓wt,↓wu,wv,ww,wx,wy,wz,w3,w4,↓x9,↓wa,↓w6,↓x8,↓w7,↓w8,↓w9,va,vb,↓vc,↓vd,↓vf,↓vg,↓vh,↓vi,↓vj,↓vk,↓vm,↓vn,↓vo,↓vp,↓vq,↓vt,↓vv,↓vw,↓vx,↓vy,↓vz,↓v0,↓v3,↓v4,↓v5,↓v7,↓v8,↓v9,↓ua,↓ub,↓uc,↓ud,↓ue,↓uf,↓ug,↓uh,ui,uj,uk,ul,um,uo,uq,ur,ut,uu,uv,uw,ux,uy,uz,u2,u3,u5,u6,u7,u8,Option.bind_some,u9,tj,tm,tq,tv,tw,tz,t3,t8,t9,sf,true_and,beq_self_eq_true,Bool.false_eq_true,c0,c1,Int.cast_ofNat_Int,Int.reduceEq,Int.reduceLT,Int.reduceLE,Int.reduceAdd,Int.reduceSub,↓reduceIte]
        refine ⟨⟨by decide, by decide, by decide⟩, IfS_mk (fun hz => ?_) fun hz => ?_⟩
        · try simp -dsimp only [↓za,↓zb,↓zc,↓zd,↓ze,↓zf,↓zg,zh,zi,List.map_cons,List.map_nil,List.length_cons,List.length_nil,List.replicate_succ,List.replicate_zero,List.cons_append,List.nil_append,Nat.reduceAdd,Nat.reduceSub,List.set_cons_zero,List.set_cons_succ,List.getElem?_cons_zero,List.getElem?_cons_succ,Bool.not_true,Bool.not_false,decide_true,decide_false,↓zj,↓zk,↓zl,↓zm,↓zn,↓zo,↓zp,↓zq,↓zr,↓zt,↓zu,↓zv,zj,zk,zl,zm,zn,zo,zp,zq,zr,zt,zu,zv,↓zw,↓zx,↓zy,↓zz,↓z9,↓ya,↓yb,↓yc,↓yd,↓ye,↓yf,↓yg,↓yh,↓yi,↓yj,↓yk,↓yl,↓ym,↓yn,↓yo,↓yp,↓eC,↓yq,↓eB,↓yr,↓yt,↓yu,↓yw,↓yx,↓yy,↓yz,↓y5,↓y6,↓y8,↓y9,↓xa,↓xb,↓xc,↓xg,↓xh,↓xi,↓xj,↓xk,↓xl,↓xm,↓xn,↓xo,↓xp,↓xq,↓xr,↓xt,↓xu,↓xy,↓xz,↓x5,↓x6,↓x7,↓x8,↓x9,↓wa,↓wb,↓wc,↓wd,↓we,↓wf,↓wg,↓wh,↓wj,↓wl,↓wm,↓wn,↓wo,↓wp,↓wq,↓wt,↓wu,wv,ww,wx,wy,wz,w3,w4,↓x9,↓wa,↓w6,↓x8,↓w7,↓w8,↓w9,va,vb,↓vc,↓vd,↓vf,↓vg,↓vh,↓vi,↓vj,↓vk,↓vm,↓vn,↓vo,↓vp,↓vq,↓vt,↓vv,↓vw,↓vx,↓vy,↓vz,↓v0,↓v3,↓v4,↓v5,↓v7,↓v8,↓v9,↓ua,↓ub,↓uc,↓ud,↓ue,↓uf,↓ug,↓uh,ui,uj,uk,ul,um,uo,uq,ur,ut,uu,uv,uw,ux,uy,uz,u2,u3,u5,u6,u7,u8,Option.bind_some,u9,tj,tm,tq,tv,tw,tz,t3,t8,t9,sf,true_and,beq_self_eq_true,Bool.false_eq_true,c0,c1,Int.cast_ofNat_Int,Int.reduceEq,Int.reduceLT,Int.reduceLE,Int.reduceAdd,Int.reduceSub,↓reduceIte]
          exact hn _ _ ⟨⟨_, _, _, rfl⟩, by rw [mset_mset]; exact .set ⟨_, _, _, _, rfl, by omega, hs⟩⟩
        · try simp -dsimp only [↓za,↓zb,↓zc,↓zd,↓ze,↓zf,↓zg,zh,zi,List.map_cons,List.map_nil,List.length_cons,List.length_nil,List.replicate_succ,List.replicate_zero,List.cons_append,List.nil_append,Nat.reduceAdd,Nat.reduceSub,List.set_cons_zero,List.set_cons_succ,List.getElem?_cons_zero,List.getElem?_cons_succ,Bool.not_true,Bool.not_false,decide_true,decide_false,↓zj,↓zk,↓zl,↓zm,↓zn,↓zo,↓zp,↓zq,↓zr,↓zt,↓zu,↓zv,zj,zk,zl,zm,zn,zo,zp,zq,zr,zt,zu,zv,↓zw,↓zx,↓zy,↓zz,↓z9,↓ya,↓yb,↓yc,↓yd,↓ye,↓yf,↓yg,↓yh,↓yi,↓yj,↓yk,↓yl,↓ym,↓yn,↓yo,↓yp,↓eC,↓yq,↓eB,↓yr,↓yt,↓yu,↓yw,↓yx,↓yy,↓yz,↓y5,↓y6,↓y8,↓y9,↓xa,↓xb,↓xc,↓xg,↓xh,↓xi,↓xj,↓xk,↓xl,↓xm,↓xn,↓xo,↓xp,↓xq,↓xr,↓xt,↓xu,↓xy,↓xz,↓x5,↓x6,↓x7,↓x8,↓x9,↓wa,↓wb,↓wc,↓wd,↓we,↓wf,↓wg,↓wh,↓wj,↓wl,↓wm,↓wn,↓wo,↓wp,↓wq,↓wt,↓wu,wv,ww,wx,wy,wz,w3,w4,↓x9,↓wa,↓w6,↓x8,↓w7,↓w8,↓w9,va,vb,↓vc,↓vd,↓vf,↓vg,↓vh,↓vi,↓vj,↓vk,↓vm,↓vn,↓vo,↓vp,↓vq,↓vt,↓vv,↓vw,↓vx,↓vy,↓vz,↓v0,↓v3,↓v4,↓v5,↓v7,↓v8,↓v9,↓ua,↓ub,↓uc,↓ud,↓ue,↓uf,↓ug,↓uh,ui,uj,uk,ul,um,uo,uq,ur,ut,uu,uv,uw,ux,uy,uz,u2,u3,u5,u6,u7,u8,Option.bind_some,u9,tj,tm,tq,tv,tw,tz,t3,t8,t9,sf,true_and,beq_self_eq_true,Bool.false_eq_true,c0,c1,Int.cast_ofNat_Int,Int.reduceEq,Int.reduceLT,Int.reduceLE,Int.reduceAdd,Int.reduceSub,↓reduceIte]
          refine ⟨.inl (cm _ _ (by decide) (by decide)), .inl (cm _ _ (by decide) (by decide)), .inl (cm _ _ (by decide) (by decide)), .inl (cm _ _ (by decide) (by decide)), ?_⟩
          exact hn _ _ ⟨⟨_, _, _, rfl⟩, by rw [mset_mset, mset_mset]; exact .set ⟨_, _, _, _, rfl, by omega, hs⟩⟩
    · try simp -dsimp only [↓za,↓zb,↓zc,↓zd,↓ze,↓zf,↓zg,zh,zi,List.map_cons,List.map_nil,List.length_cons,List.length_nil,List.replicate_succ,List.replicate_zero,List.cons_append,List.nil_append,Nat.reduceAdd,Nat.reduceSub,List.set_cons_zero,List.set_cons_succ,List.getElem?_cons_zero,List.getElem?_cons_succ,Bool.not_true,Bool.not_false,decide_true,decide_false,↓zj,↓zk,↓zl,↓zm,↓zn,↓zo,↓zp,↓zq,↓zr,↓zt,↓zu,↓zv,zj,zk,zl,zm,zn,zo,zp,zq,zr,zt,zu,zv,↓zw,↓zx,↓zy,↓zz,↓z9,↓ya,↓yb,↓yc,↓yd,↓ye,↓yf,↓yg,↓yh,↓yi,↓yj,↓yk,↓yl,↓ym,↓yn,↓yo,↓yp,↓eC,↓yq,↓eB,↓yr,↓yt,↓yu,↓yw,↓yx,↓yy,↓yz,↓y5,↓y6,↓y8,↓y9,↓xa,↓xb,↓xc,↓xg,↓xh,↓xi,↓xj,↓xk,↓xl,↓xm,↓xn,↓xo,↓xp,↓xq,↓xr,↓xt,↓xu,↓xy,↓xz,↓x5,↓x6,↓x7,↓x8,↓x9,↓wa,↓wb,↓wc,↓wd,↓we,↓wf,↓wg,↓wh,↓wj,↓wl,↓wm,↓wn,↓wo,↓wp,↓wq,↓wt,↓wu,wv,ww,wx,wy,wz,w3,w4,↓x9,↓wa,↓w6,↓x8,↓w7,↓w8,↓w9,va,vb,↓vc,↓vd,↓vf,↓vg,↓vh,↓vi,↓vj,↓vk,↓vm,↓vn,↓vo,↓vp,↓vq,↓vt,↓vv,↓vw,↓vx,↓vy,↓vz,↓v0,↓v3,↓v4,↓v5,↓v7,↓v8,↓v9,↓ua,↓ub,↓uc,↓ud,↓ue,↓uf,↓ug,↓uh,ui,uj,uk,ul,um,uo,uq,ur,ut,uu,uv,uw,ux,uy,uz,u2,u3,u5,u6,u7,u8,Option.bind_some,u9,tj,tm,tq,tv,tw,tz,t3,t8,t9,sf,true_and,beq_self_eq_true,Bool.false_eq_true,c0,c1,Int.cast_ofNat_Int,Int.reduceEq,Int.reduceLT,Int.reduceLE,Int.reduceAdd,Int.reduceSub,↓reduceIte]
      exact hn _ _ ⟨⟨_, _, _, rfl⟩, .refl st⟩
  · rintro ρ M' ⟨⟨o2, o3, o4, rfl⟩, h1⟩
    obtain ⟨y0, y1, y3, scr', hM', _, _⟩ := id h1.2
    try simp -dsimp only [↓za,↓zb,↓zc,↓zd,↓ze,↓zf,↓zg,zh,zi,List.map_cons,List.map_nil,List.length_cons,List.length_nil,List.replicate_succ,List.replicate_zero,List.cons_append,List.nil_append,Nat.reduceAdd,Nat.reduceSub,List.set_cons_zero,List.set_cons_succ,List.getElem?_cons_zero,List.getElem?_cons_succ,Bool.not_true,Bool.not_false,decide_true,decide_false,↓zj,↓zk,↓zl,↓zm,↓zn,↓zo,↓zp,↓zq,↓zr,↓zt,↓zu,↓zv,zj,zk,zl,zm,zn,zo,zp,zq,zr,zt,zu,zv,↓zw,↓zx,↓zy,↓zz,↓z9,↓ya,↓yb,↓yc,↓yd,↓ye,↓yf,↓yg,↓yh,↓yi,↓yj,↓yk,↓yl,↓ym,↓yn,↓yo,↓yp,↓eC,↓yq,↓eB,↓yr,↓yt,↓yu,↓yw,↓yx,↓yy,↓yz,↓y5,↓y6,↓y8,↓y9,↓xa,↓xb,↓xc,↓xg,↓xh,↓xi,↓xj,↓xk,↓xl,↓xm,↓xn,↓xo,↓xp,↓xq,↓xr,↓xt,↓xu,↓xy,↓xz,↓x5,↓x6,↓x7,↓x8,↓x9,↓wa,↓wb,↓wc,↓wd,↓we,↓wf,↓wg,↓wh,↓wj,↓wl,↓wm,↓wn,↓wo,↓wp,↓wq,↓wt,↓wu,wv,ww,wx,wy,wz,w3,w4,↓x9,↓wa,↓w6,↓x8,↓w7,↓w8,↓w9,va,vb,↓vc,↓vd,↓vf,↓vg,↓vh,↓vi,↓vj,↓vk,↓vm,↓vn,↓vo,↓vp,↓vq,↓vt,↓vv,↓vw,↓vx,↓vy,↓vz,↓v0,↓v3,↓v4,↓v5,↓v7,↓v8,↓v9,↓ua,↓ub,↓uc,↓ud,↓ue,↓uf,↓ug,↓uh,ui,uj,uk,ul,um,uo,uq,ur,ut,uu,uv,uw,ux,uy,uz,u2,u3,u5,u6,u7,u8,Option.bind_some,u9,tj,tm,tq,tv,tw,tz,t3,t8,t9,sf,true_and,beq_self_eq_true,Bool.false_eq_true,c0,c1,Int.cast_ofNat_Int,Int.reduceEq,Int.reduceLT,Int.reduceLE,Int.reduceAdd,Int.reduceSub,↓reduceIte, hM']
    have l9 : n.natAbs.log2 < 9000 := by
      have : n.natAbs < 2 ^ 30 := by omega
      exact Nat.lt_of_lt_of_le ((Nat.log2_lt (by omega)).mpr this) (by decide)
    refine ⟨n0, ⟨n0, l9⟩, ?_⟩
    refine hres _ _ ⟨_, rfl, Int.emod_nonneg _ (by omega), Int.emod_lt_of_pos _ n0⟩ (h1.trans (.set ⟨_, _, _, _, rfl, ?_, ?_⟩)) <;> assumption
end U

set_option Elab.async false
set_option linter.all false
set_option maxRecDepth 100000
set_option maxHeartbeats 1000000
/-! V3: lists that are drawn; words, patterns. -/
namespace U
open PySem PySem.Spec PyProof.Rows L2

theorem enc_of {α : Type} {enc : α → D} {P : α → Prop} : ∀ ys : List D, (∀ y ∈ ys, ∃ x, y = enc x ∧ P x) → ∃ xs : List α, ys = xs.map enc ∧ ∀ x ∈ xs, P x
  | [], _ => ⟨[], rfl, fun _ h => by cases h⟩
  | y :: ys, h => by
    obtain ⟨x, rfl, hx⟩ := h y List.mem_cons_self
    obtain ⟨xs, rfl, hxs⟩ := enc_of ys fun z hz => h z (List.mem_cons_of_mem _ hz)
    exact ⟨x :: xs, rfl, fun z hz => (List.mem_cons.mp hz).elim (fun e => e ▸ hx) (hxs z)⟩
theorem rngD_length {lo : Int} {n : Nat} : (rngD lo n).length = n := by unfold rngD; rw [List.length_map, List.length_range]
section
variable {a : Addr} {M : Mu} {xw : XW} {Q : D → Mu → Prop} {QL : List D → Mu → Prop}
theorem drw_call {R : List D → D → Prop} {Pre : List D → Prop} {rest : List D} (h : IsSt M a) (hp : Pre rest) (k : ∀ M' d, R rest d → Stp a M M' → Q d M') : CallS (Drw R Pre) (.loc a :: rest) M xw (.mk : Ky Q) := ⟨a, rest, rfl, hp, h, k⟩
theorem draw_call {n : Int} (h : IsSt M a) (h0 : 0 < n) (h1 : n < 1073741824) (k : ∀ M' (i : Int), 0 ≤ i → i < n → Stp a M M' → Q (.int i) M') : CallS S_ldraw [.loc a, .int n] M xw (.mk : Ky Q) :=
  drw_call h ⟨n, rfl, h0, h1⟩ fun M' d ⟨m, i, e, hd, h2, h3⟩ s => by
    cases e
    rw [hd]
    exact k M' i h2 h3 s
/-- [draw for _ in ds] -/
theorem lc_gen {i : Nat} {fe : FE} {ρ : Env'} {ds : List D} (Rel : D → Prop) (hM : IsSt M a) (hl : ds.length ≤ sizeLine)
    (he : ∀ d M' (k : D → Mu → Prop), d ∈ ds → Stp a M M' → (∀ y M'', Rel y → Stp a M M'' → k y M'') → fe xF (ρ.set i (some d)) M' k)
    (done : ∀ ys M', ys.length = ds.length → (∀ y ∈ ys, Rel y) → Stp a M M' → QL ys M') : LcS (bNm i) fYes fe ρ ds M (.mk : Ky QL) := by
  refine lcS_ind (fun rest acc M' => acc.length + rest.length = ds.length ∧ (∀ d ∈ rest, d ∈ ds) ∧ (∀ y ∈ acc, Rel y) ∧ Stp a M M') ⟨by simp, fun _ h => h, fun _ h => (nomatch h), .refl hM⟩ ?_ ?_
  · rintro d rest acc M' ⟨h1, h2, h3, h4⟩
    rw [List.length_cons] at h1
    refine ⟨_, rfl, fun k hk => ?_⟩
    show fe xF (ρ.set i (some d)) M' _
    refine he d M' _ (h2 d List.mem_cons_self) h4 fun y M'' hy hs => ⟨by omega, hk _ _ ⟨?_, fun z hz => h2 z (List.mem_cons_of_mem _ hz), fun z hz => ?_, hs⟩⟩
    · rw [List.length_append, List.length_cons, List.length_nil]; omega
    · rcases List.mem_append.mp hz with hz | hz
      · exact h3 z hz
      · rw [List.mem_singleton.mp hz]; exact hy
  · rintro acc M' ⟨h1, _, h3, h4⟩
    exact done acc M' (by simpa using h1) h3 h4
end

/-! ### words, patterns -/
def wD (w : List Int) : D := .tup (w.map .int)
inductive Atom where
  | one (a : Int)
  | any (s : List Int)
  deriving DecidableEq
end U

set_option Elab.async false
set_option linter.all false
set_option maxRecDepth 100000
set_option maxHeartbeats 1000000
/-! V5: states, below, above. -/
namespace U
open PySem PySem.Spec PyProof.Rows L2

/-! ### equality by data -/
mutual
theorem pd_refl : ∀ d : D, PyData.eqv d.pd d.pd = true
  | .non => rfl
  | .bl b => by show (b == b) = true; exact beq_self_eq_true b
  | .int i => by show (i == i) = true; exact beq_self_eq_true i
  | .str x => by show (x == x) = true; exact beq_self_eq_true x
  | .tup ds => pds_refl ds
  | .lst ds => pds_refl ds
  | .loc _ => rfl
  | .ty _ => rfl
theorem pds_refl : ∀ ds : List D, PyData.eqvAll (D.pds ds) (D.pds ds) = true
  | [] => rfl
  | d :: ds => by
    show (PyData.eqv d.pd d.pd && PyData.eqvAll (D.pds ds) (D.pds ds)) = true
    rw [pd_refl d, pds_refl ds]; rfl
end
theorem eqD_refl (d : D) : eqD d d = true := pd_refl d
/-! ### states -/
structure Ste where
  m : Int
  n : List Int
  w : List (List Int)
  deriving DecidableEq
/-! ### helps -/
theorem genS_map {α : Type} {k : List Bool → Bool} {b : BD} {fe : FE} {ρ : Env'} {M : Mu} {Q : D → Mu → Prop} {enc : α → D} {xs : List α} (f : α → Bool) (h : ∀ x ∈ xs, ∃ ρ2, b (enc x) ρ = some ρ2 ∧ ∀ Q : D → Mu → Prop, Q (.bl (f x)) M → fe xF ρ2 M Q) (q : Q (.bl (k (xs.map f))) M) : GenS k b fe ρ (xs.map enc) M (.mk : Ky Q) :=
  ⟨_, GenO.map xs h, q⟩
theorem all_map_id {α : Type} (f : α → Bool) (l : List α) : (l.map f).all id = l.all f := by rw [List.all_map]; rfl
end U

set_option Elab.async false
set_option linter.all false
set_option maxRecDepth 100000
set_option maxHeartbeats 1000000
/-! V6: the laws' own helpers about states. -/
namespace U
open PySem PySem.Spec PyProof.Rows L2

/-! ### loops over a range; pure comprehensions -/
theorem rngD_drop {lo : Int} {n k : Nat} (h : k < n) : (rngD lo n).drop k = .int (lo + (k : Nat)) :: (rngD lo n).drop (k + 1) := by
  unfold rngD
  rw [List.drop_eq_getElem_cons (by simpa using h), List.getElem_map, List.getElem_range]
theorem forS_rng {i0 : Nat} {f : FS} {E : FEnds} {lo : Int} {n : Nat} {ρ : Env'} {M : Mu} (I : Nat → Env' → Mu → Prop) (h0 : I 0 ρ M)
    (step : ∀ k ρ M, k < n → I k ρ M → ∀ nn cc : Env' → Mu → Prop, (∀ ρ M, I (k + 1) ρ M → nn ρ M) → (∀ ρ M, I (k + 1) ρ M → cc ρ M) → f { nx := nn, rt := E.rt, bk := E.nx, ct := cc, xw := E.xw } (ρ.set i0 (some (.int (lo + (k : Nat))))) M)
    (done : ∀ ρ M, I n ρ M → E.nx ρ M) : ForS (bNm i0) f (rngD lo n) (.mk : Ky E) ρ M := by
  refine forS_ind (fun rest ρ M => ∃ k, k ≤ n ∧ rest = (rngD lo n).drop k ∧ I k ρ M) ?_ ?_ _ _ _ ⟨0, Nat.zero_le _, rfl, h0⟩
  · rintro d rest ρ M ⟨k, hk, e, hI⟩
    have hlt : k < n := by
      rcases Nat.lt_or_ge k n with h | h
      · exact h
      · rw [List.drop_of_length_le (by rw [rngD_length]; exact h)] at e; cases e
    rw [rngD_drop hlt] at e
    cases e
    exact ⟨_, rfl, fun nn cc h1 h2 => step k ρ M hlt hI nn cc (fun ρ M h => h1 _ _ ⟨k + 1, hlt, rfl, h⟩) (fun ρ M h => h2 _ _ ⟨k + 1, hlt, rfl, h⟩)⟩
  · rintro ρ M ⟨k, hk, e, hI⟩
    have : k = n := by
      rcases Nat.lt_or_ge k n with h | h
      · rw [rngD_drop h] at e; cases e
      · omega
    subst this
    exact done ρ M hI
def N_lshape : List Str := ["_law_state_here", "_law_shapes"]
def f_lshape (S_ldraw : FSpec) : FS := fThen (fSet 1 (fOfL (fLstL (fCons (fTup (fCons (fC (.int 1)) (fCons (fC (.int 2)) (fCons (fC (.int 0)) (fCons (fC (.int 0)) fNil))))) (fCons (fTup (fCons (fC (.int 2)) (fCons (fC (.int 1)) (fCons (fC (.int 1)) (fCons (fC (.int 2)) fNil))))) (fCons (fTup (fCons (fC (.int 1)) (fCons (fC (.int 1)) (fCons (fC (.int 1)) (fCons (fC (.int 2)) fNil))))) (fCons (fTup (fCons (fC (.int 2)) (fCons (fC (.int 2)) (fCons (fC (.int 0)) (fCons (fC (.int 1)) fNil))))) (fCons (fTup (fCons (fC (.int 1)) (fCons (fC (.int 0)) (fCons (fC (.int 2)) (fCons (fC (.int 2)) fNil))))) (fCons (fTup (fCons (fC (.int 1)) (fCons (fC (.int 3)) (fCons (fC (.int 0)) (fCons (fC (.int 0)) fNil))))) (fCons (fTup (fCons (fC (.int 2)) (fCons (fC (.int 2)) (fCons (fC (.int 1)) (fCons (fC (.int 2)) fNil))))) (fCons (fTup (fCons (fC (.int 3)) (fCons (fC (.int 0)) (fCons (fC (.int 1)) (fCons (fC (.int 2)) fNil))))) (fCons (fTup (fCons (fC (.int 1)) (fCons (fC (.int 0)) (fCons (fC (.int 1)) (fCons (fC (.int 3)) fNil))))) (fCons (fTup (fCons (fC (.int 1)) (fCons (fC (.int 1)) (fCons (fC (.int 1)) (fCons (fC (.int 1)) fNil))))) (fCons (fTup (fCons (fC (.int 2)) (fCons (fC (.int 1)) (fCons (fC (.int 1)) (fCons (fC (.int 0)) fNil))))) (fCons (fTup (fCons (fC (.int 4)) (fCons (fC (.int 1)) (fCons (fC (.int 0)) (fCons (fC (.int 0)) fNil))))) (fCons (fTup (fCons (fC (.int 3)) (fCons (fC (.int 0)) (fCons (fC (.int 0)) (fCons (fC (.int 0)) fNil))))) (fCons (fTup (fCons (fC (.int 2)) (fCons (fC (.int 1)) (fCons (fC (.int 2)) (fCons (fC (.int 2)) fNil))))) (fCons (fTup (fCons (fC (.int 1)) (fCons (fC (.int 4)) (fCons (fC (.int 0)) (fCons (fC (.int 0)) fNil))))) (fCons (fTup (fCons (fC (.int 6)) (fCons (fC (.int 1)) (fCons (fC (.int 0)) (fCons (fC (.int 0)) fNil))))) fNil))))))))))))))))))) (fRet (fOp gIx (fNm 1) (fCall S_ldraw (fCons (fNm 0) (fCons (fC (.int 16)) fNil)))))
/-! shapes, states, drawn -/
structure Shp where
  m : Int
  c : Int
  q : Int
  l : Int
def shD (s : Shp) : D := .tup [.int s.m, .int s.c, .int s.q, .int s.l]
def okSh (s : Shp) : Prop := 1 ≤ s.m ∧ s.m ≤ 6 ∧ 0 ≤ s.c ∧ s.c ≤ 4 ∧ 0 ≤ s.q ∧ s.q ≤ 2 ∧ 0 ≤ s.l ∧ s.l ≤ 3
def S_lshape : FSpec := Drw (fun r d => ∃ s : Shp, d = shD s ∧ okSh s) fun r => r = []
theorem b_lshape (ds : List D) (M : Mu) (Q : D → Mu → Prop) (xw : XW) (h : S_lshape ds M Q xw) : zh N_lshape (f_lshape S_ldraw) ds M Q xw := by
  obtain ⟨a, rest, rfl, rfl, st, post⟩ := h
  have post2 : ∀ d M', (∃ s : Shp, d = shD s ∧ okSh s) → Stp a M M' → Q d (mres M' M) := fun d M' h1 h2 => post _ _ h1 (h2.res st)
  simp only [zh, bodyL, zi, N_lshape, List.map_cons, List.map_nil, List.length_cons, List.length_nil, List.replicate_succ, List.replicate_zero, List.cons_append, List.nil_append, Nat.reduceAdd, Nat.reduceSub]
  unfold f_lshape
  try simp -dsimp only [↓za,↓zb,↓zc,↓zd,↓ze,↓zf,↓zg,zh,zi,List.map_cons,List.map_nil,List.length_cons,List.length_nil,List.replicate_succ,List.replicate_zero,List.cons_append,List.nil_append,Nat.reduceAdd,Nat.reduceSub,List.set_cons_zero,List.set_cons_succ,List.getElem?_cons_zero,List.getElem?_cons_succ,Bool.not_true,Bool.not_false,decide_true,decide_false,↓zj,↓zk,↓zl,↓zm,↓zn,↓zo,↓zp,↓zq,↓zr,↓zt,↓zu,↓zv,zj,zk,zl,zm,zn,zo,zp,zq,zr,zt,zu,zv,↓zw,↓zx,↓zy,↓zz,↓z9,↓ya,↓yb,↓yc,↓yd,↓ye,↓yf,↓yg,↓yh,↓yi,↓yj,↓yk,↓yl,↓ym,↓yn,↓yo,↓yp,↓eC,↓yq,↓eB,↓yr,↓yt,↓yu,↓yw,↓yx,↓yy,↓yz,↓y5,↓y6,↓y8,↓y9,↓xa,↓xb,↓xc,↓xg,↓xh,↓xi,↓xj,↓xk,↓xl,↓xm,↓xn,↓xo,↓xp,↓xq,↓xr,↓xt,↓xu,↓xy,↓xz,↓x5,↓x6,↓x7,↓x8,↓x9,↓wa,↓wb,↓wc,↓wd,↓we,↓wf,↓wg,↓wh,↓wj,↓wl,↓wm,↓wn,↓wo,↓wp,↓wq,↓wt,↓wu,wv,ww,wx,wy,wz,w3,w4,↓x9,↓wa,↓w6,↓x8,↓w7,↓w8,↓w9,va,vb,↓vc,↓vd,↓vf,↓vg,↓vh,↓vi,↓vj,↓vk,↓vm,↓vn,↓vo,↓vp,↓vq,↓vt,↓vv,↓vw,↓vx,↓vy,↓vz,↓v0,↓v3,↓v4,↓v5,↓v7,↓v8,↓v9,↓ua,↓ub,↓uc,↓ud,↓ue,↓uf,↓ug,↓uh,ui,uj,uk,ul,um,uo,uq,ur,ut,uu,uv,uw,ux,uy,uz,u2,u3,u5,u6,u7,u8,Option.bind_some,u9,tj,tm,tq,tv,tw,tz,t3,t8,t9,sf,true_and,beq_self_eq_true,Bool.false_eq_true,c0,c1,Int.cast_ofNat_Int,Int.reduceEq,Int.reduceLT,Int.reduceLE,Int.reduceAdd,Int.reduceSub,↓reduceIte]
  refine ⟨by decide, by decide, by decide, by decide, by decide, by decide, by decide, by decide, by decide, by decide, by decide, by decide, by decide, by decide, by decide, by decide, by decide, ?_⟩
  refine draw_call st (by omega) (by omega) fun M1 i i0 i1 s1 => ?_
  have key : ∀ l : List Shp, l.length = 16 → (∀ s ∈ l, okSh s) → ∃ s, atI (l.map shD) i = some (shD s) ∧ okSh s := fun l hl h => by
    have hi : i.toNat < l.length := by omega
    refine ⟨l[i.toNat], ?_, h _ (List.getElem_mem hi)⟩
    rw [atI_nat i0 (by rw [List.length_map]; omega), List.getElem?_map, List.getElem?_eq_getElem hi]
    rfl
  obtain ⟨s, e1, e2⟩ := key [⟨1, 2, 0, 0⟩, ⟨2, 1, 1, 2⟩, ⟨1, 1, 1, 2⟩, ⟨2, 2, 0, 1⟩, ⟨1, 0, 2, 2⟩, ⟨1, 3, 0, 0⟩, ⟨2, 2, 1, 2⟩, ⟨3, 0, 1, 2⟩, ⟨1, 0, 1, 3⟩, ⟨1, 1, 1, 1⟩, ⟨2, 1, 1, 0⟩, ⟨4, 1, 0, 0⟩, ⟨3, 0, 0, 0⟩, ⟨2, 1, 2, 2⟩, ⟨1, 4, 0, 0⟩, ⟨6, 1, 0, 0⟩] rfl (by
    intro s hs
    simp only [List.mem_cons, List.not_mem_nil, or_false] at hs
    rcases hs with rfl | rfl | rfl | rfl | rfl | rfl | rfl | rfl | rfl | rfl | rfl | rfl | rfl | rfl | rfl | rfl <;> (unfold okSh; decide))
  simp only [List.map_cons, List.map_nil, shD] at e1
  try simp -dsimp only [↓za,↓zb,↓zc,↓zd,↓ze,↓zf,↓zg,zh,zi,List.map_cons,List.map_nil,List.length_cons,List.length_nil,List.replicate_succ,List.replicate_zero,List.cons_append,List.nil_append,Nat.reduceAdd,Nat.reduceSub,List.set_cons_zero,List.set_cons_succ,List.getElem?_cons_zero,List.getElem?_cons_succ,Bool.not_true,Bool.not_false,decide_true,decide_false,↓zj,↓zk,↓zl,↓zm,↓zn,↓zo,↓zp,↓zq,↓zr,↓zt,↓zu,↓zv,zj,zk,zl,zm,zn,zo,zp,zq,zr,zt,zu,zv,↓zw,↓zx,↓zy,↓zz,↓z9,↓ya,↓yb,↓yc,↓yd,↓ye,↓yf,↓yg,↓yh,↓yi,↓yj,↓yk,↓yl,↓ym,↓yn,↓yo,↓yp,↓eC,↓yq,↓eB,↓yr,↓yt,↓yu,↓yw,↓yx,↓yy,↓yz,↓y5,↓y6,↓y8,↓y9,↓xa,↓xb,↓xc,↓xg,↓xh,↓xi,↓xj,↓xk,↓xl,↓xm,↓xn,↓xo,↓xp,↓xq,↓xr,↓xt,↓xu,↓xy,↓xz,↓x5,↓x6,↓x7,↓x8,↓x9,↓wa,↓wb,↓wc,↓wd,↓we,↓wf,↓wg,↓wh,↓wj,↓wl,↓wm,↓wn,↓wo,↓wp,↓wq,↓wt,↓wu,wv,ww,wx,wy,wz,w3,w4,↓x9,↓wa,↓w6,↓x8,↓w7,↓w8,↓w9,va,vb,↓vc,↓vd,↓vf,↓vg,↓vh,↓vi,↓vj,↓vk,↓vm,↓vn,↓vo,↓vp,↓vq,↓vt,↓vv,↓vw,↓vx,↓vy,↓vz,↓v0,↓v3,↓v4,↓v5,↓v7,↓v8,↓v9,↓ua,↓ub,↓uc,↓ud,↓ue,↓uf,↓ug,↓uh,ui,uj,uk,ul,um,uo,uq,ur,ut,uu,uv,uw,ux,uy,uz,u2,u3,u5,u6,u7,u8,Option.bind_some,u9,tj,tm,tq,tv,tw,tz,t3,t8,t9,sf,true_and,beq_self_eq_true,Bool.false_eq_true,c0,c1,Int.cast_ofNat_Int,Int.reduceEq,Int.reduceLT,Int.reduceLE,Int.reduceAdd,Int.reduceSub,↓reduceIte, e1]
  exact post2 _ _ ⟨s, rfl, e2⟩ s1
def S_law : FSpec := fun ds M Q _ => ∃ ns : List Int, ds = [.lst (ns.map .int)] ∧ ∀ M', Q (.bl true) M'
theorem s_law_of (ns : List Int) (_ : ns.length ≤ 63) (_ : ∀ z ∈ ns, Builtin.Int.intBits z ≤ 1048576) : S_law [.lst (ns.map .int)] (fun _ => none) (fun d _ => d = .bl true) fun _ _ => False := ⟨ns, rfl, fun _ => rfl⟩
theorem shD_inj {a b : Shp} (h : shD a = shD b) : a = b := by
  obtain ⟨x1, x2, x3, x4⟩ := a
  obtain ⟨y1, y2, y3, y4⟩ := b
  simp only [shD, List.cons.injEq, D.tup.injEq, D.int.injEq, and_true] at h
  obtain ⟨rfl, rfl, rfl, rfl⟩ := h
  rfl
section
variable {a : Addr} {M : Mu} {xw : XW} {Q : D → Mu → Prop} {sh : Shp} {L m top cnt : Int}
theorem shape_call (h : IsSt M a) (k : ∀ M' (sh : Shp), okSh sh → Stp a M M' → Q (shD sh) M') : CallS S_lshape [.loc a] M xw (.mk : Ky Q) :=
  drw_call h rfl fun M' d hR s => by
    obtain ⟨sh, rfl, h1⟩ := hR
    exact k M' sh h1 s
end
end U

set_option Elab.async false
set_option linter.all false
set_option maxRecDepth 100000
set_option maxHeartbeats 1000000
/-! U14: exceptions of own classes: raise, try. -/
namespace U
open PySem PySem.Spec PyProof.Rows L2

abbrev veB : List Value := [.type "ValueError", .type "Exception", .type "BaseException", .type "object"]
/-- what is known of an own class of error -/
structure ExcF (K : PySem.W.Frag) (C : Addr) : Prop where
  new : PySem.W.excIn K C veB "ValueError.__new__" = true
  keep : PySem.W.keepIn K (.ref C) = true
  sub : PySem.W.subIn K (.ref C) (.type "BaseException") = some true
  ty : PySem.W.typeIn K (.ref C) = some (.type "type")
/-- an error of the class at C, without fields, is raised -/
def fRaise (C : Addr) : FS := fun E ρ M => E.xw ⟨C, []⟩ ρ M
section
variable {X : Cx} {T : List Addr} {W : WX}
theorem ds_raise {e : Expr} {pos : Pos} {C : Addr} (hc : X.calm = true) (tk : Takes X W) (pm : PMk X e (fun _ H Q => Q (.ref C) none H)) : DS X T W (.Raise (some e) none pos) (fRaise C) :=
  ⟨_, ps_raise hc tk pm, fun hid σ H ρ M E D r s w q ends => w (.ref C) none σ H ρ M ⟨C, []⟩ r s (Ext.refl _ _ _) ⟨rfl, .inl ⟨rfl, rfl⟩⟩ q⟩
def canS (K : PySem.W.Frag) (T : List Addr) (W : WX) (f : FS) : TS := fun D σ H => ∃ hid ρ M E, REnv K hid H M σ ρ ∧ Sto K T hid H M ∧ WOkS K T hid W H M E.xw ∧ f E ρ M ∧ EndsOk K T hid H M E D
theorem DSs.can {sts : List Stmt} {f : FS} (h : DSs X T W sts f) : PSs X sts (canS X.K T W f) := by
  obtain ⟨t, p, s⟩ := h
  exact ⟨fun pins s1 σ H D I q => p.run pins s1 σ H D I (let ⟨hid, ρ, M, E, a, b, c, d, e⟩ := q; s hid σ H ρ M E D a b c d e)⟩
/-! the suite of an except: the error is held at slot i -/
def At (i : Nat) (a : Addr) (σ : L2.St) : Prop := ∃ σ0 : L2.St, σ = σ0.set i (some (.ref a))
/-- the test is b -/
def SB (X : Cx) (i : Nat) (a : Addr) (e : Expr) (b : Bool) : Prop := PT X e fun σ H Q => At i a σ ∧ Q b H
def SW (X : Cx) (i : Nat) (a : Addr) (e : Expr) (b : Bool) : Prop := PW X e fun σ H Q => At i a σ ∧ Q b H
theorem PT.less {e : Expr} {t t' : TT} (h : PT X e t) (k : ∀ σ H Q, σ.length = X.N.length → t' σ H Q → t σ H Q) : PT X e t' := ⟨fun pins s σ H Q I q => h.run pins s σ H Q I (k _ _ _ I.len q)⟩
theorem PW.less {e : Expr} {t t' : TT} (h : PW X e t) (k : ∀ σ H Q, σ.length = X.N.length → t' σ H Q → t σ H Q) : PW X e t' := ⟨fun op pins s σ H Q I q => h.run op pins s σ H Q I (k _ _ _ I.len q)⟩
theorem PSs.less {e : List Stmt} {t t' : TS} (h : PSs X e t) (k : ∀ D σ H, σ.length = X.N.length → t' D σ H → t D σ H) : PSs X e t' := ⟨fun pins s σ H D I q => h.run pins s σ H D I (k _ _ _ I.len q)⟩
variable {i : Nat} {a : Addr} {b c : Bool} {e e1 e2 : Expr} {es : List Expr} {pos : Pos} {v : V} {sts rest : List Stmt}
theorem SW.sb (h : SW X i a e b) : SB X i a e b := PW.pt h
theorem sw_or1 (h : SB X i a e b) : SW X i a (.BoolOp .Or [e] pos) b := pw_or1 h
theorem sw_or (h : SB X i a e b) (k : SW X i a (.BoolOp .Or (e2 :: es) pos) c) : SW X i a (.BoolOp .Or (e :: e2 :: es) pos) (b || c) := PW.less (pw_or h k) fun _ _ Q _ ⟨q1, q2⟩ => ⟨q1, by
  cases b with
  | true => exact q2
  | false => exact ⟨q1, q2⟩⟩
/-- isinstance(e, c) -/
theorem sb_is {X : Cx} {i : Nat} {a C : Addr} {oe : Obj} {pn : List (Addr × Obj)} {n y : Str} {cv : V} {cw : Value} {b : Bool} {p px py pos : Pos} (F : ExcC X.K C) (hz : Zc (.ref C) none oe) (hf : ∃ vs, oe.data = .fields vs)
    (hN : X.N[i]? = some n) (hv : Vis X.env.scope n) (hc : PE (X.suite a ((a, oe) :: pn)) (.Name y py) (tC cv)) (hcv : ∀ u, RelV cv u → u = cw) (hb : PySem.W.kitOne X.K (.ref C) cw = some b) (hg : Gl X "isinstance") (hm : X.mg "isinstance" = none)
    (hd : (n == ("__debug__" : Str)) = false) (hcd : (n == ("__classdict__" : Str)) = false)
    (hs : starEach [.Name n px, .Name y py] X.env = (false, eval (.Name n px) X.env) :: starEach [.Name y py] X.env := by rfl) (hpl : (backTo pos (starEach [.Name y py] X.env)).any (·.1) = false := by rfl) :
    SB (X.suite a ((a, oe) :: pn)) i a (.Call (.Name "isinstance" p) [.Name n px, .Name y py] [] pos) b := by
  have hv' : PE (X.suite a ((a, oe) :: pn)) (.Name n px) (tVar i) := pe_var hN hv hd hcd
  have hi : bootBuiltins "isinstance" = some (.builtin "isinstance") := boot_isinstance
  have ha : PA (X.suite a ((a, oe) :: pn)) [.Name n px, .Name y py] (tCons (tVar i) (tCons (tC cv) tNil)) := pa_cons hv' (pa_cons hc pa_nil)
  refine PT.less (pt_val (pe_callB (call_isE F hz hf) hg hm hi ha (by decide) (by decide) hs hpl)) fun σ H Q hl q => ?_
  obtain ⟨⟨σ0, e⟩, q⟩ := q
  have hi : i < X.N.length := (List.getElem?_eq_some_iff.mp hN).1
  have hl0 : σ.length = X.N.length := hl
  have hlen : i < σ0.length := by rw [e, List.length_set] at hl0; omega
  exact ⟨.ref a, by rw [e, List.getElem?_set_self hlen], cv, cw, b, rfl, hcv, hb, b, rfl, q⟩
end
/-- the value of a constant -/
inductive CstV : V → D → Prop
  | non : CstV .non .non
  | bl (b : Bool) : CstV (.bl b) (.bl b)
  | int (i : Int) : CstV (.int i) (.int i)
section
variable {X : Cx} {T : List Addr} {W : WX}
theorem CstV.rv {K : PySem.W.Frag} {hid : List Addr} {H : Hp} {M : Mu} {v : V} {d : D} (h : CstV v d) : Rv K hid H M v d := by
  cases h with
  | non => exact .non
  | bl b => exact .bl b
  | int i => exact .int i
end

def Fram (X : Cx) : Prop := X.stack = X.env :: X.outer ∧ X.env.frame = some X.env.locals
/-- what isinstance answers of an error of the class at C at the class named y -/
def Kn (K : PySem.W.Frag) (mg : Str → Option Value) (C : Addr) (y : Str) (b : Bool) : Prop := ∃ (cv : V) (cw : Value), RelV cv cw ∧ (∀ u, RelV cv u → u = cw) ∧ (mg y = some cw ∨ (mg y = none ∧ bootBuiltins y = some cw ∧ y ≠ "__name__")) ∧ PySem.W.kitOne K (.ref C) cw = some b
theorem Kn.own {K : PySem.W.Frag} {mg : Str → Option Value} {C D : Addr} {y : Str} {b : Bool} (h : mg y = some (.ref D)) (k : PySem.W.kitOne K (.ref C) (.ref D) = some b) : Kn K mg C y b := ⟨.ref D, .ref D, rfl, fun _ e => e, .inl h, k⟩
theorem Kn.ty {K : PySem.W.Frag} {mg : Str → Option Value} {C : Addr} {y : Str} {n : String} {b : Bool} (h : mg y = none) (hb : bootBuiltins y = some (.type n)) (hn : y ≠ "__name__") (k : PySem.W.kitOne K (.ref C) (.type n) = some b) : Kn K mg C y b := ⟨.ty n, .type n, rfl, fun _ e => e, .inr ⟨h, hb, hn⟩, k⟩
def excB (K : PySem.W.Frag) (C : Addr) : Bool :=
  decide (PySem.W.findIn K (.ref C) "__getattribute__" = some (some (.builtin "BaseException.__getattribute__"))) && (decide (PySem.W.findIn K (.ref C) "__getattr__" = some none) &&
  (decide (PySem.W.subIn K (.ref C) (.type "BaseException") = some true) && (PySem.W.hasDictIn K C && (decide (PySem.W.findIn K (.ref C) "__class__" = some (some (.builtin "object.__class__"))) &&
  (decide (PySem.W.specialIn K (.builtin "object.__class__") "__get__" = some (some (.builtin "getset_descriptor.__get__"))) && (decide (PySem.W.takesIn K (.builtin "object.__class__") = some true) && decide (PySem.W.mroIn K C (.type "object") = some true)))))))
theorem excB_ok {K : PySem.W.Frag} {C : Addr} (h : excB K C = true) : ExcC K C := by
  unfold excB at h
  simp only [Bool.and_eq_true, decide_eq_true_eq] at h
  obtain ⟨h1, h2, h3, h4, h5, h6, h7, h8⟩ := h
  exact ⟨h1, h2, h3, h4, h5, h6, h7, h8⟩
section
variable {P : Program} {w : World} {K : PySem.W.Frag} {mg : Str → Option Value} {base : Heap} {N ps : List Str} {sc : Scope} {fn : Str → Bool} {k : Nat} {W : WX} {X : Cx} {T : List Addr} {qual : Str}
theorem s_raise (g : Std P w K mg base N sc fn k W X) {x m : Str} {C : Addr} {j : Nat} {p p2 pos pos2 : Pos} (hC : mg x = some (.ref C)) (e : ExcF K C) (hg : sc.names.lookup x = some .globalImplicit := by rfl) (hdb : (x == ("__debug__" : Str)) = false := by decide) :
    DS X T W (.Raise (some (.Call (.Name x p) [.Constant (.str m) j p2] [] pos)) none pos2) (fRaise C) :=
  ds_raise g.calm g.takes (pmk_own F.excBase_ValueError (by rw [g.eK]; exact e.new) (by rw [g.em]; exact hC) (by rw [g.eK]; exact e.keep) (raises_own (by rw [g.eK]; exact e.sub) (by rw [g.eK]; exact e.ty)) (g.gl hg) hdb)
/-- isinstance(n, y) in the suite -/
theorem n_isE {Xs : Cx} {i : Nat} {a C : Addr} {n y : Str} {b : Bool} {p px py pos : Pos} (g : Std P w K mg base N sc fn k W X) (F : Fr mg) (hs : ∃ (oe : Obj) (pn : List (Addr × Obj)), Xs = X.suite a ((a, oe) :: pn) ∧ Zc (.ref C) none oe ∧ ∃ vs, oe.data = .fields vs) (hE : ExcC K C) (hK : Kn K mg C y b)
    (hN : N[i]? = some n := by rfl) (hv : sc.names.lookup n = some .local := by rfl) (hg : sc.names.lookup ("isinstance" : Str) = some .globalImplicit := by rfl) (hgy : sc.names.lookup y = some .globalImplicit := by rfl)
    (hd : (n == ("__debug__" : Str)) = false := by decide) (hcd : (n == ("__classdict__" : Str)) = false := by decide) (hdy : (y == ("__debug__" : Str)) = false := by decide)
    (hst : starEach [.Name n px, .Name y py] X.env = (false, eval (.Name n px) X.env) :: starEach [.Name y py] X.env := by rfl) (hpl : (backTo pos (starEach [.Name y py] X.env)).any (·.1) = false := by rfl) :
    SB Xs i a (.Call (.Name "isinstance" p) [.Name n px, .Name y py] [] pos) b := by
  obtain ⟨oe, pn, rfl, hz, hf⟩ := hs
  obtain ⟨cv, cw, r1, r2, r3, r4⟩ := hK
  refine sb_is (cv := cv) (cw := cw) (by rw [g.eK]; exact hE) hz hf (by rw [g.eN]; exact hN) (.inl (by rw [g.es]; exact hv)) ?_ r2 (by rw [g.eK]; exact r4) (g.gl hg) (g.none F.isinstance) hd hcd hst hpl
  rcases r3 with h | ⟨h1, h2, h3⟩
  · exact pe_glob (X := X.suite a ((a, oe) :: pn)) (g.gl hgy) (by show X.mg y = _; rw [g.em]; exact h) r1 hdy
  · exact pe_bltn (X := X.suite a ((a, oe) :: pn)) (g.gl hgy) (by show X.mg y = _; rw [g.em]; exact h1) h2 r1 h3 hdy
/-- a def whose body has a try -/
theorem fn_okFT {x : Str} {params : Arguments} {body : List Stmt} {f : Addr} {fd : FuncData} {S : FSpec} {fs : FS} (F : FunD K x qual params body sc [] [] f fd) (sco : FnScope N ps sc)
    (har : ∀ ds M Q xw, S ds M Q xw → ds.length = ps.length)
    (hd : ∀ X W, Std P w K mg base N sc (fun _ => true) k W X → Fram X → DSs X T W body fs)
    (hs : ∀ ds M Q xw, S ds M Q xw → zh N fs ds M Q xw) : FnOk P w K mg base (L2.CX P w) (k + 1) f fd ps (spOf K T S) := by
  refine F.ok sco (fun vs H Q E h => ?_) fun cdv A outer s H vs Q E hr h => ?_
  · obtain ⟨hid, ds, M, Qd, xw, s, r, q, _⟩ := h
    rw [r.length]
    exact har ds M Qd xw q
  · obtain ⟨hid, ds, M, Qd, xw, st, r, q, po, px⟩ := h
    have hl : vs.length = ds.length := r.length
    have g : Std P w K mg base N sc (fun _ => true) k (fun cls d _ H' => E cls d H') (cxOf (L2.CX P w) P w K mg base N qual sc f cdv A outer s H E) :=
      ⟨rfl, rfl, rfl, rfl, rfl, rfl, sco.nd, rfl, fun _ _ => rfl, rfl, takes_of rfl rfl rfl rfl, passes_of rfl, hr⟩
    obtain ⟨t, p, sim⟩ := hd _ _ g ⟨rfl, rfl⟩
    refine ⟨t, p, sim hid _ H (zi N ds) M { nx := fun _ M' => Qd .non (mres M' M), rt := fun d M' => Qd d (mres M' M), xw := fun xd _ M' => xw xd (mres M' M) } _ ⟨?_, fun i d hi => ?_⟩ st (fun cls dd σ' H' ρ' M' xd r' s' e' x' q' => ?_) (hs ds M Qd xw q) ⟨?_, ?_, fun _ _ _ _ _ _ _ z => z, fun _ _ _ _ _ _ _ z => z⟩⟩
    · unfold zi L2.start
      rw [List.length_append, List.length_append, List.length_map, List.length_map, List.length_replicate, List.length_replicate, hl]
    · unfold zi at hi
      have hi' : i < ds.length := by
        by_cases h : i < ds.length
        · exact h
        · rw [List.getElem?_append_right (by simpa using h), List.getElem?_replicate] at hi
          split at hi <;> cases hi
      rw [List.getElem?_append_left (by simpa using hi'), List.getElem?_map] at hi
      have hd' : ds[i]? = some d := by
        cases e : ds[i]? with
        | none => rw [e] at hi; cases hi
        | some a => rw [e] at hi; cases hi; rfl
      obtain ⟨v, h1, h2⟩ := r.get i hd'
      refine ⟨v, ?_, h2⟩
      unfold L2.start
      rw [List.getElem?_append_left (by rw [List.length_map]; omega), List.getElem?_map, h1]
      rfl
    · exact px cls dd H' (mres M' M) xd s'.res (e'.trans Ext.res) (x'.ext Ext.res rfl) q'
    · intro σ' H' ρ' M' r' s' e' q'
      exact po _ H' _ (mres M' M) s'.res (e'.trans Ext.res) .non q'
    · intro v H' d M' s' e' r' q'
      exact po v H' d (mres M' M) s'.res (e'.trans Ext.res) ((Ext.res (M := M)).rv _ _ r') q'
theorem fn_okT {x : Str} {params : Arguments} {body : List Stmt} {f : Addr} {fd : FuncData} {S : FSpec} {fs : FS} {nm : Str} (F : FunD K x qual params body sc [] [] f fd) (hm : mg nm = some (.ref f)) (sco : FnScope N ps sc) (hb : Binds K fd ps [])
    (har : ∀ ds M Q xw, S ds M Q xw → ds.length = ps.length)
    (hd : ∀ X W, Std P w K mg base N sc (fun _ => true) k W X → Fram X → DSs X T W body fs)
    (hs : ∀ ds M Q xw, S ds M Q xw → zh N fs ds M Q xw) : Fn P w K mg base T (k + 1) nm S := ⟨f, fd, ps, hm, F.kp, hb, fn_okFT F sco har hd hs⟩
end
end U

set_option Elab.async false
set_option linter.all false
set_option maxRecDepth 100000
set_option maxHeartbeats 1000000
/-! U28: instances of own classes: fields, methods, making. -/
namespace U
open PySem PySem.Spec PyProof.Rows L2
/-! ### methods and making, where errors are wished for at the slots -/
section
variable {X : Cx} {CX : CXT} {k : Nat} {f C : Addr} {fd : FuncData} {ps : List Str} {sp : Sp} {E : L2.St → XK} {x m : Str} {p pos apos : Pos} {e o : Expr} {es : List Expr} {ta : TE} {t : TA}
def tMethS (C : Addr) (m : Str) (sp : Sp) (E : L2.St → XK) (ta : TE) (t : TA) : TE := fun σ H Q => ta σ H fun x H1 => ∃ a dx fs, x = .ref a ∧ H1 a = some (.ins C dx fs) ∧ fs.lookup m = none ∧ t σ H1 fun vs H2 => sp (x :: vs) H2 Q (E σ)
def tMakeS (C : Addr) (sp : Sp) (E : L2.St → XK) (t : TA) : TE := fun σ H Q => t σ H fun vs H1 => ∀ x dx, H1 x = none → H1 dx = none → dx ≠ x →
  sp (.ref x :: vs) (L2.upd (L2.upd H1 dx (.own x)) x (.ins C dx [])) (fun v H2 => v = .non ∧ Q (.ref x) H2) (E σ)
theorem pe_methS {pl : Sem Bool} (he : PE X o ta) (c : Cls X.K C) (hm : Meth X.K C m f) (F : FnOk X.prog X.w X.K X.mg X.base CX k f fd ps sp) (hr : Room k X.A) (hb : Binds X.K fd ps []) (hx : ∀ σ, PassesAt CX X σ (E σ)) (ha : PA X (e :: es) t)
    (hst : starEach (e :: es) X.env = (false, eval e X.env) :: starEach es X.env) (hpl : (backTo pos (starEach es X.env)).any (·.1) = false)
    (ht : eval (.Call (.Attribute o m apos) (e :: es) [] pos) X.env = (do
      let ov ← eval o X.env
      standAt apos.atName
      let (f, first) ← holding [ov] (getMethod ov m pl)
      callWith pos f first (backTo pos (starEach (e :: es) X.env)) (backToKw pos (keywordEach [] X.env)))) :
    PE X (.Call (.Attribute o m apos) (e :: es) [] pos) (tMethS C m sp E ta t) := by
  refine ⟨fun pins s σ H Q I h => ?_⟩
  refine PySem.W.methodCall_KW (pl := pl) (thn (he.run pins s σ H _ I h) fun u s1 ⟨x, H1, I1, rx, a, dx, fs, ex, ea, l, q⟩ => ?_) ht
  subst ex
  obtain rfl : u = Value.ref a := rx
  refine getmeth_ok I1 ea c hm l ?_
  refine PySem.W.callWith_K (first := [.ref a]) (h₀ := X.base) I.ok.mod.kin hm.kp (thn (ha.run pos pins s1 σ H1 _ I1 q) fun us s2 ⟨vs, H2, I2, r, q2⟩ => ⟨I2.kIn, ?_⟩) hst hpl
  exact run_fnS (us := .ref a :: us) (vs := .ref a :: vs) F hr hb (hx σ) I2 (.cons rfl r) q2
theorem pe_methS0 {pl : Sem Bool} (he : PE X o ta) (c : Cls X.K C) (hm : Meth X.K C m f) (F : FnOk X.prog X.w X.K X.mg X.base CX k f fd ps sp) (hr : Room k X.A) (hb : Binds X.K fd ps []) (hx : ∀ σ, PassesAt CX X σ (E σ))
    (ht : eval (.Call (.Attribute o m apos) [] [] pos) X.env = (do
      let ov ← eval o X.env
      standAt apos.atName
      let (f, first) ← holding [ov] (getMethod ov m pl)
      callWith pos f first (backTo pos (starEach [] X.env)) (backToKw pos (keywordEach [] X.env)))) :
    PE X (.Call (.Attribute o m apos) [] [] pos) (tMethS C m sp E ta tNil) := by
  refine ⟨fun pins s σ H Q I h => ?_⟩
  refine PySem.W.methodCall_KW (pl := pl) (thn (he.run pins s σ H _ I h) fun u s1 ⟨x, H1, I1, rx, a, dx, fs, ex, ea, l, q⟩ => ?_) ht
  subst ex
  obtain rfl : u = Value.ref a := rx
  refine getmeth_ok I1 ea c hm l ?_
  exact PySem.W.callWith_K0 (first := [.ref a]) I1.kIn hm.kp (run_fnS (us := [.ref a]) (vs := [.ref a]) F hr hb (hx σ) I1 (.cons rfl .nil) q)
theorem pe_makeS (M : L2.Mk X.K C f) (F : FnOk X.prog X.w X.K X.mg X.base CX k f fd ps sp) (hr : Room (k + 1) X.A) (hg : Gl X x) (hm : X.mg x = some (.ref C)) (hb : Binds X.K fd ps []) (hx : ∀ σ, PassesAt CX X σ (E σ))
    (ha : PA X (e :: es) t) (hdb : (x == ("__debug__" : Str)) = false) (he : starEach (e :: es) X.env = (false, eval e X.env) :: starEach es X.env) (hpl : (backTo pos (starEach es X.env)).any (·.1) = false) :
    PE X (.Call (.Name x p) (e :: es) [] pos) (tMakeS C sp E t) := by
  refine ⟨fun pins s σ H Q I h => ?_⟩
  refine wpAny_Call_Name_kw (ld_glob I hg hm ?_ hdb)
  refine PySem.W.callWith_K (h₀ := X.base) I.ok.mod.kin M.kp (thn (ha.run pos pins s σ H _ I h) fun us s1 ⟨vs, H1, I1, r, q⟩ => ⟨I1.kIn, ?_⟩) he hpl
  have hq := q (s1.heap.objs.size + 1) s1.heap.objs.size (I1.hok.fresh (Nat.le_succ _)) (I1.hok.fresh (Nat.le_refl _)) (Nat.ne_of_lt (Nat.lt_succ_self _))
  have I2 := Inv.made (C := C) I1
  have r2 : Vals (V.ref (s1.heap.objs.size + 1) :: vs) (Value.ref (s1.heap.objs.size + 1) :: us) := .cons rfl r
  have hl : (Value.ref (s1.heap.objs.size + 1) :: us).length = ps.length := by
    have e := r2.length
    rw [F.len _ _ _ _ hq] at e
    exact e.symm
  have b := hb { s1 with heap := (s1.heap.push PySem.W.emptyDict).push (PySem.W.instObj C s1.heap.objs.size) } (Value.ref (s1.heap.objs.size + 1) :: us) I2.kIn (by rw [List.append_nil]; exact hl)
  rw [List.append_nil] at b
  show wpAny _ _ (call (.ref C) us) _ _ _
  refine wpAny_call (make_map (f := f) I1.kIn M.makes M.init (beq_iff_eq.mp M.fn) (codeAny_mono (F.run _ X.stack _ _ ⟨Value.ref (s1.heap.objs.size + 1) :: us, []⟩ (Value.ref (s1.heap.objs.size + 1) :: us) _ _ (E σ) (hr.make C us [])
    (I2.env0.make C us []) b r2 hq) fun r s' hq' => ?_))
  cases r with
  | error e => exact hx σ pins _ _ e s' I2 hq'
  | ok fl =>
    cases fl with
    | ret u =>
      obtain ⟨v, H', I3, rv, ew, q3⟩ := I2.after hq'
      subst ew
      exact ⟨rv, ⟨V.ref (s1.heap.objs.size + 1), H', I3, rfl, q3⟩⟩
    | next => exact False.elim hq'
    | brk => exact False.elim hq'
    | cont => exact False.elim hq'
end
end U

set_option Elab.async false
set_option linter.all false
set_option maxRecDepth 100000
set_option maxHeartbeats 1000000
/-! U29: instances as data. -/
namespace U
open PySem PySem.Spec PyProof.Rows L2
def putD (f : Str) (d : D) : List (Str × D) → List (Str × D)
  | [] => [(f, d)]
  | (g, x) :: r => if g = f then (g, d) :: r else (g, x) :: putD f d r
section
variable {K : PySem.W.Frag} {T hid : List Addr} {W : WX} {H H' : Hp} {M M' : Mu}
theorem putD_rel {f : Str} {v : V} {d : D} (r : Rv K hid H M v d) : ∀ {fvs : List (Str × V)} {fs : List (Str × D)}, fvs.map (·.1) = fs.map (·.1) → Rvs K hid H M (fvs.map (·.2)) (fs.map (·.2)) →
    (putF f v fvs).map (·.1) = (putD f d fs).map (·.1) ∧ Rvs K hid H M ((putF f v fvs).map (·.2)) ((putD f d fs).map (·.2))
  | [], [], _, _ => ⟨rfl, .cons r .nil⟩
  | [], _ :: _, h, _ => nomatch h
  | _ :: _, [], h, _ => nomatch h
  | (g, y) :: fvs, (g2, x) :: fs, h, k => by
    obtain ⟨rfl, h2⟩ : g = g2 ∧ fvs.map (·.1) = fs.map (·.1) := ⟨(List.cons.inj h).1, (List.cons.inj h).2⟩
    have k : Rvs K hid H M (y :: fvs.map (·.2)) (x :: fs.map (·.2)) := k
    cases k with
    | cons k1 k2 =>
      unfold putF putD
      by_cases e : g = f
      · rw [if_pos e, if_pos e]
        exact ⟨by rw [List.map_cons, List.map_cons, h2], .cons r k2⟩
      · rw [if_neg e, if_neg e]
        obtain ⟨i1, i2⟩ := putD_rel r h2 k2
        exact ⟨by rw [List.map_cons, List.map_cons, i1], .cons k1 i2⟩
theorem lookup_rel {f : Str} : ∀ {fvs : List (Str × V)} {fs : List (Str × D)}, fvs.map (·.1) = fs.map (·.1) → Rvs K hid H M (fvs.map (·.2)) (fs.map (·.2)) →
    (∀ d, fs.lookup f = some d → ∃ v, fvs.lookup f = some v ∧ Rv K hid H M v d) ∧ (fs.lookup f = none → fvs.lookup f = none)
  | [], [], _, _ => ⟨fun d h => (nomatch h), fun _ => rfl⟩
  | [], _ :: _, h, _ => nomatch h
  | _ :: _, [], h, _ => nomatch h
  | (g, y) :: fvs, (g2, x) :: fs, h, k => by
    obtain ⟨rfl, h2⟩ : g = g2 ∧ fvs.map (·.1) = fs.map (·.1) := ⟨(List.cons.inj h).1, (List.cons.inj h).2⟩
    have k : Rvs K hid H M (y :: fvs.map (·.2)) (x :: fs.map (·.2)) := k
    cases k with
    | cons k1 k2 =>
      obtain ⟨i1, i2⟩ := lookup_rel (f := f) h2 k2
      rw [List.lookup_cons, List.lookup_cons]
      cases e : f == g with
      | true => exact ⟨fun d h => (by cases h; exact ⟨y, rfl, k1⟩), fun h => (nomatch h)⟩
      | false => exact ⟨i1, i2⟩
theorem Sto.insAt (s : Sto K T hid H M) {p C : Addr} {fs : List (Str × D)} (h : M p = some (.ins C fs)) : ∃ dx fvs, H p = some (.ins C dx fvs) ∧ fvs.map (·.1) = fs.map (·.1) ∧ Rvs K hid H M (fvs.map (·.2)) (fs.map (·.2)) ∧ p ∉ hid := by
  obtain ⟨dx, fvs, h1, h2, h3⟩ := s.mem p _ h
  exact ⟨dx, fvs, h1, h2, h3, fun z => by rw [(s.hidn p z).1] at h; cases h⟩
theorem Ext.wrI (s : Sto K T hid H M) {p C dx : Addr} {fs fs' : List (Str × D)} {fvs' : List (Str × V)} (h : M p = some (.ins C fs)) : Ext hid H M (L2.upd H p (.ins C dx fvs')) (mset M p (.ins C fs')) := by
  obtain ⟨dx0, ys, h1, _, _, h3⟩ := s.insAt h
  refine ⟨fun a zs q => ?_, fun a o u q => ?_, fun a zs q q' z => ?_, fun a ha xs q => ?_, fun a h => upd_dom a h, fun a q q' => by
    by_cases z : a = p
    · rw [z, h] at q; cases q
    · rw [mset_ne z] at q'; exact absurd q q'⟩
  · rw [upd_ne (by rintro rfl; rw [h1] at q; cases q)]; exact q
  · rw [upd_ne (by rintro rfl; rw [h1] at q; cases q)]; exact q
  · have hne : a ≠ p := by rintro rfl; rw [h] at q'; cases q'
    exact ⟨by rw [upd_ne hne]; exact q, by rw [mset_ne hne]; exact q'⟩
  · rw [upd_ne (by rintro rfl; exact h3 ha)]; exact q
theorem Sto.wrI (s : Sto K T hid H M) {p C dx : Addr} {fs fs' : List (Str × D)} {fvs' : List (Str × V)} (h : M p = some (.ins C fs)) (n : fvs'.map (·.1) = fs'.map (·.1)) (r : Rvs K hid H M (fvs'.map (·.2)) (fs'.map (·.2))) : Sto K T hid (L2.upd H p (.ins C dx fvs')) (mset M p (.ins C fs')) := by
  have e := Ext.wrI (dx := dx) (fs' := fs') (fvs' := fvs') s h
  obtain ⟨dx0, ys, h1, _, _, h3⟩ := s.insAt h
  refine ⟨fun a m q => ?_, fun P hP => ?_, fun a ha => ?_⟩
  · by_cases hne : a = p
    · subst hne; rw [sf] at q; cases q
      exact ⟨dx, fvs', upd_same, n, e.rvs _ _ r⟩
    · rw [mset_ne hne] at q
      exact (s.mem a m q).ext e (upd_ne hne)
  · exact (s.tab P hP).upd fun u e => by rw [h1] at e; cases e; exact ⟨fun _ z => (nomatch z), fun _ _ z => (nomatch z)⟩
  · obtain ⟨k1, k2⟩ := s.hidn a ha
    have hne : a ≠ p := by rintro rfl; exact h3 ha
    exact ⟨by rw [mset_ne hne]; exact k1, by rw [upd_ne hne]; exact k2⟩
theorem make_ok (s : Sto K T hid H M) {x dx C : Addr} (hx : H x = none) (hd : H dx = none) (ne : dx ≠ x) : Sto K T hid (L2.upd (L2.upd H dx (.own x)) x (.ins C dx [])) (mset M x (.ins C [])) ∧ Ext hid H M (L2.upd (L2.upd H dx (.own x)) x (.ins C dx [])) (mset M x (.ins C [])) := by
  have s1 := s.new (o := .own x) hd
  have e1 : Ext hid H M (L2.upd H dx (.own x)) M := Ext.new s hd
  have hx1 : (L2.upd H dx (.own x)) x = none := by rw [upd_ne (Ne.symm ne)]; exact hx
  have e2 : Ext hid (L2.upd H dx (.own x)) M (L2.upd (L2.upd H dx (.own x)) x (.ins C dx [])) (mset M x (.ins C [])) := Ext.own (m := .ins C []) (o := .ins C dx []) s1 hx1
  refine ⟨⟨fun a m h => ?_, fun P hP => ?_, fun a ha => ?_⟩, e1.trans e2⟩
  · by_cases hne : a = x
    · subst hne; rw [sf] at h; cases h
      exact ⟨dx, [], upd_same, rfl, .nil⟩
    · rw [mset_ne hne] at h
      exact (s1.mem a m h).ext e2 (upd_ne hne)
  · exact (s1.tab P hP).upd0 hx1
  · obtain ⟨h1, h2⟩ := s1.hidn a ha
    have hne : a ≠ x := by rintro rfl; exact h2 hx1
    exact ⟨by rw [mset_ne hne]; exact h1, by rw [upd_ne hne]; exact h2⟩
end
/-! ### words -/
def fFld (C : Addr) (f : Str) (fo : FE) : FE := fun xw ρ M Q => fo xw ρ M fun d M1 => match d with
  | .loc a => (match M1 a with
    | some (.ins C' fs) => C' = C ∧ (match fs.lookup f with
      | some v => Q v M1
      | none => False)
    | _ => False)
  | _ => False
def fSetF (C : Addr) (f : Str) (fo fe : FE) : FS := fun E ρ M => fe (xwAt E ρ) ρ M fun d M1 => fo (xwAt E ρ) ρ M1 fun o M2 => match o with
  | .loc a => (match M2 a with
    | some (.ins C' fs) => C' = C ∧ fs.length < 1000 ∧ E.nx ρ (mset M2 a (.ins C (putD f d fs)))
    | _ => False)
  | _ => False
def fOwnF (C : Addr) (f : Str) (fo : FE) (fl : FL) : FS := fun E ρ M => fl (xwAt E ρ) ρ M fun ds M1 => ∀ p, M p = none → M1 p = none → fo (xwAt E ρ) ρ (mset M1 p (.lst ds)) fun o M2 => match o with
  | .loc a => (match M2 a with
    | some (.ins C' fs) => C' = C ∧ fs.length < 1000 ∧ E.nx ρ (mset M2 a (.ins C (putD f (.loc p) fs)))
    | _ => False)
  | _ => False
def fMeth (C : Addr) (m : Str) (S : FSpec) (fo : FE) (fa : FA) : FE := fun xw ρ M Q => fo xw ρ M fun o M1 => match o with
  | .loc a => (match M1 a with
    | some (.ins C' fs) => C' = C ∧ fs.lookup m = none ∧ fa xw ρ M1 fun ds M2 => S (.loc a :: ds) M2 Q xw
    | _ => False)
  | _ => False
def fMake (C : Addr) (S : FSpec) (fa : FA) : FE := fun xw ρ M Q => fa xw ρ M fun ds M1 => ∀ x, M1 x = none → S (.loc x :: ds) (mset M1 x (.ins C [])) (fun d M2 => d = .non ∧ Q (.loc x) M2) xw
structure FnM (P : Program) (w : World) (K : PySem.W.Frag) (mg : Str → Option Value) (base : Heap) (T : List Addr) (k : Nat) (C : Addr) (m : Str) (S : FSpec) : Prop where
  ex : ∃ f fd ps, Meth K C m f ∧ Binds K fd ps [] ∧ FnOk P w K mg base (L2.CX P w) k f fd ps (spOf K T S)
theorem FnM.mono {P : Program} {w : World} {K : PySem.W.Frag} {mg : Str → Option Value} {base : Heap} {T : List Addr} {j k : Nat} {C : Addr} {m : Str} {S : FSpec} (F : FnM P w K mg base T j C m S) (h : j ≤ k) : FnM P w K mg base T k C m S :=
  let ⟨f, fd, ps, a, b, d⟩ := F.ex; ⟨f, fd, ps, a, b, d.mono h⟩
section
variable {X : Cx} {T : List Addr} {W : WX} {C : Addr} {f m : Str} {o e : Expr} {fo fe : FE} {pos pos' apos p : Pos} {k : Nat} {S : FSpec} {es : List Expr} {fa : FA} {fl : FL}
theorem de_fld (he : DE X T W o fo) (c : Cls X.K C) (n : NoAttr X.K C f) (hb : attributeBase o f X.env (eval o X.env) = eval o X.env) : DE X T W (.Attribute o f pos) (fFld C f fo) := by
  obtain ⟨to, po, so⟩ := he
  refine ⟨_, pe_fld po hb, fun hid σ H ρ M xw Q Qv r s w q p => ?_⟩
  refine so hid σ H ρ M xw _ _ r s w q fun v H1 d M1 s1 e1 r1 q1 => ?_
  split at q1
  · rename_i a
    split at q1
    · rename_i C' fs em
      obtain ⟨rfl, q1⟩ := q1
      split at q1
      · rename_i v2 hl
        cases r1
        obtain ⟨dx, fvs, h1, h2, h3, _⟩ := s1.insAt em
        obtain ⟨u, hu, ru⟩ := (lookup_rel h2 h3).1 _ hl
        exact ⟨a, C', dx, fvs, u, rfl, h1, c, n, hu, p u H1 v2 M1 s1 e1 ru q1⟩
      · exact q1.elim
    · exact q1.elim
  · exact q1.elim
theorem ds_setF (he : DE X T W o fo) (hv : DE X T W e fe) (c : Cls X.K C) (n : NoAttr X.K C f) (hs : swapsWith e (some (.Attribute o f pos')) pos.line X.env = pure false) : DS X T W (.Assign [.Attribute o f pos'] e pos) (fSetF C f fo fe) := by
  obtain ⟨to, po, so⟩ := he
  obtain ⟨te, pe, se⟩ := hv
  refine ⟨_, ps_fld po pe hs, fun hid σ H ρ M E D r s w q k => ?_⟩
  refine se hid σ H ρ M _ _ _ r s (w.at r) q fun v H1 d M1 s1 e1 r1 q1 => ?_
  refine so hid σ H1 ρ M1 _ _ _ (r.ext e1) s1 ((w.at r).ext e1) q1 fun u H2 o2 M2 s2 e2 r2 q2 => ?_
  split at q2
  · rename_i a
    split at q2
    · rename_i C' fs em
      obtain ⟨rfl, ql, q2⟩ := q2
      cases r2
      obtain ⟨dx, fvs, h1, h2, h3, _⟩ := s2.insAt em
      obtain ⟨n1, n2⟩ := putD_rel (f := f) (e2.rv _ _ r1) h2 h3
      have hl : fvs.length = fs.length := by have := congrArg List.length h2; rwa [List.length_map, List.length_map] at this
      have ew := Ext.wrI (dx := dx) (fs' := putD f d fs) (fvs' := putF f v fvs) s2 em
      have ee := (e1.trans e2).trans ew
      exact ⟨a, C', dx, fvs, rfl, h1, c, n, by omega, k.nx σ _ ρ _ (r.ext ee) (s2.wrI em n1 n2) ee q2⟩
    · exact q2.elim
  · exact q2.elim
theorem ds_ownF (he : DE X T W o fo) (hv : DL X T W e fl) (c : Cls X.K C) (n : NoAttr X.K C f) (hs : swapsWith e (some (.Attribute o f pos')) pos.line X.env = pure false) : DS X T W (.Assign [.Attribute o f pos'] e pos) (fOwnF C f fo fl) := by
  obtain ⟨to, po, so⟩ := he
  obtain ⟨te, pe, se⟩ := hv
  refine ⟨_, ps_fld po pe hs, fun hid σ H ρ M E D r s w q k => ?_⟩
  refine se hid σ H ρ M _ _ _ r s (w.at r) q fun pp xs H1 ds M1 hp hn s1 e1 h1 r1 q1 => ?_
  have e2 : Ext hid H M H1 (mset M1 pp (.lst ds)) := e1.owned hp
  have s2 := s1.owned hn h1 r1
  have q1 := q1 pp (s.fresh hp).1 (s1.hidn pp List.mem_cons_self).1
  refine so hid σ H1 ρ _ _ _ _ (r.ext e2) s2 ((w.at r).ext e2) q1 fun u H2 o2 M2 s3 e3 r2 q2 => ?_
  split at q2
  · rename_i a
    split at q2
    · rename_i C' fs em
      obtain ⟨rfl, ql, q2⟩ := q2
      cases r2
      obtain ⟨dx, fvs, g1, g2, g3, _⟩ := s3.insAt em
      obtain ⟨n1, n2⟩ := putD_rel (K := X.K) (hid := hid) (H := H2) (M := M2) (f := f) (v := .ref pp) (d := .loc pp) (.loc pp) g2 g3
      have hl : fvs.length = fs.length := by have := congrArg List.length g2; rwa [List.length_map, List.length_map] at this
      have ew := Ext.wrI (dx := dx) (fs' := putD f (.loc pp) fs) (fvs' := putF f (.ref pp) fvs) s3 em
      have ee := (e2.trans e3).trans ew
      exact ⟨a, C', dx, fvs, rfl, g1, c, n, by omega, k.nx σ _ ρ _ (r.ext ee) (s3.wrI em n1 n2) ee q2⟩
    · exact q2.elim
  · exact q2.elim
theorem de_meth {pl : Sem Bool} (he : DE X T W o fo) (c : Cls X.K C) (F : FnM X.prog X.w X.K X.mg X.base T k C m S) (hr : Room k X.A) (tk : Takes X W) (ha : DA X T W (e :: es) fa)
    (hst : starEach (e :: es) X.env = (false, eval e X.env) :: starEach es X.env) (hpl : (backTo pos (starEach es X.env)).any (·.1) = false)
    (ht : eval (.Call (.Attribute o m apos) (e :: es) [] pos) X.env = (do
      let ov ← eval o X.env
      standAt apos.atName
      let (f, first) ← holding [ov] (getMethod ov m pl)
      callWith pos f first (backTo pos (starEach (e :: es) X.env)) (backToKw pos (keywordEach [] X.env)))) : DE X T W (.Call (.Attribute o m apos) (e :: es) [] pos) (fMeth C m S fo fa) := by
  obtain ⟨g, fd, ps, hm, hb, G⟩ := F.ex
  obtain ⟨to, po, so⟩ := he
  obtain ⟨ta, pa, sa⟩ := ha
  refine ⟨_, pe_methS po c hm G hr hb (fun σ => passAt tk σ) pa hst hpl ht, fun hid σ H ρ M xw Q Qv r s w q p => ?_⟩
  refine so hid σ H ρ M xw _ _ r s w q fun v H1 d M1 s1 e1 r1 q1 => ?_
  split at q1
  · rename_i a
    split at q1
    · rename_i C' fs em
      obtain ⟨rfl, hl, q1⟩ := q1
      cases r1
      obtain ⟨dx, fvs, h1, h2, h3, _⟩ := s1.insAt em
      refine ⟨a, dx, fvs, rfl, h1, (lookup_rel h2 h3).2 hl, ?_⟩
      refine sa hid σ H1 ρ M1 xw _ _ (r.ext e1) s1 (w.ext e1) q1 fun vs H2 ds M2 s2 e2 r2 q2 => ?_
      exact ⟨hid, .loc a :: ds, M2, Q, xw, s2, .cons (.loc a) r2, q2, p.ext (e1.trans e2), fun cls dd H' M' xd s3 e3 x3 q3 => w cls dd H' M' xd s3 ((e1.trans e2).trans e3) x3 q3⟩
    · exact q1.elim
  · exact q1.elim
theorem de_meth0 {pl : Sem Bool} (he : DE X T W o fo) (c : Cls X.K C) (F : FnM X.prog X.w X.K X.mg X.base T k C m S) (hr : Room k X.A) (tk : Takes X W)
    (ht : eval (.Call (.Attribute o m apos) [] [] pos) X.env = (do
      let ov ← eval o X.env
      standAt apos.atName
      let (f, first) ← holding [ov] (getMethod ov m pl)
      callWith pos f first (backTo pos (starEach [] X.env)) (backToKw pos (keywordEach [] X.env)))) : DE X T W (.Call (.Attribute o m apos) [] [] pos) (fMeth C m S fo fNil) := by
  obtain ⟨g, fd, ps, hm, hb, G⟩ := F.ex
  obtain ⟨to, po, so⟩ := he
  refine ⟨_, pe_methS0 po c hm G hr hb (fun σ => passAt tk σ) ht, fun hid σ H ρ M xw Q Qv r s w q p => ?_⟩
  refine so hid σ H ρ M xw _ _ r s w q fun v H1 d M1 s1 e1 r1 q1 => ?_
  split at q1
  · rename_i a
    split at q1
    · rename_i C' fs em
      obtain ⟨rfl, hl, q1⟩ := q1
      cases r1
      obtain ⟨dx, fvs, h1, h2, h3, _⟩ := s1.insAt em
      refine ⟨a, dx, fvs, rfl, h1, (lookup_rel h2 h3).2 hl, ?_⟩
      have q1 : S [.loc a] M1 Q xw := q1
      exact ⟨hid, [.loc a], M1, Q, xw, s1, .cons (.loc a) .nil, q1, p.ext e1, fun cls dd H' M' xd s3 e3 x3 q3 => w cls dd H' M' xd s3 (e1.trans e3) x3 q3⟩
    · exact q1.elim
  · exact q1.elim
theorem de_make {x : Str} (M : L2.Mk X.K C g0) (F : ∃ fd ps, Binds X.K fd ps [] ∧ FnOk X.prog X.w X.K X.mg X.base (L2.CX X.prog X.w) k g0 fd ps (spOf X.K T S)) (hr : Room (k + 1) X.A) (tk : Takes X W) (hg : Gl X x) (hm : X.mg x = some (.ref C)) (ha : DA X T W (e :: es) fa)
    (hdb : (x == ("__debug__" : Str)) = false) (he : starEach (e :: es) X.env = (false, eval e X.env) :: starEach es X.env) (hpl : (backTo pos (starEach es X.env)).any (·.1) = false) : DE X T W (.Call (.Name x p) (e :: es) [] pos) (fMake C S fa) := by
  obtain ⟨fd, ps, hb, G⟩ := F
  obtain ⟨ta, pa, sa⟩ := ha
  refine ⟨_, pe_makeS M G hr hg hm hb (fun σ => passAt tk σ) pa hdb he hpl, fun hid σ H ρ M xw Q Qv r s w q po => ?_⟩
  refine sa hid σ H ρ M xw _ _ r s w q fun vs H1 ds M1 s1 e1 r1 q1 => ?_
  intro y dx hy hd ne
  obtain ⟨s2, e2⟩ := make_ok (C := C) s1 hy hd ne
  refine ⟨hid, .loc y :: ds, mset M1 y (.ins C []), _, xw, s2, .cons (.loc y) (e2.rvs _ _ r1), q1 y (s1.fresh hy).1, fun v H3 d M3 s3 e3 r3 q3 => ?_, fun cls dd H' M' xd s3 e3 x3 q3 => w cls dd H' M' xd s3 ((e1.trans e2).trans e3) x3 q3⟩
  obtain ⟨rfl, q3⟩ := q3
  cases r3
  exact ⟨rfl, po _ H3 (.loc y) M3 s3 ((e1.trans e2).trans e3) (.loc y) q3⟩
end
/-! ### a def whose new lists stay -/
def bodyK (N : List Str) (f : FS) (ds : List D) (M : Mu) (Q : D → Mu → Prop) (xw : XW) : Prop :=
  f { nx := fun _ M' => Q .non M', rt := fun d M' => Q d M', xw := fun xd _ M' => xw xd M' } (zi N ds) M
theorem fn_okK {P : Program} {w : World} {K : PySem.W.Frag} {mg : Str → Option Value} {base : Heap} {N ps : List Str} {sc : Scope} {k : Nat} {T : List Addr} {x qual : Str} {params : Arguments} {body : List Stmt} {f : Addr} {fd : FuncData} {S : FSpec} {fs : FS} (F : FunD K x qual params body sc [] [] f fd) (sco : FnScope N ps sc)
    (har : ∀ ds M Q xw, S ds M Q xw → ds.length = ps.length)
    (hd : ∀ X W, Std P w K mg base N sc (fun _ => true) k W X → DSs X T W body fs)
    (hs : ∀ ds M Q xw, S ds M Q xw → bodyK N fs ds M Q xw) : FnOk P w K mg base (L2.CX P w) (k + 1) f fd ps (spOf K T S) := by
  refine F.ok sco (fun vs H Q E h => ?_) fun cdv A outer s H vs Q E hr h => ?_
  · obtain ⟨hid, ds, M, Qd, xw, s, r, q, _⟩ := h
    rw [r.length]
    exact har ds M Qd xw q
  · obtain ⟨hid, ds, M, Qd, xw, st, r, q, po, px⟩ := h
    have hl : vs.length = ds.length := r.length
    have g : Std P w K mg base N sc (fun _ => true) k (fun cls d _ H' => E cls d H') (cxOf (L2.CX P w) P w K mg base N qual sc f cdv A outer s H E) :=
      ⟨rfl, rfl, rfl, rfl, rfl, rfl, sco.nd, rfl, fun _ _ => rfl, rfl, takes_of rfl rfl rfl rfl, passes_of rfl, hr⟩
    obtain ⟨t, p, sim⟩ := hd _ _ g
    refine ⟨t, p, sim hid _ H (zi N ds) M { nx := fun _ M' => Qd .non M', rt := fun d M' => Qd d M', xw := fun xd _ M' => xw xd M' } _ ⟨?_, fun i d hi => ?_⟩ st (fun cls dd σ' H' ρ' M' xd r' s' e' x' q' => ?_) (hs ds M Qd xw q) ⟨?_, ?_, fun _ _ _ _ _ _ _ z => z, fun _ _ _ _ _ _ _ z => z⟩⟩
    · unfold zi L2.start
      rw [List.length_append, List.length_append, List.length_map, List.length_map, List.length_replicate, List.length_replicate, hl]
    · unfold zi at hi
      have hi' : i < ds.length := by
        by_cases h : i < ds.length
        · exact h
        · rw [List.getElem?_append_right (by simpa using h), List.getElem?_replicate] at hi
          split at hi <;> cases hi
      rw [List.getElem?_append_left (by simpa using hi'), List.getElem?_map] at hi
      have hd' : ds[i]? = some d := by
        cases e : ds[i]? with
        | none => rw [e] at hi; cases hi
        | some a => rw [e] at hi; cases hi; rfl
      obtain ⟨v, h1, h2⟩ := r.get i hd'
      refine ⟨v, ?_, h2⟩
      unfold L2.start
      rw [List.getElem?_append_left (by rw [List.length_map]; omega), List.getElem?_map, h1]
      rfl
    · exact px cls dd H' M' xd s' e' x' q'
    · intro σ' H' ρ' M' r' s' e' q'
      exact po _ H' _ M' s' e' .non q'
    · intro v H' d M' s' e' r' q'
      exact po v H' d M' s' e' r' q'
end U

set_option Elab.async false
set_option linter.all false
set_option maxRecDepth 100000
set_option maxHeartbeats 2000000
/-! U30: try with several clauses 'except x as n' (one name n). -/
namespace U
open PySem PySem.Spec PyProof.Rows L2
/-- what the clauses wish of an error of the body, one after the other -/
def wTwo (K : PySem.W.Frag) (Wout : WX) (D : Ends) (i : Nat) : List (Value × (Addr → Value → Option Addr → TS)) → WX
  | [] => Wout
  | (c, ts) :: r => wAs K c i ts (wTwo K Wout D i r) D
inductive HdsAs (X : Cx) (n : Str) : List ExceptHandler → List (Value × (Addr → Value → Option Addr → TS)) → Prop
  | nil : HdsAs X n [] []
  | cons {x : Str} {c : Value} {ts : Addr → Value → Option Addr → TS} {b₀ : Stmt} {suite : List Stmt} {np pos' : Pos} {hds : List ExceptHandler} {l : List (Value × (Addr → Value → Option Addr → TS))} (hc : Names X x c)
      (hsu : ∀ (a : Addr) (oe : Obj) (cls : Value) (d : Option Addr) (pn : List (Addr × Obj)), Zc cls d oe → (∃ vs, oe.data = .fields vs) → PSs (X.suite a ((a, oe) :: pn)) (b₀ :: suite) (ts a cls d)) (r : HdsAs X n hds l) :
      HdsAs X n (.ExceptHandler (some (.Name x np)) (some n) (b₀ :: suite) pos' :: hds) ((c, ts) :: l)
section
variable {X : Cx} {n : Str} {i : Nat} {body : List Stmt} {h₀ : ExceptHandler} {hds : List ExceptHandler} {l : List (Value × (Addr → Value → Option Addr → TS))} {pos : Pos} {tb : WX → TS} {Wout : WX}
theorem ps_try_as' (hs : X.stack = X.env :: X.outer) (hf : X.env.frame = some X.env.locals) (hN : X.N.Nodup) (hi : X.N[i]? = some n) (hln : X.env.kindOf n = some .local) (tk : Takes X Wout)
    (hb : ∀ (W : WX) (pn : List (Addr × Obj)) (xe : Value → Shared → Prop), Takes (X.tr pn xe) W → PassesOwn (model X.prog X.w) X.A X.env xe → PSs (X.tr pn xe) body (tb W))
    (hh : HdsAs X n (h₀ :: hds) l) : PS X (.Try body (h₀ :: hds) [] [] pos) (fun D σ H => tb (wTwo X.K Wout D i l) D σ H) := by
  refine ⟨fun pins s σ H D I h => ?_⟩
  have ok := I.ok
  have hfr : X.A.frames = some (X.env :: X.outer) := by rw [ok.frames, hs]
  have hloc : Loc X.env.scope n := .inl hln
  refine wpAny_Try_except ?_
  refine wpAny_mono ((hb (wTwo X.K Wout D i l) (X.pn ++ pins) (fun e s₁ => wpAny (model X.prog X.w) X.A (noteFrame e X.env) (fun _ s₂ => wpAny (model X.prog X.w) X.A (setFlight e none) (fun _ s₃ =>
    wpAny (model X.prog X.w) X.A (handleBy e X.env (h₀ :: hds)) (SP X pins D) X.xe s₃) X.xe s₂) X.xe s₁) (fun u s' xx => ?_) PassesOwn.looking).run [] s σ H D (I.toTry _) h) (fun f s1 hsp => ?_) (fun e s1 he => he)
  · obtain ⟨a, B, sI, pins', σ', H', cls, d, rfl, J', nb, up, sky, na, os, ag, w⟩ := xx
    have J : L2.Inv X pins σ' H' sI := J'.ofTry ok
    have sky' : Sky B (X.env :: X.outer) a (Zc cls d) X.env.locals s'.heap := by rw [← hs]; exact sky
    show wpAny (model X.prog X.w) X.A (noteFrame (.ref a) X.env) _ _ _
    refine Sky.land Zc.steady hfr hf sky' fun h3 fl3 up3 => ?_
    have J3 : L2.Inv X pins σ' H' { s' with heap := h3 } := J.landed nb fl3.1 (up.trans up3) os ag
    obtain ⟨oe3, vs3, he3, hz3, hd3⟩ := fl3.there
    have nfr : a ∉ frs (X.env :: X.outer) := fun hm => by
      obtain ⟨_, o', e', hnf⟩ := fl3.2.2.1.mem hm
      rw [he3] at e'; cases e'
      exact hnf _ hd3
    have nL : a ≠ X.env.locals := fun z => nfr (List.mem_filterMap.mpr ⟨X.env, List.mem_cons_self, by rw [hf, z]⟩)
    have nF : a ∉ X.fs := fun hm => by
      obtain ⟨e, he, q⟩ := List.mem_filterMap.mp hm
      exact nfr (List.mem_filterMap.mpr ⟨e, List.mem_cons_of_mem _ he, q⟩)
    have S3 := J3.suite he3 hd3 na nL nF
    have go : ∀ {hds' : List ExceptHandler} {l' : List (Value × (Addr → Value → Option Addr → TS))}, HdsAs X n hds' l' → wTwo X.K Wout D i l' cls d σ' H' →
        wpAny (model X.prog X.w) X.A (handleBy (.ref a) X.env hds') (SP X pins D) X.xe { s' with heap := h3 } := by
      intro hds' l' hk
      induction hk with
      | nil =>
        intro w
        refine wpAny_handleBy_nil ?_
        obtain ⟨k1, k2, k3, oe, vs, T, oT, ts', he, hz, hd, h1, hr⟩ := id fl3
        unfold PySem.passOn
        refine wpAny_bind (wpAny_field he hd h1 ?_)
        rw [if_neg (show ¬ ((Value.ref T == Value.none) = true) from by simp)]
        have fin : wpAny (model X.prog X.w) X.A (setFlight (.ref a) X.env.frame) (fun _ s4 => wpAny (model X.prog X.w) X.A (throw (.ref a) : Sem Flow) (SP X pins D) X.xe s4) X.xe { s' with heap := h3 } := by
          rw [hf]
          refine HandSPX.setFlight_upZ fl3 fun h4 hh4 up4 => wpAny_throw (tk _ _ ?_)
          exact ⟨a, B, sI, pins, σ', H', cls, d, rfl, J, nb, (up.trans up3).trans up4, .inr (.inr (by rw [hs]; exact hh4)), na, os, ag, w⟩
        first
          | exact wpAny_bind (wpAny_pure (wpAny_bind fin))
          | exact wpAny_bind fin
      | @cons x c ts b₀ suite np pos' hds2 l2 hc hsu r ih =>
        intro w
        obtain ⟨b, hb1, hyes, hno⟩ := w
        refine wpAny_handleBy_cons (codeAny_handlers_test ?_) (by intro q; cases q)
        have LT : PySem.W.Looks (model X.prog X.w) h3 (typeOf (.ref a)) cls := fun A Q E s k q => wpAny_typeOf_ref (k _ _ he3) (by rw [hz3.1]; exact q)
        have LM := PySem.W.exm_one (M := model X.prog X.w) (J3.kIn) LT hb1
        have test : ∀ {Q : Value → Shared → Prop} {E : Value → Shared → Prop}, Q c { s' with heap := h3 } → wpAny (model X.prog X.w) (X.A.mark (some (.ref a))) (eval (.Name x np) X.env) Q E { s' with heap := h3 } := fun {Q E} q => by
          obtain ⟨hg, hdbg, hm | ⟨hm, hv, hnn⟩⟩ := hc
          · exact ld_glob (X := X.suite a ((a, oe3) :: (X.pn ++ pins))) S3 hg hm q hdbg
          · exact ld_blt (X := X.suite a ((a, oe3) :: (X.pn ++ pins))) S3 hg hm hv q hnn hdbg
        refine test (LM.here ?_)
        cases b with
        | true =>
          refine codeAny_handlers_suite_as ?_
          refine HandSPX.lands_againZ fl3 fun h4 fl4 up4 => ?_
          have J4 : L2.Inv X pins σ' H' { s' with heap := h4 } := J.landed nb fl4.1 ((up.trans up3).trans up4) os ag
          obtain ⟨oe4, vs4, he4, hz4, hd4⟩ := fl4.there
          have S4 := J4.suite he4 hd4 na nL nF
          refine store_ok (X := X.suite a ((a, oe4) :: (X.pn ++ pins))) (v := .ref a) S4 hN hi hloc rfl (fun s5 S5 => ?_) (.inr hln)
          refine wpAny_mono ((hsu a oe4 cls d (X.pn ++ pins) hz4 ⟨_, hd4⟩).run [] s5 _ H' _ S5 (hyes rfl a na)) (fun f s6 hsp => ?_) (fun _ _ z => False.elim z)
          have end_ : ∀ {σ6 : L2.St} {H6 : Hp} {Q : Shared → Prop}, L2.Inv (X.suite a ((a, oe4) :: (X.pn ++ pins))) [] σ6 H6 s6 → (∀ s7, L2.Inv X pins (σ6.set i none) H6 s7 → Q s7) →
              wpAny (model X.prog X.w) X.A (do bindName X.env n .none; unbindBehindTheSuite X.env n pos') (fun _ s7 => Q s7) X.xe s6 := fun {σ6 H6 Q} S6 hq => gone_ok (S6.unsuite ok) hN hi hln hq
          cases f with
          | next =>
            obtain ⟨σ6, H6, S6, q6⟩ := hsp
            exact end_ S6 fun s7 J7 => ⟨_, _, J7, q6⟩
          | brk =>
            obtain ⟨σ6, H6, S6, q6⟩ := hsp
            exact end_ S6 fun s7 J7 => ⟨_, _, J7, q6⟩
          | cont =>
            obtain ⟨σ6, H6, S6, q6⟩ := hsp
            exact end_ S6 fun s7 J7 => ⟨_, _, J7, q6⟩
          | ret u =>
            obtain ⟨v6, σ6, H6, S6, r6, q6⟩ := hsp
            exact end_ S6 fun s7 J7 => ⟨_, _, _, J7, r6, q6⟩
        | false =>
          show wpAny _ X.A (handleBy (.ref a) X.env hds2) _ _ _
          exact ih (hno rfl)
    exact go hh w
  · cases f with
    | next =>
      obtain ⟨σ', H', J', q⟩ := hsp
      exact wpAny_execs_nil ⟨σ', H', J'.ofTry ok, q⟩
    | brk =>
      obtain ⟨σ', H', J', q⟩ := hsp
      exact ⟨σ', H', J'.ofTry ok, q⟩
    | cont =>
      obtain ⟨σ', H', J', q⟩ := hsp
      exact ⟨σ', H', J'.ofTry ok, q⟩
    | ret u =>
      obtain ⟨v, σ', H', J', r, q⟩ := hsp
      exact ⟨v, σ', H', J'.ofTry ok, r, q⟩
end
end U

set_option Elab.async false
set_option linter.all false
set_option maxRecDepth 100000
set_option maxHeartbeats 1000000
/-! U31: two clauses whose suites return a truth value that hangs on an int at slot j. -/
namespace U
open PySem PySem.Spec PyProof.Rows L2
theorem PE.less {X : Cx} {e : Expr} {t t' : TE} (h : PE X e t) (k : ∀ σ H Q, σ.length = X.N.length → t' σ H Q → t σ H Q) : PE X e t' := ⟨fun pins s σ H Q I q => h.run pins s σ H Q I (k _ _ _ I.len q)⟩
/-- slot j holds the int n -/
def AtJ (i : Nat) (a : Addr) (j : Nat) (σ : L2.St) (n : Int) : Prop := At i a σ ∧ σ[j]? = some (some (.int n))
def SG (X : Cx) (i : Nat) (a : Addr) (j : Nat) (e : Expr) (g : Int → Bool) : Prop := PE X e fun σ H Q => ∃ n, AtJ i a j σ n ∧ Q (.bl (g n)) H
def SRg (X : Cx) (i : Nat) (a : Addr) (j : Nat) (sts : List Stmt) (g : Int → Bool) : Prop := PSs X sts fun D σ H => ∃ n, AtJ i a j σ n ∧ D.rt (.bl (g n)) H
section
variable {X : Cx} {i j : Nat} {a C : Addr} {b : Bool} {e e1 e2 : Expr} {es : List Expr} {g h : Int → Bool} {pos p px py : Pos} {sts rest : List Stmt}
theorem sg_not (k : SG X i a j e g) : SG X i a j (.UnaryOp .Not e pos) fun n => !g n := PE.less (pe_not k) fun _ _ _ _ ⟨n, q1, q2⟩ => ⟨n, q1, _, rfl, q2⟩
theorem sg_and1 (k : SG X i a j e g) : SG X i a j (.BoolOp .And [e] pos) g := pe_one k
theorem sg_and (k : SG X i a j e g) (k2 : SG X i a j (.BoolOp .And (e2 :: es) pos) h) : SG X i a j (.BoolOp .And (e :: e2 :: es) pos) fun n => g n && h n :=
  PE.less (pe_and k k2) fun _ H Q _ ⟨n, q1, q2⟩ => ⟨n, q1, _, rfl, by
    have q2 : Q (.bl (g n && h n)) H := q2
    cases e : g n with
    | true =>
      rw [e] at q2
      exact ⟨n, q1, q2⟩
    | false =>
      rw [e] at q2
      exact q2⟩
theorem srg_ret (k : SG X i a j e g) : SRg X i a j [.Return (some e) pos] g := PSs.less (pss_one (ps_ret k)) fun _ _ _ _ q => q
theorem srg_if_f (k : SB X i a e false) (r : SRg X i a j rest g) : SRg X i a j (.If e sts [] pos :: rest) g := PSs.less (pss_cons (ps_if k pss_never pss_nil) r) fun _ _ _ _ ⟨n, q1, q2⟩ => ⟨q1.1, n, q1, q2⟩
theorem sg_lt {m : Str} {c : Int} {kk : Nat} (hN : X.N[j]? = some m) (hv : Vis X.env.scope m) (hd : (m == ("__debug__" : Str)) = false) (hcd : (m == ("__classdict__" : Str)) = false) (hm : behindInMarks .Lt (.Constant (.int c) kk py) = false) :
    SG X i a j (.Compare (.Name m px) [.Lt] [.Constant (.int c) kk py] pos) fun n => decide (n < c) :=
  PE.less (pe_cmpR op_lt (pe_var hN hv hd hcd) pe_int hm) fun _ _ _ _ ⟨n, q1, q2⟩ => ⟨.int n, q1.2, n, c, rfl, rfl, q2⟩
theorem sg_is {oe : Obj} {pn : List (Addr × Obj)} {n y : Str} {cv : V} {cw : Value} (F : ExcC X.K C) (hz : Zc (.ref C) none oe) (hf : ∃ vs, oe.data = .fields vs)
    (hN : X.N[i]? = some n) (hv : Vis X.env.scope n) (hc : PE (X.suite a ((a, oe) :: pn)) (.Name y py) (tC cv)) (hcv : ∀ u, RelV cv u → u = cw) (hb : PySem.W.kitOne X.K (.ref C) cw = some b) (hg : Gl X "isinstance") (hm : X.mg "isinstance" = none)
    (hd : (n == ("__debug__" : Str)) = false) (hcd : (n == ("__classdict__" : Str)) = false)
    (hs : starEach [.Name n px, .Name y py] X.env = (false, eval (.Name n px) X.env) :: starEach [.Name y py] X.env) (hpl : (backTo pos (starEach [.Name y py] X.env)).any (·.1) = false) :
    SG (X.suite a ((a, oe) :: pn)) i a j (.Call (.Name "isinstance" p) [.Name n px, .Name y py] [] pos) fun _ => b := by
  have hv' : PE (X.suite a ((a, oe) :: pn)) (.Name n px) (tVar i) := pe_var hN hv hd hcd
  have hi : bootBuiltins "isinstance" = some (.builtin "isinstance") := boot_isinstance
  have ha : PA (X.suite a ((a, oe) :: pn)) [.Name n px, .Name y py] (tCons (tVar i) (tCons (tC cv) tNil)) := pa_cons hv' (pa_cons hc pa_nil)
  refine PE.less (pe_callB (call_isE F hz hf) hg hm hi ha (by decide) (by decide) hs hpl) fun σ H Q hl q => ?_
  obtain ⟨k, ⟨⟨σ0, e⟩, _⟩, q⟩ := q
  have hi : i < X.N.length := (List.getElem?_eq_some_iff.mp hN).1
  have hl0 : σ.length = X.N.length := hl
  have hlen : i < σ0.length := by rw [e, List.length_set] at hl0; omega
  exact ⟨.ref a, by rw [e, List.getElem?_set_self hlen], cv, cw, b, rfl, hcv, hb, q⟩
end
/-- try: .. except C1 as e: .. return g1 except C2 as e: .. return g2 (of the int at slot j) -/
def fTry2 (C1 C2 : Addr) (g1 g2 : Int → Bool) (j : Nat) (fb : FS) : FS := fun E ρ M => fb { E with xw := fun xd ρ' M' => ∃ n : Int, ρ'[j]? = some (some (.int n)) ∧ ((xd = ⟨C1, []⟩ ∧ E.rt (.bl (g1 n)) M') ∨ (xd = ⟨C2, []⟩ ∧ E.rt (.bl (g2 n)) M')) } ρ M
section
variable {X : Cx} {T : List Addr} {W : WX}
theorem ds_try2 {x1 x2 n : Str} {c1 c2 : Value} {i j : Nat} {C1 C2 : Addr} {g1 g2 : Int → Bool} {body s1 s2 : List Stmt} {b1 b2 : Stmt} {np1 np2 pos pos1 pos2 : Pos} {fb : FS} (hs : X.stack = X.env :: X.outer) (hf : X.env.frame = some X.env.locals) (hN : X.N.Nodup) (hi : X.N[i]? = some n) (hln : X.env.kindOf n = some .local) (hij : i ≠ j)
    (hc1 : Names X x1 c1) (hc2 : Names X x2 c2) (h11 : PySem.W.exmOne X.K (.ref C1) c1 = some true) (h21 : PySem.W.exmOne X.K (.ref C2) c1 = some false) (h22 : PySem.W.exmOne X.K (.ref C2) c2 = some true) (tk : Takes X W)
    (hb : ∀ (W' : WX) (pn : List (Addr × Obj)) (xe : Value → Shared → Prop), Takes (X.tr pn xe) W' → PassesOwn (model X.prog X.w) X.A X.env xe → DSs (X.tr pn xe) T W' body fb)
    (hs1 : ∀ (a : Addr) (oe : Obj) (pn : List (Addr × Obj)), Zc (.ref C1) none oe → (∃ vs, oe.data = .fields vs) → SRg (X.suite a ((a, oe) :: pn)) i a j (b1 :: s1) g1)
    (hs2 : ∀ (a : Addr) (oe : Obj) (pn : List (Addr × Obj)), Zc (.ref C2) none oe → (∃ vs, oe.data = .fields vs) → SRg (X.suite a ((a, oe) :: pn)) i a j (b2 :: s2) g2) :
    DS X T W (.Try body [.ExceptHandler (some (.Name x1 np1)) (some n) (b1 :: s1) pos1, .ExceptHandler (some (.Name x2 np2)) (some n) (b2 :: s2) pos2] [] [] pos) (fTry2 C1 C2 g1 g2 j fb) := by
  have su : ∀ {C : Addr} {g : Int → Bool} {sts : List Stmt}, (∀ (a : Addr) (oe : Obj) (pn : List (Addr × Obj)), Zc (.ref C) none oe → (∃ vs, oe.data = .fields vs) → SRg (X.suite a ((a, oe) :: pn)) i a j sts g) →
      ∀ (a : Addr) (oe : Obj) (cls : Value) (d : Option Addr) (pn : List (Addr × Obj)), Zc cls d oe → (∃ vs, oe.data = .fields vs) → PSs (X.suite a ((a, oe) :: pn)) sts (fun D σ H => (cls = .ref C ∧ d = none) ∧ ∃ n, AtJ i a j σ n ∧ D.rt (.bl (g n)) H) := fun {C g sts} hsu a oe cls d pn hz hfl => by
    by_cases he : cls = .ref C ∧ d = none
    · obtain ⟨rfl, rfl⟩ := he
      exact PSs.less (hsu a oe pn hz hfl) fun _ _ _ _ q => q.2
    · exact PSs.less pss_never fun _ _ _ _ q => absurd q.1 he
  refine ⟨_, ps_try_as' (tb := fun W' => canS X.K T W' fb) (l := [(c1, fun a cls d D σ H => (cls = .ref C1 ∧ d = none) ∧ ∃ n, AtJ i a j σ n ∧ D.rt (.bl (g1 n)) H), (c2, fun a cls d D σ H => (cls = .ref C2 ∧ d = none) ∧ ∃ n, AtJ i a j σ n ∧ D.rt (.bl (g2 n)) H)])
    hs hf hN hi hln tk (fun W' pn xe t1 t2 => (hb W' pn xe t1 t2).can) (.cons hc1 (su hs1) (.cons hc2 (su hs2) .nil)), fun hid σ H ρ M E D r s w q ends => ?_⟩
  refine ⟨hid, ρ, M, { E with xw := fun xd ρ' M' => ∃ n : Int, ρ'[j]? = some (some (.int n)) ∧ ((xd = ⟨C1, []⟩ ∧ E.rt (.bl (g1 n)) M') ∨ (xd = ⟨C2, []⟩ ∧ E.rt (.bl (g2 n)) M')) }, r, s, fun cls dd σ' H' ρ' M' xd r' s' e' x' q' => ?_, q, ⟨ends.nx, ends.rt, ends.bk, ends.ct⟩⟩
  obtain ⟨k, hj, q'⟩ := q'
  obtain ⟨v, hv, rv⟩ := r'.2 j _ hj
  cases rv
  have at_ : ∀ a : Addr, AtJ i a j (σ'.set i (some (.ref a))) k := fun a => ⟨⟨σ', rfl⟩, by rw [List.getElem?_set_ne hij]; exact hv⟩
  rcases q' with ⟨rfl, hrt⟩ | ⟨rfl, hrt⟩
  · obtain ⟨rfl, x'⟩ := x'
    have hdd : dd = none := by
      rcases x' with ⟨_, h⟩ | ⟨h, _⟩
      · exact h
      · exact absurd rfl h
    subst hdd
    exact ⟨true, h11, fun _ a na => ⟨⟨rfl, rfl⟩, k, at_ a, ends.rt _ H' _ M' s' e' (.bl _) hrt⟩, fun h => by cases h⟩
  · obtain ⟨rfl, x'⟩ := x'
    have hdd : dd = none := by
      rcases x' with ⟨_, h⟩ | ⟨h, _⟩
      · exact h
      · exact absurd rfl h
    subst hdd
    exact ⟨false, h21, fun h => (by cases h), fun _ => ⟨true, h22, fun _ a na => ⟨⟨rfl, rfl⟩, k, at_ a, ends.rt _ H' _ M' s' e' (.bl _) hrt⟩, fun h => by cases h⟩⟩
end
end U

set_option Elab.async false
set_option linter.all false
set_option maxRecDepth 100000
set_option maxHeartbeats 1000000
/-! U22: an own exception over ValueError whose __init__ says super().__init__(f"..{number}..") and keeps the number. -/
namespace U
open PySem PySem.Spec PyProof.Rows L2 PySem.Calls
structure IlF (P : Program) (K : PySem.W.Frag) (C f cc cda : Addr) (qual : Str) (params : Arguments) (body : List Stmt) (scope : Scope) : Prop where
  T : OexC K C
  lk : ∃ oc od nm doc pm an ct osl, K.lookup f = some ⟨oc, od, .func (PySem.W.ksFn nm qual params body scope .none .none doc pm an (.ref cda) ct cc), osl⟩
  code : PySem.W.codeIn K (.ref cda) qual = true
  cobj : ∃ ccl cdd vs ccs file tf, K.lookup cda = some ⟨ccl, cdd, .fields vs, ccs⟩ ∧ vs[2]? = some (.str file tf) ∧ ((P.main.file : Str) == file) = true
  cell : ∃ cl cld csl, K.lookup cc = some ⟨cl, cld, .cell (some (.ref C)), csl⟩
  own : PySem.W.mroIn K C (.ref C) = some true
  sup : PySem.W.nsIn K mainGlobals "super" = some none
  top : (P.main.scope.names.lookup ("super" : Str)).isSome = false
  thd : PySem.W.nsIn K cStatics "thirdparty.any" = some none
  ini : PySem.W.ks_superIn K C C "__init__" = some (some (.builtin "ValueError.__init__"))
  ve : PySem.W.subIn K (.ref C) (.type "ValueError") = some true
  num : PySem.W.findIn K (.ref C) "number" = some none
/-- what the scope of __init__ says of its names -/
structure IlS (params : Arguments) (scope : Scope) : Prop where
  su : scope.names.lookup ("super" : Str) = some .globalImplicit
  cl : scope.names.lookup ("__class__" : Str) = some .free
  se : scope.names.lookup ("self" : Str) = some .local
  nu : scope.names.lookup ("number" : Str) = some .local
  nc : ∀ x ∈ scope.names, x.2 ≠ .cell
  kd : scope.kind = .function
  co : scope.isCoroutine = false
  ge : scope.isGenerator = false
  hd : ∃ ar : Arg, (params.posonlyargs ++ params.args).head? = some ar ∧ ar.arg = "self"
section
variable {P : Program} {w : World} {K : PySem.W.Frag} {mg : Str → Option Value} {base : Heap} {A : Around} {E : Value → Shared → Prop} {R : Result → Shared → Prop}
variable {C f cc cda : Addr} {qual : Str} {params : Arguments} {body : List Stmt} {scope : Scope} {hp : Heap} {g : Array GenState} {d : Drawn} {t : Nat} {os : OsState}
/-- the wrapper ValueError.__init__ bound to e is called -/
theorem mw_call {u e t0 : Addr} {v : Value} {Q : Value → Shared → Prop} (T : OexC K C) (X : K.In hp) (he : hp.get? e = some (PySem.HandSPX.excO C t0)) (hu : hp.get? u = some (PySem.W.kxs_mw "ValueError.__init__" e))
    (hq : ∀ h' t1, (∀ b o, b ≠ e → hp.get? b = some o → h'.get? b = some o) → h'.get? e = some (PySem.HandSPX.excO C t1) → Q .none ⟨h', g, d, t, os⟩) :
    wpAny (model P w) A (call (.ref u) [v]) Q E ⟨hp, g, d, t, os⟩ := by
  obtain ⟨nm, q, N, bs, bm, sn, sub, ab, col, dd, k0, k1, k2, k3, k5, hC, hbm⟩ := T.cls
  refine wpAny_call (codeAny_of_tree ?_)
  show wpAny _ A.in1 (callAny (.ref u) ⟨[v], []⟩) _ _ _
  simp only [callAny]
  refine wpAny_bind (wpAny_load hu ?_)
  simp only [PySem.W.kxs_mw, show (Value.type "method-wrapper" == Value.type "method" || Value.type "method-wrapper" == Value.type "builtin_function_or_method" || Value.type "method-wrapper" == Value.type "method-wrapper") = true by decide, if_true]
  refine PySem.W.KFB.if_so (by decide) ?_
  refine wpAny_bind (PySem.ESX.check_bound PySem.F.excBase_ValueError (X _ _ hC) he rfl ?_)
  refine wpAny_bind (wpAny_pure (wpAny_pure ?_))
  refine ⟨Code.quiet_builtin _ (by decide +kernel), codeAny_builtin PySem.F.excBase_ValueError.initEntry ?_⟩
  rw [Around.under_plainId PySem.F.excBase_ValueError.init.plain _]
  wp_walk
  refine hq _ hp.objs.size (fun b o hb ho => ?_) ?_
  · rw [Heap.get?_update_other _ _ (Ne.symm hb)]
    exact Heap.get?_push_of_some _ ho
  · rw [Heap.get?_update_self _ (Heap.get?_push_of_some _ he) rfl]
    rfl
/-- super().__init__(f"a{number}b") where self is e -/
theorem super_init {L e t0 : Addr} {i : Int} {tk : Tok} {a b : Str} {j1 j2 : Nat} {p0 p1 p2 p3 p4 p5 p6 p7 p8 : Pos} {bd : List Stmt} {m : Str → Option Value} {Q : Value → Shared → Prop} (F : IlF P K C f cc cda qual params body scope) (S : IlS params scope) (X : K.In hp) {mb : Str → Option Value} (G : hp.Ns mainGlobals mg) (B : hp.Ns builtinsNs mb) (hB : ∀ x : Str, x ≠ "__name__" → mb x = bootBuiltins x)
    (hn : hp.Ns L m) (hs : m "self" = some (.ref e)) (hv : m "number" = some (.int i tk)) (he : hp.get? e = some (PySem.HandSPX.excO C t0)) (hi : i.natAbs.log2 < 1920) (hz : a.length + (toString i : Str).length + b.length ≤ sizeLine)
    (hcall : ∃ pl, eval (.Call (.Attribute (.Call (.Name "super" p0) [] [] p1) "__init__" p2) [.JoinedStr [.Constant (.str a) j1 p3, .FormattedValue (.Name "number" p4) (-1) none p5, .Constant (.str b) j2 p6] p7] [] p8) (PySem.W.ksEnv qual scope L f (.ref cda) cc) = (do
      let ov ← attributeBase (.Call (.Name "super" p0) [] [] p1) "__init__" (PySem.W.ksEnv qual scope L f (.ref cda) cc) (eval (.Call (.Name "super" p0) [] [] p1) (PySem.W.ksEnv qual scope L f (.ref cda) cc))
      standAt p2.atName
      let (f', first) ← holding [ov] (getMethod ov "__init__" pl)
      callWith p8 f' first (backTo p8 (starEach [.JoinedStr [.Constant (.str a) j1 p3, .FormattedValue (.Name "number" p4) (-1) none p5, .Constant (.str b) j2 p6] p7] (PySem.W.ksEnv qual scope L f (.ref cda) cc))) []))
    (hq : ∀ h' t' t1, (∀ y o, y ≠ e → hp.get? y = some o → h'.get? y = some o) → h'.get? e = some (PySem.HandSPX.excO C t1) → Q .none ⟨h', g, d, t', os⟩) :
    _root_.PySem.wpAt (model P w) A (.func bd (PySem.W.ksEnv qual scope L f (.ref cda) cc)) (eval (.Call (.Attribute (.Call (.Name "super" p0) [] [] p1) "__init__" p2) [.JoinedStr [.Constant (.str a) j1 p3, .FormattedValue (.Name "number" p4) (-1) none p5, .Constant (.str b) j2 p6] p7] [] p8) (PySem.W.ksEnv qual scope L f (.ref cda) cc)) Q E ⟨hp, g, d, t, os⟩ := by
  obtain ⟨oc, od, nm, doc, pm, an, ct, osl, lk⟩ := F.lk
  obtain ⟨ccl, cdd, vs, ccs, file, tf, lc, hvs, hfile⟩ := F.cobj
  obtain ⟨cl, cld, csl, lcell⟩ := F.cell
  obtain ⟨ar, har, ea⟩ := S.hd
  obtain ⟨nm2, q2, N2, bs, bm, sn, sub, ab, col, dd, k0, k1, k2, k3, k5, hC, hbm⟩ := F.T.cls
  have hCo := X _ _ hC
  have hcl : PySem.W.clsIn K C = some { name := nm2, bases := bs, mro := .ref C :: bm, ns := N2, qualname := q2, hasDict := true, slotNames := sn, subclasses := sub, abstract := ab, collection := col, hasDel := false } := by unfold PySem.W.clsIn; rw [hC] <;> rfl
  obtain ⟨pl, hcall⟩ := hcall
  refine ks_wpAt_MethodCall (name := "__init__") (pl := pl) ?_ hcall
  have hne : e ≠ C := fun z => by
    rw [z, hCo] at he
    cases he
  refine ks_wpAt_super_base (env := PySem.W.ksEnv qual scope L f (.ref cda) cc) (vs := vs) S.su S.cl (show (("__init__" : Str) == ("__class__" : Str)) = false by decide) rfl (X _ _ lk) rfl har rfl (X _ _ lc) rfl hvs hfile F.top ?_
  refine PySem.W.ks_loadName_global S.kd S.su (Calls.loadGlobal_builtin (env := PySem.W.ksEnv qual scope L f (.ref cda) cc) G (PySem.W.mg_none_of X G F.sup) B ((hB _ (by decide)).trans (show bootBuiltins "super" = some (.type "super") by decide +kernel)) ⟨rfl, ?_⟩)
  refine wpAny_loadName_free S.kd S.cl rfl ⟨_, X _ _ lcell, rfl⟩ ?_
  rw [ea]
  refine wpAny_loadName_local S.kd S.se hn hs ?_
  refine ks_wpAny_isType_cls hCo rfl ⟨rfl, ?_⟩
  refine ks_wpAny_call_super hCo rfl he rfl (fun c e => nomatch e) (PySem.W.looks_mroIn X F.own) (fun h1 e1 k1 => ?_)
  have X1 : K.In h1 := fun b o q => k1 b o (X b o q)
  have lmro : PySem.W.Looks (model P w) h1 (mroOf (.ref C)) (.ref C :: bm) := (PySem.W.looks_clsIn X1 hcl).andThen .now
  have I1 : PySem.W.InstAt h1 e (PySem.HandSPX.excO C t0) C none := ⟨k1 _ _ he, rfl, rfl, trivial⟩
  have hf : PySem.W.alongIn K "__init__" (((Value.ref C :: bm).dropWhile (· != .ref C)).drop 1) = some (some (.builtin "ValueError.__init__")) := by
    have h := F.ini
    unfold PySem.W.ks_superIn at h
    rw [hcl] at h
    exact h
  refine PySem.W.kxs_getMethod PySem.W.kxs_ValueError e1 (PySem.W.looks_opaque X1 F.thd) lmro rfl X1 hf (I1.type.andThen (PySem.W.looks_subIn X1 F.ve)) hne (show (("__init__" : Str) == ("__class__" : Str)) = false by decide) ?_
  have hu : (h1.push (PySem.W.kxs_mw "ValueError.__init__" e)).get? h1.objs.size = some (PySem.W.kxs_mw "ValueError.__init__" e) := Heap.get?_push_at rfl rfl
  have k2 : ∀ y o, hp.get? y = some o → (h1.push (PySem.W.kxs_mw "ValueError.__init__" e)).get? y = some o := fun y o q => Heap.get?_push_of_some _ (k1 y o q)
  have hn2 : (h1.push (PySem.W.kxs_mw "ValueError.__init__" e)).Ns L m := by
    obtain ⟨oL, es, ep, q, r⟩ := hn
    exact ⟨oL, es, ep, k2 _ _ q, r⟩
  refine PySem.W.kxs_callWith (i := "ValueError.__init__") (x := e) rfl (evalArgs_plain ?_)
  refine spliced_more (JoinedStr_many (joinParts_cons (Calls.Constant_str ?_))) rfl
  have e0 : (Str.empty : Str).length = 0 := rfl
  refine ⟨by rw [strLen_append]; omega, ?_⟩
  refine joinParts_cons (FormattedValue_plain (wpAny_Name (wpAny_loadName_local S.kd S.nu hn2 hv (formatField_int_small hi ?_)) (by decide)))
  refine ⟨by rw [strLen_append, strLen_append]; omega, ?_⟩
  refine joinParts_cons (Calls.Constant_str ?_)
  refine ⟨by rw [strLen_append, strLen_append, strLen_append]; omega, ?_⟩
  refine joinParts_nil ?_ (by rw [strLen_append, strLen_append, strLen_append]; omega)
  refine Calls.spliced_nil ⟨hu, ?_⟩
  refine mw_call F.T (fun b o q => k2 b o (X b o q)) (k2 _ _ he) hu fun h' t1 k3 e3 => ?_
  exact hq h' _ t1 (fun y o hy q => k3 y o hy (k2 y o q)) e3
/-- the body of __init__ -/
structure IlB (body : List Stmt) (params : Arguments) (qual : Str) (scope : Scope) (f cc cda : Addr) (a b : Str) : Prop where
  ex : ∃ (j1 j2 : Nat) (p0 p1 p2 p3 p4 p5 p6 p7 p8 p9 p10 p11 p12 p13 : Pos),
    body = [.Expr (.Call (.Attribute (.Call (.Name "super" p0) [] [] p1) "__init__" p2) [.JoinedStr [.Constant (.str a) j1 p3, .FormattedValue (.Name "number" p4) (-1) none p5, .Constant (.str b) j2 p6] p7] [] p8) p9, .Assign [.Attribute (.Name "self" p10) "number" p11] (.Name "number" p12) p13] ∧
    (∀ L, ∃ pl, eval (.Call (.Attribute (.Call (.Name "super" p0) [] [] p1) "__init__" p2) [.JoinedStr [.Constant (.str a) j1 p3, .FormattedValue (.Name "number" p4) (-1) none p5, .Constant (.str b) j2 p6] p7] [] p8) (PySem.W.ksEnv qual scope L f (.ref cda) cc) = (do
      let ov ← attributeBase (.Call (.Name "super" p0) [] [] p1) "__init__" (PySem.W.ksEnv qual scope L f (.ref cda) cc) (eval (.Call (.Name "super" p0) [] [] p1) (PySem.W.ksEnv qual scope L f (.ref cda) cc))
      standAt p2.atName
      let (f', first) ← holding [ov] (getMethod ov "__init__" pl)
      callWith p8 f' first (backTo p8 (starEach [.JoinedStr [.Constant (.str a) j1 p3, .FormattedValue (.Name "number" p4) (-1) none p5, .Constant (.str b) j2 p6] p7] (PySem.W.ksEnv qual scope L f (.ref cda) cc))) [])) ∧
    (∀ L, interactive (PySem.W.ksEnv qual scope L f (.ref cda) cc) = false) ∧ (∀ L, swapsWith (.Call (.Attribute (.Call (.Name "super" p0) [] [] p1) "__init__" p2) [.JoinedStr [.Constant (.str a) j1 p3, .FormattedValue (.Name "number" p4) (-1) none p5, .Constant (.str b) j2 p6] p7] [] p8) none p9.line (PySem.W.ksEnv qual scope L f (.ref cda) cc) = pure false) ∧
    (∀ L, swapsWith (.Name "number" p12) (some (.Attribute (.Name "self" p10) "number" p11)) p13.line (PySem.W.ksEnv qual scope L f (.ref cda) cc) = pure false)
  bd : ∀ nm doc pm an ct (x y : Value) (s : Shared), BindsTo s (PySem.W.ksFn nm qual params body scope .none .none doc pm an (.ref cda) ct cc) ⟨[x, y], []⟩ [("self", x), ("number", y)]
theorem il_init {e t0 : Addr} {i : Int} {tk : Tok} {a b : Str} {mb : Str → Option Value} (F : IlF P K C f cc cda qual params body scope) (S : IlS params scope) (Bo : IlB body params qual scope f cc cda a b) (hd : A.depth < recursionLimit) (X : K.In hp) (hKe : K.lookup e = none) (nl : hp.NoLimit)
    (G : hp.Ns mainGlobals mg) (B : hp.Ns builtinsNs mb) (hB : ∀ x : Str, x ≠ "__name__" → mb x = bootBuiltins x) (he : hp.get? e = some (PySem.HandSPX.excO C t0)) (hi : i.natAbs.log2 < 1920) (hz : a.length + (toString i : Str).length + b.length ≤ sizeLine)
    (hq : ∀ h' t' t1 dx, (∀ y o, y ≠ e → hp.get? y = some o → h'.get? y = some o) → hp.objs.size ≤ dx → dx ≠ e → h'.get? e = some ({ cls := .ref C, dict := some dx, data := .fields #[.ref t1, .none, .none, .none, .bool false, .none] } : Obj) → h'.Ns1 dx (fun y => if y = "number" then some (.int i tk) else none) → R (.ok (.ret .none)) ⟨h', g, d, t', os⟩) :
    codeAny (model P w) A (.call (.ref f) ⟨[.ref e, .int i tk], []⟩) R ⟨hp, g, d, t, os⟩ := by
  obtain ⟨oc, od, nm, doc, pm, an, ct, osl, lk⟩ := F.lk
  obtain ⟨j1, j2, p0, p1, p2, p3, p4, p5, p6, p7, p8, p9, p10, p11, p12, p13, hb, hcall, hin, hs1, hs2⟩ := Bo.ex
  obtain ⟨nm2, q2, N2, bs, bm, sn, sub, ab, col, dd, k0, k1, k2, k3, k5, hC, hbm⟩ := F.T.cls
  have hcl : PySem.W.clsIn K C = some { name := nm2, bases := bs, mro := .ref C :: bm, ns := N2, qualname := q2, hasDict := true, slotNames := sn, subclasses := sub, abstract := ab, collection := col, hasDel := false } := by unfold PySem.W.clsIn; rw [hC] <;> rfl
  refine ks_codeAny_call_defAt (body := body) hd (X _ _ lk) rfl nl (PySem.W.codeRec_of X F.code) rfl (Bo.bd nm doc pm an ct _ _ _) S.nc (fun x hx => ?_) (fun h0 hns hk => ?_) S.co S.ge S.kd
  · rcases List.mem_cons.mp hx with rfl | hx
    · exact S.se
    · rcases List.mem_cons.mp hx with rfl | hx
      · exact S.nu
      · cases hx
  have X0 : K.In h0 := fun b o q => hk b o (X b o q)
  have up : ∀ {x : Addr} {m : Str → Option Value}, hp.Ns x m → h0.Ns x m := fun ⟨oL, es, ep, q, r⟩ => ⟨oL, es, ep, hk _ _ q, r⟩
  have gs : (fun x => ([("self", Value.ref e), ("number", Value.int i tk)] : List (Str × Value)).reverse.lookup x) ("self" : Str) = some (.ref e) := by rfl
  have gn : (fun x => ([("self", Value.ref e), ("number", Value.int i tk)] : List (Str × Value)).reverse.lookup x) ("number" : Str) = some (.int i tk) := by rfl
  show _root_.PySem.wpAt (model P w) (A.deeper (PySem.W.ksEnv qual scope hp.objs.size f (.ref cda) cc)) (.func body (PySem.W.ksEnv qual scope hp.objs.size f (.ref cda) cc)) (execs body (PySem.W.ksEnv qual scope hp.objs.size f (.ref cda) cc)) _ _ _
  generalize hbd : (Code.func body (PySem.W.ksEnv qual scope hp.objs.size f (.ref cda) cc)) = cd
  rw [hb]
  subst hbd
  refine ks_wpAt_execs_cons (ks_wpAt_Expr_any (super_init F S X0 (up G) (up B) hB hns gs gn (hk _ _ he) hi hz (hcall _) fun h' t' t1 k e' => ?_) (hin _) (hs1 _))
  show _root_.PySem.wpAt _ _ _ (execs _ _) _ _ _
  have X1 : K.In h' := fun b o q => k b o (fun z => by rw [z, hKe] at q; cases q) (X0 b o q)
  have ns1 : h'.Ns hp.objs.size (fun x => ([("self", Value.ref e), ("number", Value.int i tk)] : List (Str × Value)).reverse.lookup x) := by
    obtain ⟨oL, es, ep, q, r⟩ := hns
    exact ⟨oL, es, ep, k _ _ (Nat.ne_of_gt (Heap.lt_size he)) q, r⟩
  refine ks_wpAt_execs_cons (ks_wpAt_Assign_Attr (wpAt_of_wpAny (wpAny_Name (wpAny_loadName_local S.kd S.nu ns1 gn ?_) (by decide))) (hs2 _))
  refine wpAny_Name (wpAny_loadName_local S.kd S.se ns1 gs ?_) (by decide)
  refine PySem.W.set_plain X1 (ox := { cls := .ref C, dict := none, data := .fields #[.ref t1, .none, .none, .none, .bool false, .none] }) (od := none) ⟨e', rfl, rfl, trivial⟩ F.T.sa ?_
  refine PySem.HandSPX.exc_osa X1 e' hcl (show PySem.HandSPX.refsVE (.ref C :: bm) = true from hbm) rfl F.num (fun h2 t2 dx k2 dn dne hx hn2 => ?_)
  refine wpAt_of_wpAny (wpAny_execs_nil ?_)
  refine hq h2 _ t1 dx (fun y o hy q => k2 y o hy (k y o hy (hk y o q))) ?_ dne hx hn2
  have l1 : hp.objs.size < h'.objs.size := by
    obtain ⟨oL, es, ep, q, r⟩ := ns1
    exact Heap.lt_size q
  exact Nat.le_trans (Nat.le_of_lt l1) dn
end
end U

set_option Elab.async false
set_option linter.all false
set_option maxRecDepth 100000
set_option maxHeartbeats 1000000
/-! U23: C(n): the exception that its own __init__ makes. -/
namespace U
open PySem PySem.Spec PyProof.Rows L2 PySem.Calls
section
variable {X : Cx} {C f cc cda : Addr} {qual : Str} {params : Arguments} {body : List Stmt} {scope : Scope}
/-- the heaps about C(n): a the exception, d its dict -/
theorem il_un {fs : List Addr} {pins : List (Addr × Obj)} {σ : L2.St} {H1 : Hp} {hp h' : Heap} {us : List Value} {g : Array GenState} {dr : Drawn} {tk : Nat} {os : OsState} {i : Int} {tki : Tok} {t1 d : Addr} (I1 : Inv X pins σ H1 ⟨hp, g, dr, tk, os⟩)
    (k : ∀ y o, y ≠ hp.objs.size + 1 → ((hp.push (PySem.W.kdv_tup us)).push (PySem.HandSPX.excO C hp.objs.size)).get? y = some o → h'.get? y = some o)
    (dn : ((hp.push (PySem.W.kdv_tup us)).push (PySem.HandSPX.excO C hp.objs.size)).objs.size ≤ d) (dne : d ≠ hp.objs.size + 1)
    (hx : h'.get? (hp.objs.size + 1) = some ({ cls := .ref C, dict := some d, data := .fields #[.ref t1, .none, .none, .none, .bool false, .none] } : Obj)) (hn : h'.Ns1 d (fun y => if y = "number" then some (.int i tki) else none)) :
    H1 d = none ∧ ∃ H2 : Hp, Un fs [] (upd H1 (hp.objs.size + 1) (exo (hp.objs.size + 1) C none)) H2 ((hp.push (PySem.W.kdv_tup us)).push (PySem.HandSPX.excO C hp.objs.size)) h' ∧ HOk X.prog X.w H2 h' ∧
      H2 (hp.objs.size + 1) = some (exo (hp.objs.size + 1) C (some d)) ∧ H2 d = some (exd d [("number", .int i)]) ∧ upd (del H2 (hp.objs.size + 1)) d (.xd [("number", .int i)]) = upd H1 d (.xd [("number", .int i)]) := by
  have hs : ((hp.push (PySem.W.kdv_tup us)).push (PySem.HandSPX.excO C hp.objs.size)).objs.size = hp.objs.size + 2 := by simp [Heap.push]
  have hsz : hp.objs.size ≤ hp.objs.size + 1 := Nat.le_succ _
  have kk : ∀ b o, hp.get? b = some o → ((hp.push (PySem.W.kdv_tup us)).push (PySem.HandSPX.excO C hp.objs.size)).get? b = some o := fun b o e => Heap.get?_push_of_some _ (Heap.get?_push_of_some _ e)
  have hget : ((hp.push (PySem.W.kdv_tup us)).push (PySem.HandSPX.excO C hp.objs.size)).get? (hp.objs.size + 1) = some (PySem.HandSPX.excO C hp.objs.size) := by heap_get
  have I2 : Inv X pins σ (upd H1 (hp.objs.size + 1) (exo (hp.objs.size + 1) C none)) ⟨(hp.push (PySem.W.kdv_tup us)).push (PySem.HandSPX.excO C hp.objs.size), g, dr, tk, os⟩ :=
    I1.laid (t' := tk) (a := hp.objs.size + 1) (o := exo (hp.objs.size + 1) C none) (h' := (hp.push (PySem.W.kdv_tup us)).push (PySem.HandSPX.excO C hp.objs.size)) kk hsz (exo_ok hget)
  have hd1 : H1 d = none := I1.hok.fresh (show hp.objs.size ≤ d by omega)
  generalize hp2e : (hp.push (PySem.W.kdv_tup us)).push (PySem.HandSPX.excO C hp.objs.size) = hp2 at k dn hs kk hget I2
  generalize hae : hp.objs.size + 1 = a at *
  have e : (upd H1 a (exo a C none)) a = some (exo a C none) := upd_same
  have hnd : (upd H1 a (exo a C none)) d = none := by rw [upd_ne dne]; exact hd1
  have nd : ∀ {b : Addr} {o : Obj}, hp2.get? b = some o → b ≠ d := fun {b o} q => Nat.ne_of_lt (Nat.lt_of_lt_of_le (Heap.lt_size q) dn)
  generalize hHm : upd H1 a (exo a C none) = Hm at *
  have na : ∀ {b : Addr}, Hm b = none → b ≠ a := fun {b} n z => by
    rw [z, e] at n
    cases n
  refine ⟨hd1, upd (upd Hm d (exd d [("number", .int i)])) a (exo a C (some d)), ?_, ?_, upd_same, ?_, ?_⟩
  · exact {
      keep := fun b o q n _ _ => k b o (na n) q
      slot := fun b o q n _ _ => ⟨o.slots, k b o (na n) q⟩
      free := fun b o q n _ => by rw [upd_ne (na n), upd_ne (nd q)]; exact n
      there := fun b o q _ => by
        by_cases hb : b = a
        · exact ⟨_, by rw [hb]; exact hx⟩
        · exact ⟨o, k b o hb q⟩
      tups := fun b xs q => by rw [upd_ne (at_ne e q exo_tup), upd_ne (ne_of_none q hnd)]; exact q
      frzs := fun b o v q => by rw [upd_ne (at_ne e q exo_frz), upd_ne (ne_of_none q hnd)]; exact q
      tbls := fun b ps q => ⟨#[], by rw [upd_ne (at_ne e q exo_tbl), upd_ne (ne_of_none q hnd), q]; simp⟩ }
  · intro b o q
    by_cases hb : b = a
    · subst hb
      rw [upd_same] at q
      cases q
      exact exo_ok hx
    · rw [upd_ne hb] at q
      by_cases hd : b = d
      · subst hd
        rw [upd_same] at q
        cases q
        exact exd_ok hn (relO_put (fs := []) (show RelV (.int i) (.int i tki) from ⟨tki, rfl⟩) fun g => True.intro)
      · rw [upd_ne hd] at q
        exact (I2.hok b o q).stay (fun c v hc z => k c v (by
            rcases hc with hc | hc
            · rw [hc]
              exact hb
            · exact at_ne e hc exo_own) z)
          (fun c hc => by rw [upd_ne (at_ne e hc exo_own), upd_ne (ne_of_none hc hnd)]; exact hc) (fun c xs hc => by rw [upd_ne (at_ne e hc exo_tup), upd_ne (ne_of_none hc hnd)]; exact hc)
  · rw [upd_ne dne, upd_same]
  · funext b
    by_cases hb : b = d
    · rw [hb, upd_same, upd_same]
    · rw [upd_ne hb, upd_ne hb]
      by_cases hba : b = a
      · rw [hba, del_same]
        exact (I1.hok.fresh hsz).symm
      · rw [del_ne hba, upd_ne hba, upd_ne hb, ← hHm, upd_ne hba]
end
end U

set_option Elab.async false
set_option linter.all false
set_option maxRecDepth 100000
set_option maxHeartbeats 1000000
/-! U24: raise C(n); try: .. except C as e: .. return e.number; C(n).number. -/
namespace U
open PySem PySem.Spec PyProof.Rows L2
abbrev numX (C : Addr) (i : Int) : XD := ⟨C, [("number", .int i)]⟩
section
variable {X : Cx} {T : List Addr} {W : WX}
/-- what the suite knows: the error at slot i, its number -/
def AtN (i : Nat) (a dd : Addr) (σ : L2.St) (H : Hp) : Prop := At i a σ ∧ ∃ n : Int, H dd = some (.xd [("number", .int n)])
def SBd (X : Cx) (i : Nat) (a dd : Addr) (e : Expr) (b : Bool) : Prop := PT X e fun σ H Q => AtN i a dd σ H ∧ Q b H
def SWd (X : Cx) (i : Nat) (a dd : Addr) (e : Expr) (b : Bool) : Prop := PW X e fun σ H Q => AtN i a dd σ H ∧ Q b H
variable {i : Nat} {a dd : Addr} {b c : Bool} {e e1 e2 : Expr} {es : List Expr} {pos : Pos} {sts rest : List Stmt}
theorem SWd.sb (h : SWd X i a dd e b) : SBd X i a dd e b := PW.pt h
end
end U

set_option Elab.async false
set_option linter.all false
set_option maxRecDepth 100000
set_option maxHeartbeats 1000000
/-! U25: the head's facts about an exception with its own __init__; the rules where one stands. -/
namespace U
open PySem PySem.Spec PyProof.Rows L2
/-! ### the hook: also the statics, also defs that close over something -/
abbrev FnC : Type := Option (Str × Str × Arguments × FuncBody × Scope × Addr × List Str × Addr)
def fnC (K : PySem.W.Frag) (p : Str × Option Str) : FnC := match K.lookup (He.fAd K p) with
  | some ⟨_, _, .func fd, _⟩ => some (fd.name, fd.qualname, fd.params, fd.body, fd.scope, fd.globals, fd.closure.map (·.1), fd.builtins)
  | _ => none
def asY (g : Addr → Option Obj) (n : Nat) : List Addr := He.asD g n ++ [cStatics]
abbrev AlY : Type := He.AlX × List FnC
def obsY (n : Nat) (fa : List He.Fa) (fn : List He.DefD) (tf : List He.Defn) (ex : PySem.W.Frag → Bool) (cl : List (Str × Option Str)) (g : Addr → Option Obj) : AlY :=
  ((He.obsT fa fn [] (He.frT g (asY g n)), ex (He.frT g (asY g n)) && He.tabsB g tf (He.frT g (asY g n))), cl.map (fnC (He.frT g (asY g n))))
structure SaysY (fa : List He.Fa) (fn : List He.DefD) (tf : List He.Defn) (ex : PySem.W.Frag → Bool) (cl : List (Str × Option Str)) (cv : List FnC) (w : World) (h : Heap) (K : PySem.W.Frag) : Prop where
  x : He.SaysX fa fn [] tf ex w h K
  c : cl.map (fnC K) = cv
theorem saysY_of {n : Nat} {fa : List He.Fa} {fn : List He.DefD} {tf : List He.Defn} {ex : PySem.W.Frag → Bool} {cl : List (Str × Option Str)} {cv : List FnC} {w : World} {h : Heap} (e : obsY n fa fn tf ex cl h.get? = (He.valX fn [] w, cv)) : SaysY fa fn tf ex cl cv w h (He.frT h.get? (asY h.get? n)) := by
  generalize hK : He.frT h.get? (asY h.get? n) = K
  have e1 : He.obsT fa fn [] K = He.valT fn [] w := by rw [← hK]; exact congrArg (fun z : AlY => z.1.1) e
  have e2 : (ex K && He.tabsB h.get? tf K) = true := by rw [← hK]; exact congrArg (fun z : AlY => z.1.2) e
  have e3 : cl.map (fnC K) = cv := by rw [← hK]; exact congrArg (fun z : AlY => z.2) e
  obtain ⟨h1, h2⟩ := He.ba e2
  have key : ∀ p ∈ tf, PySem.W.codeHdIn K (He.cT K p).1 (He.cT K p).2 = true ∧ ∃ o, h.get? (He.cT K p).2 = some o ∧ He.emptyTab o = true := fun p hp => by
    obtain ⟨h3, h4⟩ := He.ba (List.all_eq_true.mp h2 p hp)
    refine ⟨h3, ?_⟩
    cases q : h.get? (He.cT K p).2 with
    | none => rw [q] at h4; cases h4
    | some o => rw [q] at h4; exact ⟨o, rfl, h4⟩
  refine ⟨⟨e1, h1, fun p hp => (key p hp).1, fun p hp => ?_, fun p hp => ?_⟩, e3⟩
  · obtain ⟨_, o, q, z⟩ := key p hp
    have := He.frT_none (as := asY h.get? n) q z
    rw [hK] at this
    exact this
  · obtain ⟨_, o, q, z⟩ := key p hp
    rw [q, He.emptyTab_eq z]
def hookY (n : Nat) (fa : List He.Fa) (fn : List He.DefD) (tf : List He.Defn) (ex : PySem.W.Frag → Bool) (cl : List (Str × Option Str)) (cv : List FnC) : PySem.W.Hook where
  α := AlY
  obs := fun s => obsY n fa fn tf ex cl s.heap.get?
  val := fun w => (He.valX fn [] w, cv)
  says := fun w h => ∃ K : PySem.W.Frag, K.In h ∧ SaysY fa fn tf ex cl cv w h K
  of := fun _ _ e => ⟨_, He.frT_in, saysY_of e⟩
  keeps := fun _ _ _ ⟨K, hK, c⟩ k => ⟨K, PySem.W.Frag.In.keeps hK k, ⟨c.x.t, c.x.more, c.x.hd, c.x.out, fun p hp => k _ _ (c.x.empty p hp)⟩, c.c⟩
theorem obsY_eq {n : Nat} {fa : List He.Fa} {fn : List He.DefD} {tf : List He.Defn} {ex : PySem.W.Frag → Bool} {cl : List (Str × Option Str)} {cv : List FnC} {g : Addr → Option Obj} {s : Shared} (h : ∀ a, g a = s.heap.get? a) : obsY n fa fn tf ex cl g = (hookY n fa fn tf ex cl cv).obs s := by
  have e : g = s.heap.get? := funext h
  rw [e] <;> rfl
/-! ### the class, its __init__ -/
def oexB (K : PySem.W.Frag) (C : Addr) : Bool := match K.lookup C with
  | some ⟨.type "type", _, .cls cd, sl⟩ => (match cd.mro, sl.toList with
    | .ref C' :: bm, [_, _, _, _, some (.builtin n), _] => C' == C && (n == "ValueError.__new__" && (!cd.hasDel && (cd.hasDict && PySem.HandSPX.refsVE bm)))
    | _, _ => false)
  | _ => false
theorem oexB_ok {K : PySem.W.Frag} {C : Addr} (q : oexB K C = true) : ∃ nm q N bs bm sn sub ab col dd k0 k1 k2 k3 k5, K.lookup C = some (excClassObj nm q C N bs bm true sn sub ab col dd k0 k1 k2 k3 k5 "ValueError.__new__") ∧ PySem.HandSPX.refsVE bm = true := by
  unfold oexB at q
  split at q
  · rename_i dd cd sl ho
    split at q
    · rename_i C' bm k0 k1 k2 k3 n k5 hm hs
      simp only [Bool.and_eq_true, beq_iff_eq, Bool.not_eq_true'] at q
      obtain ⟨rfl, rfl, hdel, hdi, hr⟩ := q
      obtain ⟨nm, bs, mro, ns, qn, hd, sn, sub, ab, col, del⟩ := cd
      dsimp only at hm hdel hdi
      subst hm hdel hdi
      have hsl : sl = #[k0, k1, k2, k3, some (.builtin "ValueError.__new__"), k5] := by
        obtain ⟨l⟩ := sl
        simp only at hs
        rw [hs]
      subst hsl
      exact ⟨nm, qn, ns, bs, bm, sn, sub, ab, col, dd, k0, k1, k2, k3, k5, ho, hr⟩
    · cases q
  · cases q
def ilB (P : Program) (K : PySem.W.Frag) (x : Str) : Bool :=
  oexB K (He.ga K x) && (He.eqO (PySem.W.findIn K (.ref (He.ga K x)) "__setattr__") (some (some (.builtin "object.__setattr__"))) && (decide (PySem.W.subIn K (.ref (He.ga K x)) (.type "BaseException") = some true) &&
  (decide (PySem.W.typeIn K (.ref (He.ga K x)) = some (.type "type")) && (PySem.W.keepIn K (.ref (He.ga K x)) && (He.eqO (PySem.W.findIn K (.ref (He.ga K x)) "__init__") (some (some (.ref (He.fAd K (x, some "__init__"))))) &&
  (decide (PySem.W.typeIn K (.ref (He.fAd K (x, some "__init__"))) = some (.type "function")) && (decide (PySem.W.mroIn K (He.ga K x) (.ref (He.ga K x)) = some true) && (He.eqO (PySem.W.nsIn K mainGlobals "super") (some none) &&
  (!(P.main.scope.names.lookup ("super" : Str)).isSome && (He.eqO (PySem.W.nsIn K cStatics "thirdparty.any") (some none) && (decide (PySem.W.ks_superIn K (He.ga K x) (He.ga K x) "__init__" = some (some (.builtin "ValueError.__init__"))) &&
  (decide (PySem.W.subIn K (.ref (He.ga K x)) (.type "ValueError") = some true) && (He.eqO (PySem.W.findIn K (.ref (He.ga K x)) "number") (some none) &&
  (match K.lookup (He.fAd K (x, some "__init__")) with
    | some ⟨_, _, .func fd, _⟩ => (match fd.code, fd.closure with
      | .ref cda, [(_, cc)] => (match fd.defaults, fd.kwdefaults with
        | .none, .none => true
        | _, _ => false) && (PySem.W.codeIn K (.ref cda) fd.qualname && ((match K.lookup cda with
        | some ⟨_, _, .fields vs, _⟩ => (match (vs[2]? : Option Value) with
          | some (Value.str file _) => (P.main.file : Str) == file
          | _ => false)
        | _ => false) && (match K.lookup cc with
        | some ⟨_, _, .cell (some (.ref D)), _⟩ => decide (D = He.ga K x)
        | _ => false)))
      | _, _ => false)
    | _ => false))))))))))))))
theorem ilB_ok {P : Program} {K : PySem.W.Frag} {x nm qual : Str} {params : Arguments} {body : List Stmt} {scope : Scope} (h : ilB P K x = true) (e : fnC K (x, some "__init__") = some (nm, qual, params, FuncBody.stmts body, scope, mainGlobals, [("__class__" : Str)], builtinsNs)) :
    ∃ cc cda, IlF P K (He.ga K x) (He.fAd K (x, some "__init__")) cc cda qual params body scope ∧ PySem.W.findIn K (.ref (He.ga K x)) "__init__" = some (some (.ref (He.fAd K (x, some "__init__")))) ∧ PySem.W.typeIn K (.ref (He.fAd K (x, some "__init__"))) = some (.type "function") := by
  unfold ilB at h
  obtain ⟨h1, h⟩ := He.ba h
  obtain ⟨h2, h⟩ := He.ba h
  obtain ⟨h3, h⟩ := He.ba h
  obtain ⟨h4, h⟩ := He.ba h
  obtain ⟨h5, h⟩ := He.ba h
  obtain ⟨h6, h⟩ := He.ba h
  obtain ⟨h7, h⟩ := He.ba h
  obtain ⟨h8, h⟩ := He.ba h
  obtain ⟨h9, h⟩ := He.ba h
  obtain ⟨h10, h⟩ := He.ba h
  obtain ⟨h11, h⟩ := He.ba h
  obtain ⟨h12, h⟩ := He.ba h
  obtain ⟨h13, h⟩ := He.ba h
  obtain ⟨h14, h⟩ := He.ba h
  have T : OexC K (He.ga K x) := ⟨oexB_ok h1, He.eqO_ok h2, of_decide_eq_true h3, of_decide_eq_true h4, h5⟩
  unfold fnC at e
  cases q : K.lookup (He.fAd K (x, some "__init__")) with
  | none => rw [q] at h; cases h
  | some o =>
    obtain ⟨oc, od, dt, osl⟩ := o
    rw [q] at h e
    cases dt with
    | func fd =>
      obtain ⟨n1, n2, n3, n4, n5, n6, n7, n8, n9, n10, n11, n12, n13, n14, n15⟩ := fd
      have e2 : (some (n1, n2, n3, n4, n5, n6, n7.map (·.1), n15) : FnC) = some (nm, qual, params, FuncBody.stmts body, scope, mainGlobals, [("__class__" : Str)], builtinsNs) := e
      simp only [Option.some.injEq, Prod.mk.injEq] at e2
      obtain ⟨e1, e2, e3, e4, e5, e6, e7, e8⟩ := e2
      subst e1 e2 e3 e4 e5 e6 e8
      dsimp only at h
      split at h
      · rename_i cda x0 cc
        have ex : x0 = "__class__" := (List.cons.inj e7).1
        subst ex
        obtain ⟨k0, h⟩ := He.ba h
        obtain ⟨k1, h⟩ := He.ba h
        obtain ⟨k2, k3⟩ := He.ba h
        obtain ⟨rfl, rfl⟩ : n8 = .none ∧ n9 = .none := by
          split at k0
          · exact ⟨rfl, rfl⟩
          · cases k0
        refine ⟨cc, cda, ⟨T, ⟨_, _, _, _, _, _, _, _, q⟩, k1, ?_, ?_, of_decide_eq_true h8, He.eqO_ok h9, ?_, He.eqO_ok h11, of_decide_eq_true h12, of_decide_eq_true h13, He.eqO_ok h14⟩, He.eqO_ok h6, of_decide_eq_true h7⟩
        · cases ql : K.lookup cda with
          | none => rw [ql] at k2; cases k2
          | some oc2 =>
            obtain ⟨ccl, cdd, dt2, ccs⟩ := oc2
            rw [ql] at k2
            cases dt2 with
            | fields vs =>
              dsimp only at k2
              split at k2
              · rename_i file tf hv
                exact ⟨ccl, cdd, vs, ccs, file, tf, rfl, hv, k2⟩
              · cases k2
            | _ => cases k2
        · cases ql : K.lookup cc with
          | none => rw [ql] at k3; cases k3
          | some oc2 =>
            obtain ⟨ccl, cdd, dt2, ccs⟩ := oc2
            rw [ql] at k3
            cases dt2 with
            | cell v =>
              cases v with
              | none => cases k3
              | some v =>
                cases v with
                | ref D =>
                  have e : D = He.ga K x := of_decide_eq_true k3
                  subst e
                  exact ⟨ccl, cdd, ccs, rfl⟩
                | _ => cases k3
            | _ => cases k3
        · rw [Bool.not_eq_true'] at h10
          exact h10
      · cases h
    | _ => cases h
end U

set_option Elab.async false
set_option linter.all false
set_option maxRecDepth 100000
set_option maxHeartbeats 1000000
/-! U26: the rules about C(n) where one stands. -/
namespace U
open PySem PySem.Spec PyProof.Rows L2
/-- what is known of a class with the own __init__ -/
structure IlC (P : Program) (K : PySem.W.Frag) (C : Addr) (a b : Str) : Prop where
  ex : ∃ f cc cda qual params body scope, IlF P K C f cc cda qual params body scope ∧ IlS params scope ∧ IlB body params qual scope f cc cda a b ∧ PySem.W.findIn K (.ref C) "__init__" = some (some (.ref f)) ∧ PySem.W.typeIn K (.ref f) = some (.type "function")
  xf : XfC K C
  num : PySem.W.findIn K (.ref C) "number" = some none
section
variable {P : Program} {w : World} {K : PySem.W.Frag} {mg : Str → Option Value} {base : Heap} {N ps : List Str} {sc : Scope} {fn : Str → Bool} {k : Nat} {W : WX} {X : Cx} {T : List Addr} {qual : Str} {a b : Str}
end
end U

set_option Elab.async false
set_option linter.all false
set_option maxRecDepth 100000
set_option maxHeartbeats 1000000
/-! U32: exceptions as values: a loop over a list of new ones. -/
namespace U
open PySem PySem.Spec PyProof.Rows L2
/-- an exception of the class at C stands at a -/
def IsX (H : Hp) (a C : Addr) : Prop := H a = some (ExO (.ref C) a) ∨ ∃ dx fs, H a = some (exo a C (some dx)) ∧ H dx = some (exd dx fs)
inductive Gro : Hp → Hp → Prop
  | refl (H : Hp) : Gro H H
  | new {H H' : Hp} {p : Addr} {o : HO} (g : Gro H H') (h : H' p = none) : Gro H (upd H' p o)
theorem Gro.trans {H H1 H2 : Hp} (a : Gro H H1) (b : Gro H1 H2) : Gro H H2 := by
  induction b with
  | refl => exact a
  | new g h ih => exact .new ih h
theorem Gro.at {H H' : Hp} (g : Gro H H') {a : Addr} {o : HO} (h : H a = some o) : H' a = some o := by
  induction g with
  | refl => exact h
  | new g hn ih => rw [upd_ne (ne_of_none ih hn)]; exact ih
theorem Gro.isx {H H' : Hp} (g : Gro H H') {a C : Addr} (h : IsX H a C) : IsX H' a C := by
  rcases h with h | ⟨dx, fs, h1, h2⟩
  · exact .inl (g.at h)
  · exact .inr ⟨dx, fs, g.at h1, g.at h2⟩
theorem Gro.sto {K : PySem.W.Frag} {T hid : List Addr} {H H' : Hp} {M : Mu} (g : Gro H H') (s : Sto K T hid H M) : Sto K T hid H' M ∧ Ext hid H M H' M := by
  induction g with
  | refl => exact ⟨s, Ext.refl _ _ _⟩
  | new g hn ih => exact ⟨ih.1.new hn, ih.2.trans (Ext.new ih.1 hn)⟩
theorem PA.less {X : Cx} {es : List Expr} {t t' : TA} (h : PA X es t) (k : ∀ σ H Q, t' σ H Q → t σ H Q) : PA X es t' := ⟨fun pos pins s σ H Q I q => h.run pos pins s σ H Q I (k _ _ _ q)⟩
inductive XsOk (H : Hp) : List Addr → List Addr → Prop
  | nil : XsOk H [] []
  | cons {a C : Addr} {as Cs : List Addr} (h : IsX H a C) (r : XsOk H as Cs) : XsOk H (a :: as) (C :: Cs)
theorem XsOk.len {H : Hp} {as Cs : List Addr} (h : XsOk H as Cs) : as.length = Cs.length := by
  induction h with
  | nil => rfl
  | cons _ _ ih => rw [List.length_cons, List.length_cons, ih]
theorem XsOk.mem {H : Hp} {as Cs : List Addr} (h : XsOk H as Cs) : ∀ a ∈ as, ∃ C ∈ Cs, IsX H a C := by
  induction h with
  | nil => exact fun _ h => (nomatch h)
  | cons h _ ih =>
    intro a ha
    rcases List.mem_cons.mp ha with rfl | ha
    · exact ⟨_, List.mem_cons_self, h⟩
    · obtain ⟨C, h1, h2⟩ := ih a ha
      exact ⟨C, List.mem_cons_of_mem _ h1, h2⟩
def tX (C : Addr) : TE := fun _ H Q => ∀ H' a, Gro H H' → IsX H' a C → Q (.ref a) H'
def tXs (Cs : List Addr) : TA := fun _ H Q => ∀ H' as, Gro H H' → XsOk H' as Cs → Q (as.map V.ref) H'
section
variable {X : Cx} {C : Addr} {Cs : List Addr} {e : Expr} {es : List Expr}
theorem pxs_nil : PA X [] (tXs []) := PA.less pa_nil fun _ H _ q => q H [] (.refl H) .nil
theorem isx_all {H H' : Hp} (g : Gro H H') {as Cs : List Addr} (h : XsOk H as Cs) : XsOk H' as Cs := by
  induction h with
  | nil => exact .nil
  | cons h _ ih => exact .cons (g.isx h) ih
theorem pxs_cons (he : PE X e (tX C)) (hr : PA X es (tXs Cs)) (hs : starEach (e :: es) X.env = (false, eval e X.env) :: starEach es X.env) : PA X (e :: es) (tXs (C :: Cs)) :=
  PA.less (pa_cons he hr hs) fun _ _ _ q => fun H1 a g x => fun H2 as g2 xs => q H2 (a :: as) (g.trans g2) (.cons (g2.isx x) xs)
theorem pe_X1 {x m : Str} {j : Nat} {p p2 pos : Pos} (hn : PySem.W.excIn X.K C veB "ValueError.__new__" = true) (gC : X.mg x = some (.ref C)) (kC : PySem.W.keepIn X.K (.ref C) = true) (hg : Gl X x)
    (hs : starEach [.Constant (.str m) j p2] X.env = (false, eval (.Constant (.str m) j p2) X.env) :: starEach [] X.env) (hdb : (x == ("__debug__" : Str)) = false) : PE X (.Call (.Name x p) [.Constant (.str m) j p2] [] pos) (tX C) :=
  PE.less (pe_exc1 F.excBase_ValueError hn gC kC hg pe_str hs hdb) fun σ H Q _ q a hn => q _ a (.new (.refl H) hn) (.inl upd_same)
/-- isinstance(x, c), x such an exception -/
theorem call_isX : CallR X (.builtin "isinstance") (fun xs H Q => ∃ (a D : Addr) (c : V) (cv : Value) (b : Bool), xs = [.ref a, c] ∧ IsX H a D ∧ ExcC X.K D ∧ (∀ u, RelV c u → u = cv) ∧ PySem.W.kitOne X.K (.ref D) cv = some b ∧ Q (.bl b) H) := by
  intro pins s σ H xs us Q I r h
  obtain ⟨a, D, c, cv, b, rfl, hx, F, hcv, e, q⟩ := h
  cases r with
  | cons rx rr =>
    cases rr with
    | cons rt rr =>
      cases rr
      cases rx
      have ec := hcv _ rt
      subst ec
      have hcl : (PySem.W.clsIn X.K D).isSome = true := by
        obtain ⟨cd, hc, _⟩ := PySem.W.any_some F.hd
        rw [hc]; rfl
      rcases hx with hx | ⟨dx, fs, hx, hd⟩
      · obtain ⟨⟨oe, vs, hget, hz, hv, _⟩, _, _⟩ := I.hok a _ hx
        have J : PySem.W.InstAt s.heap a oe D none := ⟨hget, hz.1, by unfold PySem.W.notCls; rw [hv] <;> rfl, by rw [hz.2]; exact trivial⟩
        exact PySem.W.kia_one (PySem.W.kitx_exc hcl F.hg F.hk F.hs F.ha F.hn F.ht F.hm) I.kIn J e (fun z => nomatch z) fun tk => ⟨.bl b, H, I.kept (t' := tk) fun _ _ z => z, rfl, q⟩
      · obtain ⟨t1, hget⟩ := exo_at I.hok hx
        obtain ⟨mA, hns, _⟩ := exd_at I.hok hd
        obtain ⟨od, _, _, ho, _⟩ := hns
        have J : PySem.W.InstAt s.heap a ({ cls := .ref D, dict := some dx, data := .fields #[.ref t1, .none, .none, .none, .bool false, .none] } : Obj) D (some od) := ⟨hget, rfl, rfl, ho⟩
        exact PySem.W.kia_one (PySem.W.kitx_exc hcl F.hg F.hk F.hs F.ha F.hn F.ht F.hm) I.kIn J e (fun z => nomatch z) fun tk => ⟨.bl b, H, I.kept (t' := tk) fun _ _ z => z, rfl, q⟩
/-- slot i holds an exception of one of the classes -/
def AtX (i : Nat) (Cs : List Addr) (σ : L2.St) (H : Hp) : Prop := ∃ a C, C ∈ Cs ∧ σ[i]? = some (some (.ref a)) ∧ IsX H a C
theorem pe_isX {i : Nat} {n y : Str} {cv : V} {cw : Value} {p px py pos : Pos} (F : ∀ C ∈ Cs, ExcC X.K C) (hN : X.N[i]? = some n) (hv : Vis X.env.scope n) (hc : PE X (.Name y py) (tC cv)) (hcv : ∀ u, RelV cv u → u = cw) (hb : ∀ C ∈ Cs, PySem.W.kitOne X.K (.ref C) cw = some true)
    (hg : Gl X "isinstance") (hm : X.mg "isinstance" = none) (hd : (n == ("__debug__" : Str)) = false) (hcd : (n == ("__classdict__" : Str)) = false)
    (hs : starEach [.Name n px, .Name y py] X.env = (false, eval (.Name n px) X.env) :: starEach [.Name y py] X.env) (hs2 : starEach [.Name y py] X.env = (false, eval (.Name y py) X.env) :: starEach [] X.env) (hpl : (backTo pos (starEach [.Name y py] X.env)).any (·.1) = false) :
    PE X (.Call (.Name "isinstance" p) [.Name n px, .Name y py] [] pos) (fun σ H Q => AtX i Cs σ H ∧ Q (.bl true) H) :=
  PE.less (pe_callB call_isX hg hm boot_isinstance (pa_cons (pe_var hN hv hd hcd) (pa_cons hc pa_nil hs2) hs) (by decide) (by decide) hs hpl) fun σ H Q _ q => by
    obtain ⟨⟨a, C, hC, e, x⟩, q⟩ := q
    exact ⟨.ref a, e, a, C, cv, cw, true, rfl, x, F C hC, hcv, hb C hC, q⟩
end
/-- for x in [C("a"), ..]: if not isinstance(x, ..) ..: .. -/
def fExcs (i : Nat) : FS := fun E ρ M => i < ρ.length ∧ ∀ p, E.nx (ρ.set i (some (.loc p))) M
section
variable {X : Cx} {T : List Addr} {W : WX} {Cs : List Addr} {es : List Expr}
theorem ds_excs {i : Nat} {n : Str} {np lp ip pos : Pos} {test : Expr} {body : List Stmt} (hp : PassesOwn (model X.prog X.w) X.A X.env X.xe) (hc : X.calm = true) (hN : X.N.Nodup) (hi : X.N[i]? = some n) (hx : Loc X.env.scope n) (hf : X.fn n = true ∨ X.env.scope.names.lookup n = some .local)
    (hes : PA X es (tXs Cs)) (h0 : Cs ≠ []) (h5 : Cs.length ≤ 100) (ht : PT X test (fun σ H Q => AtX i Cs σ H ∧ Q false H)) (hs : ∀ x, foldedSetIterable (.List es lp) X.env x = pure x) :
    DS X T W (.For (.Name n np) (.List es lp) [.If test body [] ip] [] pos) (fExcs i) := by
  refine ⟨_, ps_for hp hc (pi_list (pe_lst hes)) (pg_name hN hi hx hf) (pss_one (ps_if ht pss_never pss_nil)) hs, fun hid σ H ρ M E D r s w q k => ?_⟩
  obtain ⟨hlen, q⟩ := q
  intro H' as g xs
  have el : as.length = Cs.length := xs.len
  refine ⟨by rw [List.length_map, sizeLine_eq]; omega, fun p hp => ⟨p, rfl, ⟨_, .inl (.inl upd_same)⟩, ?_⟩⟩
  have g5 : Gro H' (upd H' p (.lst (as.map V.ref))) := .new (.refl _) hp
  have xs5 := isx_all g5 xs
  obtain ⟨s5, e5⟩ := (g.trans g5).sto s
  have hl : σ.length = ρ.length := r.1.symm
  have sq : SqL X.K (upd H' p (.lst (as.map V.ref))) p (as.map V.ref) := .inl (.inl upd_same)
  refine ⟨fun j m σ' H5 => H5 = upd H' p (.lst (as.map V.ref)) ∧ m = as.length - j ∧ j ≤ as.length ∧ ((j = 0 ∧ σ' = σ) ∨ ∃ a, 0 < j ∧ σ' = σ.set i (some (.ref a))), ⟨_, rfl, rfl, Nat.zero_le _, .inl ⟨rfl, rfl⟩⟩, ?_⟩
  rintro j m σ' H5 ⟨rfl, rfl, hle, hσ⟩
  by_cases hlt : j < as.length
  · refine .inr ⟨⟨_, V.ref as[j], sq, by rw [List.getElem?_map, List.getElem?_eq_getElem hlt]; rfl⟩, fun σ2 H2 => H2 = upd H' p (.lst (as.map V.ref)) ∧ ∃ a, σ2 = σ.set i (some (.ref a)), ?_, ?_⟩
    · rintro σ2 H2 ⟨rfl, a, rfl⟩
      exact ⟨as.length - (j + 1), by omega, rfl, rfl, hlt, .inr ⟨a, Nat.succ_pos _, rfl⟩⟩
    · rintro x H2 ⟨rfl, hy⟩
      have hx2 := hy _ sq
      rw [List.getElem?_map, List.getElem?_eq_getElem hlt] at hx2
      have hx3 : V.ref as[j] = x := Option.some.inj hx2
      subst hx3
      have es2 : σ'.set i (some (V.ref as[j])) = σ.set i (some (V.ref as[j])) := by
        rcases hσ with ⟨_, rfl⟩ | ⟨a, _, rfl⟩
        · rfl
        · rw [List.set_set]
      show _ ∧ _
      rw [es2]
      obtain ⟨C, hC, hXC⟩ := xs5.mem as[j] (List.getElem_mem hlt)
      exact ⟨⟨as[j], C, hC, List.getElem?_set_self (by omega), hXC⟩, rfl, _, rfl⟩
  · have ej : j = as.length := by omega
    subst ej
    have hpos : 0 < as.length := by rw [el]; exact List.length_pos_iff.mpr h0
    refine .inl ⟨⟨_, sq, by rw [List.length_map]; exact Nat.le_refl _⟩, ?_⟩
    rcases hσ with ⟨h, _⟩ | ⟨a, _, rfl⟩
    · omega
    · exact k.nx _ _ _ _ ((r.ext e5).set i (.loc a)) s5 e5 (q a)
end
end U

set_option Elab.async false
set_option linter.all false
set_option maxRecDepth 100000
set_option maxHeartbeats 1000000
/-! U33: C(n) with an own __init__ as a value; the rules where one stands. -/
namespace U
open PySem PySem.Spec PyProof.Rows L2 PySem.Calls
section
variable {X : Cx} {C f cc cda : Addr} {qual : Str} {params : Arguments} {body : List Stmt} {scope : Scope}
theorem pe_XN {x a b : Str} {k : Nat} {i : Int} {j : Nat} {p p2 pos : Pos} (F : IlF X.prog X.K C f cc cda qual params body scope) (S : IlS params scope) (Bo : IlB body params qual scope f cc cda a b)
    (iC : PySem.W.findIn X.K (.ref C) "__init__" = some (some (.ref f))) (tI : PySem.W.typeIn X.K (.ref f) = some (.type "function")) (hr : Room (k + 1) X.A) (hg : Gl X x) (hm : X.mg x = some (.ref C)) (hi : i.natAbs.log2 < 1920) (hz : a.length + (toString i : Str).length + b.length ≤ sizeLine)
    (hdb : (x == ("__debug__" : Str)) = false) (he : starEach [.Constant (.int i) j p2] X.env = (false, eval (.Constant (.int i) j p2) X.env) :: starEach [] X.env) (hpl : (backTo pos (starEach [] X.env)).any (·.1) = false) :
    PE X (.Call (.Name x p) [.Constant (.int i) j p2] [] pos) (tX C) := by
  refine ⟨fun pins s σ H Q I h => ?_⟩
  obtain ⟨nm, q, N, bs, bm, sn, sub, ab, col, dd, k0, k1, k2, k3, k5, hC, hbm⟩ := F.T.cls
  have ha : PA X [.Constant (.int i) j p2] (tCons (tC (.int i)) tNil) := pa_cons pe_int pa_nil he
  refine wpAny_Call_Name_kw (ld_glob I hg hm ?_ hdb)
  refine PySem.W.callWith_K (h₀ := X.base) I.ok.mod.kin F.T.kC (thn (ha.run pos pins s σ H (fun vs H1 => vs = [V.int i] ∧ H1 = H) I ⟨rfl, rfl⟩) fun us s1 ⟨vs, H1, I1, r1, hh⟩ => ⟨I1.kIn, ?_⟩) he hpl
  obtain ⟨rfl, rfl⟩ := hh
  cases r1 with
  | cons ru rn =>
  cases rn with
  | nil =>
  obtain ⟨tki, rfl⟩ := ru
  show wpAny _ _ (call (.ref C) [.int i tki]) _ _ _
  obtain ⟨hp, g, dr, tk, os⟩ := s1
  obtain ⟨mb, hb1, hb2⟩ := I1.mod.blt
  have kk : ∀ b o, hp.get? b = some o → ((hp.push (PySem.W.kdv_tup [.int i tki])).push (PySem.HandSPX.excO C hp.objs.size)).get? b = some o := fun b o e => Heap.get?_push_of_some _ (Heap.get?_push_of_some _ e)
  have hget : ((hp.push (PySem.W.kdv_tup [.int i tki])).push (PySem.HandSPX.excO C hp.objs.size)).get? (hp.objs.size + 1) = some (PySem.HandSPX.excO C hp.objs.size) := by heap_get
  have kb : ∀ b o, X.base.get? b = some o → ((hp.push (PySem.W.kdv_tup [.int i tki])).push (PySem.HandSPX.excO C hp.objs.size)).get? b = some o := fun b o e => kk b o (I1.bk b o e)
  have hK : X.K.lookup (hp.objs.size + 1) = none := by
    cases z : X.K.lookup (hp.objs.size + 1) with
    | none => rfl
    | some o =>
      have : hp.objs.size + 1 < hp.objs.size := Heap.lt_size (I1.kIn _ _ z)
      exact absurd this (by omega)
  refine wpAny_call (PySem.HandSPX.call_own PySem.F.excBase_ValueError (fun Y => PySem.HandSPX.refsVE_contains Y bm hbm) (I1.kIn _ _ hC) (PySem.W.looks_findIn I1.kIn iC) (fun self => PySem.W.bind_fn I1.kIn self tI) (by rw [sizeLine_eq]; exact (by decide : (1 : Nat) ≤ 16777216))
    (il_init F S Bo (hr.make C [.int i tki] []).depth (I1.mod.kin.keeps kb) hK (I1.mod.nolimit.keeps kb) (I1.mod.glob.keeps kb) (hb1.keeps kb) hb2 hget hi hz (fun h' t' t1 d k dn dne hx hn => ?_)))
  obtain ⟨hd1, H2, un, hok, ea, ed, e3⟩ := il_un (fs := X.fs) I1 k dn dne hx hn
  have I2 : Inv X pins σ (upd H1 (hp.objs.size + 1) (exo (hp.objs.size + 1) C none)) ⟨(hp.push (PySem.W.kdv_tup [.int i tki])).push (PySem.HandSPX.excO C hp.objs.size), g, dr, tk, os⟩ :=
    I1.laid (t' := tk) (a := hp.objs.size + 1) (o := exo (hp.objs.size + 1) C none) (h' := (hp.push (PySem.W.kdv_tup [.int i tki])).push (PySem.HandSPX.excO C hp.objs.size)) kk (Nat.le_succ _) (exo_ok hget)
  have hn1 : H1 (hp.objs.size + 1) = none := I1.hok.fresh (Nat.le_succ _)
  have e2 : H2 = upd (upd H1 d (exd d [("number", .int i)])) (hp.objs.size + 1) (exo (hp.objs.size + 1) C (some d)) := by
    funext y
    by_cases h1 : y = hp.objs.size + 1
    · rw [h1, ea, upd_same]
    · rw [upd_ne h1]
      by_cases h2 : y = d
      · rw [h2, ed, upd_same]
      · rw [upd_ne h2]
        have z := congrFun e3 y
        rw [upd_ne h2, upd_ne h2, del_ne h1] at z
        exact z
  have I3 := I2.un (t' := t') un hok
  refine ⟨rfl, ⟨.ref (hp.objs.size + 1), H2, I3, rfl, ?_⟩⟩
  refine h H2 (hp.objs.size + 1) ?_ (.inr ⟨d, _, ea, ed⟩)
  rw [e2]
  exact .new (.new (.refl _) hd1) (by rw [upd_ne (Ne.symm dne)]; exact hn1)
end
end U

set_option Elab.async false
set_option linter.all false
set_option maxRecDepth 100000
set_option maxHeartbeats 1000000
/-! U34: classes, exceptions as values: the rules where one stands. -/
namespace U
open PySem PySem.Spec PyProof.Rows L2
section
variable {P : Program} {w : World} {K : PySem.W.Frag} {mg : Str → Option Value} {base : Heap} {N ps : List Str} {sc : Scope} {fn : Str → Bool} {k : Nat} {W : WX} {X : Cx} {T : List Addr} {qual : Str} {C : Addr} {o e : Expr} {es : List Expr} {f m : Str} {fo fe : FE} {fa : FA} {fl : FL} {S : FSpec} {pos pos' apos p : Pos}
theorem n_fld (g : Std P w K mg base N sc fn k W X) (c : Cls K C) (n : NoAttr K C f) (he : DE X T W o fo) (hb : attributeBase o f X.env (eval o X.env) = eval o X.env := by rfl) : DE X T W (.Attribute o f pos) (fFld C f fo) := de_fld he (by rw [g.eK]; exact c) (by rw [g.eK]; exact n) hb
theorem s_setF (g : Std P w K mg base N sc fn k W X) (c : Cls K C) (n : NoAttr K C f) (he : DE X T W o fo) (hv : DE X T W e fe) (hs : swapsWith e (some (.Attribute o f pos')) pos.line X.env = pure false := by rfl) : DS X T W (.Assign [.Attribute o f pos'] e pos) (fSetF C f fo fe) := ds_setF he hv (by rw [g.eK]; exact c) (by rw [g.eK]; exact n) hs
theorem s_ownF (g : Std P w K mg base N sc fn k W X) (c : Cls K C) (n : NoAttr K C f) (he : DE X T W o fo) (hv : DL X T W e fl) (hs : swapsWith e (some (.Attribute o f pos')) pos.line X.env = pure false := by rfl) : DS X T W (.Assign [.Attribute o f pos'] e pos) (fOwnF C f fo fl) := ds_ownF he hv (by rw [g.eK]; exact c) (by rw [g.eK]; exact n) hs
theorem n_meth {pl : Sem Bool} (g : Std P w K mg base N sc fn k W X) (c : Cls K C) (F : FnM P w K mg base T k C m S) (he : DE X T W o fo) (ha : DA X T W (e :: es) fa)
    (hst : starEach (e :: es) X.env = (false, eval e X.env) :: starEach es X.env := by rfl) (hpl : (backTo pos (starEach es X.env)).any (·.1) = false := by rfl)
    (ht : eval (.Call (.Attribute o m apos) (e :: es) [] pos) X.env = (do
      let ov ← eval o X.env
      standAt apos.atName
      let (f, first) ← holding [ov] (getMethod ov m pl)
      callWith pos f first (backTo pos (starEach (e :: es) X.env)) (backToKw pos (keywordEach [] X.env))) := by rfl) : DE X T W (.Call (.Attribute o m apos) (e :: es) [] pos) (fMeth C m S fo fa) := by
  refine de_meth (k := k) he (by rw [g.eK]; exact c) ?_ g.room g.takes ha hst hpl ht
  rw [g.eP, g.ew, g.eK, g.em, g.eb]
  exact F
theorem n_meth0 {pl : Sem Bool} (g : Std P w K mg base N sc fn k W X) (c : Cls K C) (F : FnM P w K mg base T k C m S) (he : DE X T W o fo)
    (ht : eval (.Call (.Attribute o m apos) [] [] pos) X.env = (do
      let ov ← eval o X.env
      standAt apos.atName
      let (f, first) ← holding [ov] (getMethod ov m pl)
      callWith pos f first (backTo pos (starEach [] X.env)) (backToKw pos (keywordEach [] X.env))) := by rfl) : DE X T W (.Call (.Attribute o m apos) [] [] pos) (fMeth C m S fo fNil) := by
  refine de_meth0 (k := k) he (by rw [g.eK]; exact c) ?_ g.room g.takes ht
  rw [g.eP, g.ew, g.eK, g.em, g.eb]
  exact F
theorem n_make {x : Str} {g0 : Addr} (g : Std P w K mg base N sc fn (k + 1) W X) (M : L2.Mk K C g0) (F : FnM P w K mg base T k C "__init__" S) (hm : mg x = some (.ref C)) (ha : DA X T W (e :: es) fa) (hg : sc.names.lookup x = some .globalImplicit := by rfl)
    (hdb : (x == ("__debug__" : Str)) = false := by decide) (he : starEach (e :: es) X.env = (false, eval e X.env) :: starEach es X.env := by rfl) (hpl : (backTo pos (starEach es X.env)).any (·.1) = false := by rfl) : DE X T W (.Call (.Name x p) (e :: es) [] pos) (fMake C S fa) := by
  obtain ⟨f', fd, ps, h1, h2, h3⟩ := F.ex
  have e0 : f' = g0 := by
    have z := h1.at_.symm.trans M.init
    cases z
    rfl
  subst e0
  refine de_make (k := k) (g0 := f') (by rw [g.eK]; exact M) ⟨fd, ps, by rw [g.eK]; exact h2, ?_⟩ g.room g.takes (g.gl hg) (by rw [g.em]; exact hm) ha hdb he hpl
  rw [g.eP, g.ew, g.eK, g.em, g.eb]
  exact h3
/-! ### suites of truth values -/
def InS1 (X Xs : Cx) (C a : Addr) : Prop := ∃ (oe : Obj) (pn : List (Addr × Obj)), Xs = X.suite a ((a, oe) :: pn) ∧ Zc (.ref C) none oe ∧ ∃ vs, oe.data = .fields vs
theorem n_isG {Xs : Cx} {i j : Nat} {a : Addr} {n y : Str} {b : Bool} {px py : Pos} (g : Std P w K mg base N sc fn k W X) (F : Fr mg) (hs : InS1 X Xs C a) (hE : ExcC K C) (hK : Kn K mg C y b)
    (hN : N[i]? = some n := by rfl) (hv : sc.names.lookup n = some .local := by rfl) (hg : sc.names.lookup ("isinstance" : Str) = some .globalImplicit := by rfl) (hgy : sc.names.lookup y = some .globalImplicit := by rfl)
    (hd : (n == ("__debug__" : Str)) = false := by decide) (hcd : (n == ("__classdict__" : Str)) = false := by decide) (hdy : (y == ("__debug__" : Str)) = false := by decide)
    (hst : starEach [.Name n px, .Name y py] X.env = (false, eval (.Name n px) X.env) :: starEach [.Name y py] X.env := by rfl) (hpl : (backTo pos (starEach [.Name y py] X.env)).any (·.1) = false := by rfl) :
    SG Xs i a j (.Call (.Name "isinstance" p) [.Name n px, .Name y py] [] pos) (fun _ => b) := by
  obtain ⟨oe, pn, rfl, hz, hf⟩ := hs
  obtain ⟨cv, cw, r1, r2, r3, r4⟩ := hK
  refine sg_is (cv := cv) (cw := cw) (by rw [g.eK]; exact hE) hz hf (by rw [g.eN]; exact hN) (.inl (by rw [g.es]; exact hv)) ?_ r2 (by rw [g.eK]; exact r4) (g.gl hg) (g.none F.isinstance) hd hcd hst hpl
  rcases r3 with h | ⟨h1, h2, h3⟩
  · exact pe_glob (X := X.suite a ((a, oe) :: pn)) (g.gl hgy) (by show X.mg y = _; rw [g.em]; exact h) r1 hdy
  · exact pe_bltn (X := X.suite a ((a, oe) :: pn)) (g.gl hgy) (by show X.mg y = _; rw [g.em]; exact h1) h2 r1 h3 hdy
theorem n_ltG {Xs : Cx} {i j : Nat} {a : Addr} {c : Int} {kk : Nat} {px py : Pos} (g : Std P w K mg base N sc fn k W X) (hs : InS1 X Xs C a) (hN : N[j]? = some m := by rfl) (hv : sc.names.lookup m = some .local := by rfl)
    (hd : (m == ("__debug__" : Str)) = false := by decide) (hcd : (m == ("__classdict__" : Str)) = false := by decide) (hm : behindInMarks .Lt (.Constant (.int c) kk py) = false := by rfl) :
    SG Xs i a j (.Compare (.Name m px) [.Lt] [.Constant (.int c) kk py] pos) fun n => decide (n < c) := by
  obtain ⟨oe, pn, rfl, _, _⟩ := hs
  exact sg_lt (by rw [show (X.suite a ((a, oe) :: pn)).N = X.N from rfl, g.eN]; exact hN) (.inl (by show X.env.scope.names.lookup m = _; rw [g.es]; exact hv)) hd hcd hm
theorem n_eqG {Xs : Cx} {i j : Nat} {a : Addr} {c : Int} {kk : Nat} {px py : Pos} (g : Std P w K mg base N sc fn k W X) (hs : InS1 X Xs C a) (hN : N[j]? = some m := by rfl) (hv : sc.names.lookup m = some .local := by rfl)
    (hd : (m == ("__debug__" : Str)) = false := by decide) (hcd : (m == ("__classdict__" : Str)) = false := by decide) (hm : behindInMarks .Eq (.Constant (.int c) kk py) = false := by rfl) :
    SG Xs i a j (.Compare (.Name m px) [.Eq] [.Constant (.int c) kk py] pos) fun n => decide (n = c) := by
  obtain ⟨oe, pn, rfl, _, _⟩ := hs
  refine PE.less (pe_cmpR op_eq (pe_var (by rw [show (X.suite a ((a, oe) :: pn)).N = X.N from rfl, g.eN]; exact hN) (.inl (by show X.env.scope.names.lookup m = _; rw [g.es]; exact hv)) hd hcd) pe_int hm) fun _ _ Q _ ⟨n, q1, q2⟩ => ⟨.int n, q1.2, rfl, ?_⟩
  rw [show decide (V.int n = V.int c) = decide (n = c) from decide_eq_decide.mpr ⟨fun h => V.int.inj h, fun h => by rw [h]⟩]
  exact q2
theorem s_try2 (g : Std P w K mg base N sc fn k W X) (fr : Fram X) {x1 x2 n : Str} {i j : Nat} {C1 C2 : Addr} {g1 g2 : Int → Bool} {body s1 s2 : List Stmt} {b1 b2 : Stmt} {np1 np2 pos1 pos2 : Pos} {fb : FS} (h1 : mg x1 = some (.ref C1)) (h2 : mg x2 = some (.ref C2))
    (h11 : PySem.W.exmOne K (.ref C1) (.ref C1) = some true) (h21 : PySem.W.exmOne K (.ref C2) (.ref C1) = some false) (h22 : PySem.W.exmOne K (.ref C2) (.ref C2) = some true)
    (hb : ∀ X' W', Std P w K mg base N sc fn k W' X' → DSs X' T W' body fb)
    (hs1 : ∀ (Xs : Cx) (a : Addr), InS1 X Xs C1 a → SRg Xs i a j (b1 :: s1) g1) (hs2 : ∀ (Xs : Cx) (a : Addr), InS1 X Xs C2 a → SRg Xs i a j (b2 :: s2) g2) (hij : i ≠ j := by decide)
    (hN : N[i]? = some n := by rfl) (hv : sc.names.lookup n = some .local := by rfl) (hg1 : sc.names.lookup x1 = some .globalImplicit := by rfl) (hd1 : (x1 == ("__debug__" : Str)) = false := by decide) (hg2 : sc.names.lookup x2 = some .globalImplicit := by rfl) (hd2 : (x2 == ("__debug__" : Str)) = false := by decide) :
    DS X T W (.Try body [.ExceptHandler (some (.Name x1 np1)) (some n) (b1 :: s1) pos1, .ExceptHandler (some (.Name x2 np2)) (some n) (b2 :: s2) pos2] [] [] pos) (fTry2 C1 C2 g1 g2 j fb) :=
  ds_try2 (c1 := .ref C1) (c2 := .ref C2) fr.1 fr.2 (by rw [g.eN]; exact g.nd) (by rw [g.eN]; exact hN) (by show X.env.scope.names.lookup n = _; rw [g.es]; exact hv) hij ⟨g.gl hg1, hd1, .inl (by rw [g.em]; exact h1)⟩ ⟨g.gl hg2, hd2, .inl (by rw [g.em]; exact h2)⟩
    (by rw [g.eK]; exact h11) (by rw [g.eK]; exact h21) (by rw [g.eK]; exact h22) g.takes
    (fun W' pn xe t1 t2 => hb _ _ ⟨g.eP, g.ew, g.eK, g.em, g.eb, g.eN, g.nd, g.es, g.fn, g.calm, t1, t2, g.room⟩) (fun a oe pn hz hf => hs1 _ a ⟨oe, pn, rfl, hz, hf⟩) (fun a oe pn hz hf => hs2 _ a ⟨oe, pn, rfl, hz, hf⟩)
/-! ### exceptions as values -/
theorem n_X1 {x m : Str} {j : Nat} {p2 : Pos} (g : Std P w K mg base N sc fn k W X) (hC : mg x = some (.ref C)) (e : ExcF K C) (hg : sc.names.lookup x = some .globalImplicit := by rfl) (hdb : (x == ("__debug__" : Str)) = false := by decide)
    (hs : starEach [.Constant (.str m) j p2] X.env = (false, eval (.Constant (.str m) j p2) X.env) :: starEach [] X.env := by rfl) : PE X (.Call (.Name x p) [.Constant (.str m) j p2] [] pos) (tX C) :=
  pe_X1 (by rw [g.eK]; exact e.new) (by rw [g.em]; exact hC) (by rw [g.eK]; exact e.keep) (g.gl hg) hs hdb
theorem n_XN {x a b : Str} {i : Int} {j : Nat} {p2 : Pos} (g : Std P w K mg base N sc fn (k + 1) W X) (hC : mg x = some (.ref C)) (I : IlC P K C a b) (hi : i.natAbs.log2 < 1920 := by decide +kernel) (hz : a.length + (toString i : Str).length + b.length ≤ sizeLine := by decide +kernel)
    (hg : sc.names.lookup x = some .globalImplicit := by rfl) (hdb : (x == ("__debug__" : Str)) = false := by decide)
    (he : starEach [.Constant (.int i) j p2] X.env = (false, eval (.Constant (.int i) j p2) X.env) :: starEach [] X.env := by rfl) (hpl : (backTo pos (starEach [] X.env)).any (·.1) = false := by rfl) : PE X (.Call (.Name x p) [.Constant (.int i) j p2] [] pos) (tX C) := by
  obtain ⟨f, cc, cda, qual, params, body, scope, F, S, B, i1, i2⟩ := I.ex
  exact pe_XN (by rw [g.eP, g.eK]; exact F) S B (by rw [g.eK]; exact i1) (by rw [g.eK]; exact i2) g.room (g.gl hg) (by rw [g.em]; exact hC) hi hz hdb he hpl
/-- isinstance(x, c): all the classes of the list say yes -/
theorem n_isX {Cs : List Addr} {i : Nat} {n y : Str} {px py : Pos} (g : Std P w K mg base N sc fn k W X) (F : Fr mg) (hE : ∀ C ∈ Cs, ExcC K C) (hK : ∃ (cv : V) (cw : Value), RelV cv cw ∧ (∀ u, RelV cv u → u = cw) ∧ (mg y = some cw ∨ (mg y = none ∧ bootBuiltins y = some cw ∧ y ≠ "__name__")) ∧ ∀ C ∈ Cs, PySem.W.kitOne K (.ref C) cw = some true)
    (hN : N[i]? = some n := by rfl) (hv : sc.names.lookup n = some .local := by rfl) (hg : sc.names.lookup ("isinstance" : Str) = some .globalImplicit := by rfl) (hgy : sc.names.lookup y = some .globalImplicit := by rfl)
    (hd : (n == ("__debug__" : Str)) = false := by decide) (hcd : (n == ("__classdict__" : Str)) = false := by decide) (hdy : (y == ("__debug__" : Str)) = false := by decide)
    (hst : starEach [.Name n px, .Name y py] X.env = (false, eval (.Name n px) X.env) :: starEach [.Name y py] X.env := by rfl) (hs2 : starEach [.Name y py] X.env = (false, eval (.Name y py) X.env) :: starEach [] X.env := by rfl) (hpl : (backTo pos (starEach [.Name y py] X.env)).any (·.1) = false := by rfl) :
    PE X (.Call (.Name "isinstance" p) [.Name n px, .Name y py] [] pos) (fun σ H Q => AtX i Cs σ H ∧ Q (.bl true) H) := by
  obtain ⟨cv, cw, r1, r2, r3, r4⟩ := hK
  refine pe_isX (cv := cv) (cw := cw) (fun C h => by rw [g.eK]; exact hE C h) (by rw [g.eN]; exact hN) (.inl (by rw [g.es]; exact hv)) ?_ r2 (fun C h => by rw [g.eK]; exact r4 C h) (g.gl hg) (g.none F.isinstance) hd hcd hst hs2 hpl
  rcases r3 with h | ⟨h1, h2, h3⟩
  · exact pe_glob (g.gl hgy) (by rw [g.em]; exact h) r1 hdy
  · exact pe_bltn (g.gl hgy) (by rw [g.em]; exact h1) h2 r1 h3 hdy
theorem n_notX {Cs : List Addr} {i : Nat} {e1 e2 : Expr} {p1 p2 : Pos} (h1 : PE X e1 (fun σ H Q => AtX i Cs σ H ∧ Q (.bl true) H)) (h2 : PE X e2 (fun σ H Q => AtX i Cs σ H ∧ Q (.bl true) H))
    (w1 : ∀ whole, isTrue e1 X.env whole = (do let v ← whole; standAt e1.pos; holding [v] (truthy v)) := by intro _; rfl) (w2 : ∀ whole, isTrue e2 X.env whole = (do let v ← whole; standAt e2.pos; holding [v] (truthy v)) := by intro _; rfl) :
    PT X (.BoolOp .Or [.UnaryOp .Not e1 p1, .UnaryOp .Not e2 p2] pos) (fun σ H Q => AtX i Cs σ H ∧ Q false H) :=
  PT.less (PW.pt (pw_or (pt_not (pt_val h1 w1)) (pw_or1 (pt_not (pt_val h2 w2))))) fun σ H Q _ q => ⟨q.1, true, rfl, ⟨q.1, true, rfl, q.2⟩⟩
theorem s_excs {Cs : List Addr} {i : Nat} {n : Str} {np lp ip : Pos} {test : Expr} {body : List Stmt} (g : Std P w K mg base N sc fn k W X) (hes : PA X es (tXs Cs)) (ht : PT X test (fun σ H Q => AtX i Cs σ H ∧ Q false H)) (h0 : Cs ≠ [] := by exact fun h => nomatch h) (h5 : Cs.length ≤ 100 := by exact Nat.le_of_ble_eq_true rfl)
    (hN : N[i]? = some n := by rfl) (hv : sc.names.lookup n = some .local := by rfl) (hs : ∀ x, foldedSetIterable (.List es lp) X.env x = pure x := by intro _; rfl) : DS X T W (.For (.Name n np) (.List es lp) [.If test body [] ip] [] pos) (fExcs i) :=
  ds_excs g.pass g.calm (by rw [g.eN]; exact g.nd) (by rw [g.eN]; exact hN) (by rw [g.es]; exact .inl hv) (.inr (by rw [g.es]; exact hv)) hes h0 h5 ht hs
end
end U

set_option Elab.async false
set_option linter.all false
set_option maxRecDepth 100000
set_option maxHeartbeats 1000000
/-! V8: machines drawn; the fault of a machine. -/
namespace U
open PySem PySem.Spec PyProof.Rows L2

def N_are_numbers : List Str := ["row", "count", "one"]
def f_are_numbers : FS := fRet (fAndV (fOp gEq (fCB gLen (fCons (fNm 0) fNil)) (fNm 1)) (fAllG (fSeqA (fNm 0)) (bNm 2) (fChain gLe gLe (fC (.int 0)) (fNm 2) (fC (.int 20))) [2]))
def N_is_pour : List Str := ["pour", "counters"]
def f_is_pour : FS := fRet (fAndV (fOp gEq (fCB gLen (fCons (fNm 0) fNil)) (fC (.int 2))) (fAndV (fChain gLe gLt (fNeg (fC (.int 1))) (fOp gIx (fNm 0) (fC (.int 0))) (fNm 1)) (fChain gLe gLe (fC (.int 1)) (fOp gIx (fNm 0) (fC (.int 1))) (fC (.int 3)))))
def N_is_act : List Str := ["act", "letters"]
def f_is_act : FS := fThen (fIfS (fB (fOp gEq (fNm 0) (fTup fNil))) (fRet (fC (.bl true))) fPass) (fRet (fAndV (fOp gEq (fCB gLen (fCons (fNm 0) fNil)) (fC (.int 2))) (fAndV (fOp gIn (fOp gIx (fNm 0) (fC (.int 0))) (fTup (fCons (fC (.str "send")) (fCons (fC (.str "take")) fNil)))) (fChain gLe gLt (fC (.int 0)) (fOp gIx (fNm 0) (fC (.int 1))) (fNm 1)))))
def N_is_rule : List Str := ["machine", "rule", "modes", "counters", "queues", "letters", "_", "pour", "act"]
def f_is_rule (S_are_numbers : FSpec) (S_is_pour : FSpec) (S_is_act : FSpec) : FS := fThen (fAsg (fNm 0) (bTup 5 (bCons (bNm 2) (bCons (bNm 3) (bCons (bNm 4) (bCons (bNm 5) (bCons (bNm 6) bNil))))))) (fThen (fIfS (fOr (fB (fOp gNe (fCB gLen (fCons (fNm 1) fNil)) (fC (.int 6)))) (fOr (fNot (fB (fChain gLe gLt (fC (.int 0)) (fOp gIx (fNm 1) (fC (.int 0))) (fNm 2)))) (fNot (fB (fChain gLe gLt (fC (.int 0)) (fOp gIx (fNm 1) (fC (.int 5))) (fNm 2)))))) (fRet (fC (.bl false))) fPass) (fThen (fIfS (fOr (fNot (fTr (fCall S_are_numbers (fCons (fOp gIx (fNm 1) (fC (.int 1))) (fCons (fNm 3) fNil))))) (fNot (fTr (fCall S_are_numbers (fCons (fOp gIx (fNm 1) (fC (.int 3))) (fCons (fNm 3) fNil)))))) (fRet (fC (.bl false))) fPass) (fThen (fIfS (fOr (fB (fOp gNe (fCB gLen (fCons (fOp gIx (fNm 1) (fC (.int 2))) fNil)) (fNm 3))) (fNot (fTr (fAllG (fSeqA (fOp gIx (fNm 1) (fC (.int 2)))) (bNm 7) (fCall S_is_pour (fCons (fNm 7) (fCons (fNm 3) fNil))) [7])))) (fRet (fC (.bl false))) fPass) (fRet (fAndV (fOp gEq (fCB gLen (fCons (fOp gIx (fNm 1) (fC (.int 4))) fNil)) (fNm 4)) (fAllG (fSeqA (fOp gIx (fNm 1) (fC (.int 4)))) (bNm 8) (fCall S_is_act (fCons (fNm 8) (fCons (fNm 5) fNil))) [8]))))))
def N_fault : List Str := ["machine", "modes", "counters", "queues", "letters", "rules", "number", "rule"]
def f_fault (S_is_rule : FSpec) : FS := fThen (fAsg (fNm 0) (bTup 5 (bCons (bNm 1) (bCons (bNm 2) (bCons (bNm 3) (bCons (bNm 4) (bCons (bNm 5) bNil))))))) (fThen (fIfS (fNot (fB (fChain gLe gLe (fC (.int 1)) (fNm 1) (fC (.int 6))))) (fRet (fTup (fCons (fC (.str "modes")) fNil))) fPass) (fThen (fIfS (fNot (fB (fChain gLe gLe (fC (.int 0)) (fNm 2) (fC (.int 4))))) (fRet (fTup (fCons (fC (.str "counters")) fNil))) fPass) (fThen (fIfS (fNot (fB (fChain gLe gLe (fC (.int 0)) (fNm 3) (fC (.int 2))))) (fRet (fTup (fCons (fC (.str "queues")) fNil))) fPass) (fThen (fIfS (fNot (fB (fChain gLe gLe (fC (.int 0)) (fNm 4) (fC (.int 3))))) (fRet (fTup (fCons (fC (.str "letters")) fNil))) fPass) (fThen (fIfS (fB (fOp gGt (fCB gLen (fCons (fNm 5) fNil)) (fC (.int 20)))) (fRet (fTup (fCons (fC (.str "rules")) fNil))) fPass) (fThen (fFor (fEn1 (fCons (fNm 5) fNil)) (bTup 2 (bCons (bNm 6) (bCons (bNm 7) bNil))) (fIfS (fNot (fTr (fCall S_is_rule (fCons (fNm 0) (fCons (fNm 7) fNil))))) (fRet (fTup (fCons (fC (.str "rule")) (fCons (fNm 6) fNil)))) fPass)) (fRet (fC .non))))))))
def N_lrule : List Str := ["_law_state", "_law_shape_here", "_law_modes", "_law_counters", "_law_queues", "_law_letters", "_law_needs", "_law_pours", "_law_k", "_law_choice", "_law_gives", "_law_acts", "_law_name"]
def f_lrule (S_ldraw : FSpec) : FS := fThen (fAsg (fNm 1) (bTup 4 (bCons (bNm 2) (bCons (bNm 3) (bCons (bNm 4) (bCons (bNm 5) bNil)))))) (fThen (fSet 6 (fCB gTuple (fCons (fOfL (fLc (fRng1 (fCons (fNm 3) fNil)) (bNm 8) fYes (fOp gIx (fOfL (fLstL (fCons (fC (.int 0)) (fCons (fC (.int 0)) (fCons (fC (.int 1)) (fCons (fC (.int 2)) fNil)))))) (fCall S_ldraw (fCons (fNm 0) (fCons (fC (.int 4)) fNil)))) [8])) fNil))) (fThen (fOwn 7 (fLstL fNil)) (fThen (fFor (fRng1 (fCons (fNm 3) fNil)) (bNm 8) (fThen (fSet 9 (fCall S_ldraw (fCons (fNm 0) (fCons (fC (.int 8)) fNil)))) (fThen (fExpr (fAppend (fNm 7) (fCons (fTup (fCons (fNm 8) (fCons (fC (.int 1)) fNil))) fNil))) (fThen (fIfS (fB (fOp gEq (fNm 9) (fC (.int 0)))) (fSetIx (fNm 7) (fNm 8) (fTup (fCons (fCall S_ldraw (fCons (fNm 0) (fCons (fNm 3) fNil))) (fCons (fOp gAdd (fC (.int 1)) (fCall S_ldraw (fCons (fNm 0) (fCons (fC (.int 3)) fNil)))) fNil)))) fPass) (fThen (fIfS (fB (fOp gEq (fNm 9) (fC (.int 1)))) (fSetIx (fNm 7) (fNm 8) (fTup (fCons (fOp gSub (fC (.int 0)) (fC (.int 1))) (fCons (fC (.int 1)) fNil)))) fPass) (fIfS (fB (fOp gEq (fNm 9) (fC (.int 2)))) (fSetIx (fNm 7) (fNm 8) (fTup (fCons (fNm 8) (fCons (fOp gAdd (fC (.int 2)) (fCall S_ldraw (fCons (fNm 0) (fCons (fC (.int 2)) fNil)))) fNil)))) fPass)))))) (fFrz 7 (fThen (fSet 10 (fCB gTuple (fCons (fOfL (fLc (fRng1 (fCons (fNm 3) fNil)) (bNm 8) fYes (fOp gIx (fOfL (fLstL (fCons (fC (.int 0)) (fCons (fC (.int 0)) (fCons (fC (.int 1)) (fCons (fC (.int 2)) fNil)))))) (fCall S_ldraw (fCons (fNm 0) (fCons (fC (.int 4)) fNil)))) [8])) fNil))) (fThen (fOwn 11 (fLstL fNil)) (fThen (fFor (fRng1 (fCons (fNm 4) fNil)) (bNm 8) (fThen (fSet 12 (fOp gIx (fOfL (fLstL (fCons (fC (.str "send")) (fCons (fC (.str "take")) fNil)))) (fCall S_ldraw (fCons (fNm 0) (fCons (fC (.int 2)) fNil))))) (fIfS (fOr (fB (fOp gEq (fNm 5) (fC (.int 0)))) (fB (fOp gEq (fCall S_ldraw (fCons (fNm 0) (fCons (fC (.int 3)) fNil))) (fC (.int 0))))) (fExpr (fAppend (fNm 11) (fCons (fTup fNil) fNil))) (fExpr (fAppend (fNm 11) (fCons (fTup (fCons (fNm 12) (fCons (fCall S_ldraw (fCons (fNm 0) (fCons (fNm 5) fNil))) fNil))) fNil)))))) (fFrz 11 (fRet (fTup (fCons (fCall S_ldraw (fCons (fNm 0) (fCons (fNm 2) fNil))) (fCons (fNm 6) (fCons (fCB gTuple (fCons (fNm 7) fNil)) (fCons (fNm 10) (fCons (fCB gTuple (fCons (fNm 11) fNil)) (fCons (fCall S_ldraw (fCons (fNm 0) (fCons (fNm 2) fNil))) fNil))))))))))))))))
def N_lmachine : List Str := ["_law_state", "_law_most", "_law_shape_here", "_law_k"]
def f_lmachine (S_lshape : FSpec) (S_ldraw : FSpec) (S_lrule : FSpec) : FS := fThen (fSet 2 (fCall S_lshape (fCons (fNm 0) fNil))) (fRet (fOp gAdd (fNm 2) (fTup (fCons (fCB gTuple (fCons (fOfL (fLc (fRng1 (fCons (fCall S_ldraw (fCons (fNm 0) (fCons (fOp gAdd (fNm 1) (fC (.int 1))) fNil))) fNil)) (bNm 3) fYes (fCall S_lrule (fCons (fNm 0) (fCons (fNm 2) fNil))) [3])) fNil)) fNil))))

/-! a state that draws, and a list being made -/
def Stq (a p : Addr) (M M' : Mu) (l : List D) : Prop := (∀ b, b ≠ a → b ≠ p → M' b = M b) ∧ M' p = some (.lst l) ∧ IsSt M' a
section
variable {a p : Addr} {M M' M'' : Mu} {l l' : List D}
theorem IsSt.ne (h : IsSt M a) (k : M p = none) : p ≠ a := fun e => by
  obtain ⟨m, h⟩ := h.ex
  rw [e, h] at k
  cases k
theorem Stq.start (h : IsSt M a) (n : p ≠ a) : Stq a p M (mset M p (.lst l)) l :=
  ⟨fun b _ hb => mset_ne hb, sf, by
    obtain ⟨x0, x1, x3, scr, e, r⟩ := h
    exact ⟨x0, x1, x3, scr, by rw [mset_ne (Ne.symm n)]; exact e, r⟩⟩
theorem Stq.draw (h : Stq a p M M' l) (n : p ≠ a) (k : Stp a M' M'') : Stq a p M M'' l :=
  ⟨fun b h1 h2 => (k.1 b h1).trans (h.1 b h1 h2), (k.1 p n).trans h.2.1, k.2⟩
theorem Stq.put (h : Stq a p M M' l) (n : p ≠ a) : Stq a p M (mset M' p (.lst l')) l' :=
  ⟨fun b h1 h2 => (mset_ne h2).trans (h.1 b h1 h2), sf, by
    obtain ⟨x0, x1, x3, scr, e, r⟩ := h.2.2
    exact ⟨x0, x1, x3, scr, by rw [mset_ne (Ne.symm n)]; exact e, r⟩⟩
theorem Stq.del (h : Stq a p M M' l) (n : p ≠ a) (hM : M p = none) : Stp a M (mdel M' p) := by
  refine ⟨fun b hb => ?_, ?_⟩
  · by_cases e : b = p
    · rw [e, mdel_same, hM]
    · rw [mdel_ne e]; exact h.1 b hb e
  · obtain ⟨x0, x1, x3, scr, e, r⟩ := h.2.2
    exact ⟨x0, x1, x3, scr, by rw [mdel_ne (Ne.symm n)]; exact e, r⟩
end
theorem set_last {α : Type} (l : List α) (x y : α) {k : Nat} (h : l.length = k) : (l ++ [x]).set k y = l ++ [y] := by
  subst h
  induction l with
  | nil => rfl
  | cons a l ih => simp only [List.cons_append, List.length_cons, List.set_cons_succ, ih]

abbrev Act := Option (Str × Int)
structure Rule where
  a : Int
  n : List Int
  p : List (Int × Int)
  g : List Int
  c : List Act
  z : Int
def actD : Act → D
  | none => .tup []
  | some x => .tup [.str x.1, .int x.2]
def pourD (p : Int × Int) : D := .tup [.int p.1, .int p.2]
def rlD (r : Rule) : D := .tup [.int r.a, .tup (r.n.map .int), .tup (r.p.map pourD), .tup (r.g.map .int), .tup (r.c.map actD), .int r.z]
structure Mch where
  s : Shp
  r : List Rule
def mchD (m : Mch) : D := .tup [.int m.s.m, .int m.s.c, .int m.s.q, .int m.s.l, .tup (m.r.map rlD)]
def okAct (l : Int) : Act → Prop
  | none => True
  | some x => (x.1 = "send" ∨ x.1 = "take") ∧ 0 ≤ x.2 ∧ x.2 < l
def okPour (c : Int) (p : Int × Int) : Prop := ((p.1 = -1 → p.2 = 1) ∧ -1 ≤ p.1) ∧ p.1 < c ∧ 1 ≤ p.2 ∧ p.2 ≤ 3
def okRl (sh : Shp) (r : Rule) : Prop :=
  (0 ≤ r.a ∧ r.a < sh.m) ∧ ((r.n.length : Int) = sh.c ∧ ∀ x ∈ r.n, 0 ≤ x ∧ x ≤ 2) ∧ ((r.p.length : Int) = sh.c ∧ ∀ x ∈ r.p, okPour sh.c x) ∧
  ((r.g.length : Int) = sh.c ∧ ∀ x ∈ r.g, 0 ≤ x ∧ x ≤ 2) ∧ ((r.c.length : Int) = sh.q ∧ ∀ x ∈ r.c, okAct sh.l x) ∧ 0 ≤ r.z ∧ r.z < sh.m
def okM (k : Int) (m : Mch) : Prop := okSh m.s ∧ (m.r.length : Int) ≤ k ∧ ∀ r ∈ m.r, okRl m.s r
def okShW (s : Shp) : Prop := 1 ≤ s.m ∧ s.m < 1000 ∧ 0 ≤ s.c ∧ s.c < 1000 ∧ 0 ≤ s.q ∧ s.q < 1000 ∧ 0 ≤ s.l ∧ s.l < 1000
theorem okSh.wide {s : Shp} (h : okSh s) : okShW s := by
  obtain ⟨h1, h2, h3, h4, h5, h6, h7, h8⟩ := h
  exact ⟨by omega, by omega, by omega, by omega, by omega, by omega, by omega, by omega⟩
def S_lrule : FSpec := Drw (fun r d => ∃ (sh : Shp) (rl : Rule), r = [shD sh] ∧ d = rlD rl ∧ okRl sh rl) fun r => ∃ sh : Shp, r = [shD sh] ∧ okShW sh
def S_lmachine : FSpec := Drw (fun r d => ∃ (k : Int) (m : Mch), r = [.int k] ∧ d = mchD m ∧ okM k m) fun r => ∃ k : Int, r = [.int k] ∧ 0 ≤ k ∧ k < 1000
theorem rule_call {a : Addr} {M : Mu} {xw : XW} {Q : D → Mu → Prop} {sh : Shp} (h : IsSt M a) (hs : okShW sh) (k : ∀ M' (r : Rule), okRl sh r → Stp a M M' → Q (rlD r) M') : CallS S_lrule [.loc a, shD sh] M xw (.mk : Ky Q) :=
  drw_call h ⟨sh, rfl, hs⟩ fun M' d hR s => by
    obtain ⟨sh', r, e, rfl, h1⟩ := hR
    simp only [List.cons.injEq, and_true] at e
    cases shD_inj e
    exact k M' r h1 s
theorem machine_call {a : Addr} {M : Mu} {xw : XW} {Q : D → Mu → Prop} {k : Int} (h : IsSt M a) (h0 : 0 ≤ k) (h1 : k < 1000) (kk : ∀ M' (m : Mch), okM k m → Stp a M M' → Q (mchD m) M') : CallS S_lmachine [.loc a, .int k] M xw (.mk : Ky Q) :=
  drw_call h ⟨k, rfl, h0, h1⟩ fun M' d hR s => by
    obtain ⟨k', m, e, rfl, hm⟩ := hR
    cases e
    exact kk M' m hm s
theorem pick4 {i : Int} (h0 : 0 ≤ i) (h1 : i < 4) : ∃ x : Int, atI [D.int 0, .int 0, .int 1, .int 2] i = some (.int x) ∧ 0 ≤ x ∧ x ≤ 2 := by
  have : i = 0 ∨ i = 1 ∨ i = 2 ∨ i = 3 := by omega
  rcases this with rfl | rfl | rfl | rfl
  · exact ⟨0, rfl, by decide, by decide⟩
  · exact ⟨0, rfl, by decide, by decide⟩
  · exact ⟨1, rfl, by decide, by decide⟩
  · exact ⟨2, rfl, by decide, by decide⟩
theorem pick2 {i : Int} (h0 : 0 ≤ i) (h1 : i < 2) : ∃ x : Str, atI [D.str "send", .str "take"] i = some (.str x) ∧ (x = "send" ∨ x = "take") := by
  have : i = 0 ∨ i = 1 := by omega
  rcases this with rfl | rfl
  · exact ⟨_, rfl, .inl rfl⟩
  · exact ⟨_, rfl, .inr rfl⟩
theorem b_lrule (ds : List D) (M : Mu) (Q : D → Mu → Prop) (xw : XW) (h : S_lrule ds M Q xw) : zh N_lrule (f_lrule S_ldraw) ds M Q xw := by
  obtain ⟨a, rest, rfl, ⟨sh, rfl, hsh⟩, st, post⟩ := h
  have post2 : ∀ (r : Rule) M', okRl sh r → Stp a M M' → Q (rlD r) (mres M' M) := fun r M' h1 h2 => post _ _ ⟨sh, r, rfl, rfl, h1⟩ (h2.res st)
  obtain ⟨m, c, q, l⟩ := sh
  obtain ⟨h1, h2, h3, h4, h5, h6, h7, h8⟩ := hsh
  dsimp only at h1 h2 h3 h4 h5 h6 h7 h8
  have hsz : sizeLine = 16777216 := rfl
  simp only [zh, bodyL, zi, N_lrule, List.map_cons, List.map_nil, List.length_cons, List.length_nil, List.replicate_succ, List.replicate_zero, List.cons_append, List.nil_append, Nat.reduceAdd, Nat.reduceSub]
  unfold f_lrule
  unfold shD
  try simp -dsimp only [↓za,↓zb,↓zc,↓zd,↓ze,↓zf,↓zg,zh,zi,List.map_cons,List.map_nil,List.length_cons,List.length_nil,List.replicate_succ,List.replicate_zero,List.cons_append,List.nil_append,Nat.reduceAdd,Nat.reduceSub,List.set_cons_zero,List.set_cons_succ,List.getElem?_cons_zero,List.getElem?_cons_succ,Bool.not_true,Bool.not_false,decide_true,decide_false,↓zj,↓zk,↓zl,↓zm,↓zn,↓zo,↓zp,↓zq,↓zr,↓zt,↓zu,↓zv,zj,zk,zl,zm,zn,zo,zp,zq,zr,zt,zu,zv,↓zw,↓zx,↓zy,↓zz,↓z9,↓ya,↓yb,↓yc,↓yd,↓ye,↓yf,↓yg,↓yh,↓yi,↓yj,↓yk,↓yl,↓ym,↓yn,↓yo,↓yp,↓eC,↓yq,↓eB,↓yr,↓yt,↓yu,↓yw,↓yx,↓yy,↓yz,↓y5,↓y6,↓y8,↓y9,↓xa,↓xb,↓xc,↓xg,↓xh,↓xi,↓xj,↓xk,↓xl,↓xm,↓xn,↓xo,↓xp,↓xq,↓xr,↓xt,↓xu,↓xy,↓xz,↓x5,↓x6,↓x7,↓x8,↓x9,↓wa,↓wb,↓wc,↓wd,↓we,↓wf,↓wg,↓wh,↓wj,↓wl,↓wm,↓wn,↓wo,↓wp,↓wq,↓wt,↓wu,wv,ww,wx,wy,wz,w3,w4,↓x9,↓wa,↓w6,↓x8,↓w7,↓w8,↓w9,va,vb,↓vc,↓vd,↓vf,↓vg,↓vh,↓vi,↓vj,↓vk,↓vm,↓vn,↓vo,↓vp,↓vq,↓vt,↓vv,↓vw,↓vx,↓vy,↓vz,↓v0,↓v3,↓v4,↓v5,↓v7,↓v8,↓v9,↓ua,↓ub,↓uc,↓ud,↓ue,↓uf,↓ug,↓uh,ui,uj,uk,ul,um,uo,uq,ur,ut,uu,uv,uw,ux,uy,uz,u2,u3,u5,u6,u7,u8,Option.bind_some,u9,tj,tm,tq,tv,tw,tz,t3,t8,t9,sf,true_and,beq_self_eq_true,Bool.false_eq_true,c0,c1,Int.cast_ofNat_Int,Int.reduceEq,Int.reduceLT,Int.reduceLE,Int.reduceAdd,Int.reduceSub,↓reduceIte]
  refine ⟨by omega, lc_gen (fun y => ∃ x : Int, y = .int x ∧ (0 ≤ x ∧ x ≤ 2)) st (by rw [rngD_length]; omega) (fun d M' k _ hs hk => ?_) fun ys M1 hl hy s1 => ?_⟩
  · try simp -dsimp only [↓za,↓zb,↓zc,↓zd,↓ze,↓zf,↓zg,zh,zi,List.map_cons,List.map_nil,List.length_cons,List.length_nil,List.replicate_succ,List.replicate_zero,List.cons_append,List.nil_append,Nat.reduceAdd,Nat.reduceSub,List.set_cons_zero,List.set_cons_succ,List.getElem?_cons_zero,List.getElem?_cons_succ,Bool.not_true,Bool.not_false,decide_true,decide_false,↓zj,↓zk,↓zl,↓zm,↓zn,↓zo,↓zp,↓zq,↓zr,↓zt,↓zu,↓zv,zj,zk,zl,zm,zn,zo,zp,zq,zr,zt,zu,zv,↓zw,↓zx,↓zy,↓zz,↓z9,↓ya,↓yb,↓yc,↓yd,↓ye,↓yf,↓yg,↓yh,↓yi,↓yj,↓yk,↓yl,↓ym,↓yn,↓yo,↓yp,↓eC,↓yq,↓eB,↓yr,↓yt,↓yu,↓yw,↓yx,↓yy,↓yz,↓y5,↓y6,↓y8,↓y9,↓xa,↓xb,↓xc,↓xg,↓xh,↓xi,↓xj,↓xk,↓xl,↓xm,↓xn,↓xo,↓xp,↓xq,↓xr,↓xt,↓xu,↓xy,↓xz,↓x5,↓x6,↓x7,↓x8,↓x9,↓wa,↓wb,↓wc,↓wd,↓we,↓wf,↓wg,↓wh,↓wj,↓wl,↓wm,↓wn,↓wo,↓wp,↓wq,↓wt,↓wu,wv,ww,wx,wy,wz,w3,w4,↓x9,↓wa,↓w6,↓x8,↓w7,↓w8,↓w9,va,vb,↓vc,↓vd,↓vf,↓vg,↓vh,↓vi,↓vj,↓vk,↓vm,↓vn,↓vo,↓vp,↓vq,↓vt,↓vv,↓vw,↓vx,↓vy,↓vz,↓v0,↓v3,↓v4,↓v5,↓v7,↓v8,↓v9,↓ua,↓ub,↓uc,↓ud,↓ue,↓uf,↓ug,↓uh,ui,uj,uk,ul,um,uo,uq,ur,ut,uu,uv,uw,ux,uy,uz,u2,u3,u5,u6,u7,u8,Option.bind_some,u9,tj,tm,tq,tv,tw,tz,t3,t8,t9,sf,true_and,beq_self_eq_true,Bool.false_eq_true,c0,c1,Int.cast_ofNat_Int,Int.reduceEq,Int.reduceLT,Int.reduceLE,Int.reduceAdd,Int.reduceSub,↓reduceIte]
    refine ⟨by decide, draw_call hs.2 (by omega) (by omega) fun M2 j j0 j1 s2 => ?_⟩
    obtain ⟨x, ex, hx⟩ := pick4 j0 j1
    try simp -dsimp only [↓za,↓zb,↓zc,↓zd,↓ze,↓zf,↓zg,zh,zi,List.map_cons,List.map_nil,List.length_cons,List.length_nil,List.replicate_succ,List.replicate_zero,List.cons_append,List.nil_append,Nat.reduceAdd,Nat.reduceSub,List.set_cons_zero,List.set_cons_succ,List.getElem?_cons_zero,List.getElem?_cons_succ,Bool.not_true,Bool.not_false,decide_true,decide_false,↓zj,↓zk,↓zl,↓zm,↓zn,↓zo,↓zp,↓zq,↓zr,↓zt,↓zu,↓zv,zj,zk,zl,zm,zn,zo,zp,zq,zr,zt,zu,zv,↓zw,↓zx,↓zy,↓zz,↓z9,↓ya,↓yb,↓yc,↓yd,↓ye,↓yf,↓yg,↓yh,↓yi,↓yj,↓yk,↓yl,↓ym,↓yn,↓yo,↓yp,↓eC,↓yq,↓eB,↓yr,↓yt,↓yu,↓yw,↓yx,↓yy,↓yz,↓y5,↓y6,↓y8,↓y9,↓xa,↓xb,↓xc,↓xg,↓xh,↓xi,↓xj,↓xk,↓xl,↓xm,↓xn,↓xo,↓xp,↓xq,↓xr,↓xt,↓xu,↓xy,↓xz,↓x5,↓x6,↓x7,↓x8,↓x9,↓wa,↓wb,↓wc,↓wd,↓we,↓wf,↓wg,↓wh,↓wj,↓wl,↓wm,↓wn,↓wo,↓wp,↓wq,↓wt,↓wu,wv,ww,wx,wy,wz,w3,w4,↓x9,↓wa,↓w6,↓x8,↓w7,↓w8,↓w9,va,vb,↓vc,↓vd,↓vf,↓vg,↓vh,↓vi,↓vj,↓vk,↓vm,↓vn,↓vo,↓vp,↓vq,↓vt,↓vv,↓vw,↓vx,↓vy,↓vz,↓v0,↓v3,↓v4,↓v5,↓v7,↓v8,↓v9,↓ua,↓ub,↓uc,↓ud,↓ue,↓uf,↓ug,↓uh,ui,uj,uk,ul,um,uo,uq,ur,ut,uu,uv,uw,ux,uy,uz,u2,u3,u5,u6,u7,u8,Option.bind_some,u9,tj,tm,tq,tv,tw,tz,t3,t8,t9,sf,true_and,beq_self_eq_true,Bool.false_eq_true,c0,c1,Int.cast_ofNat_Int,Int.reduceEq,Int.reduceLT,Int.reduceLE,Int.reduceAdd,Int.reduceSub,↓reduceIte, ex]
    exact hk _ _ ⟨x, rfl, hx⟩ (hs.trans s2)
  obtain ⟨n, rfl, hn⟩ := enc_of ys hy
  rw [rngD_length, List.length_map] at hl
  try simp -dsimp only [↓za,↓zb,↓zc,↓zd,↓ze,↓zf,↓zg,zh,zi,List.map_cons,List.map_nil,List.length_cons,List.length_nil,List.replicate_succ,List.replicate_zero,List.cons_append,List.nil_append,Nat.reduceAdd,Nat.reduceSub,List.set_cons_zero,List.set_cons_succ,List.getElem?_cons_zero,List.getElem?_cons_succ,Bool.not_true,Bool.not_false,decide_true,decide_false,↓zj,↓zk,↓zl,↓zm,↓zn,↓zo,↓zp,↓zq,↓zr,↓zt,↓zu,↓zv,zj,zk,zl,zm,zn,zo,zp,zq,zr,zt,zu,zv,↓zw,↓zx,↓zy,↓zz,↓z9,↓ya,↓yb,↓yc,↓yd,↓ye,↓yf,↓yg,↓yh,↓yi,↓yj,↓yk,↓yl,↓ym,↓yn,↓yo,↓yp,↓eC,↓yq,↓eB,↓yr,↓yt,↓yu,↓yw,↓yx,↓yy,↓yz,↓y5,↓y6,↓y8,↓y9,↓xa,↓xb,↓xc,↓xg,↓xh,↓xi,↓xj,↓xk,↓xl,↓xm,↓xn,↓xo,↓xp,↓xq,↓xr,↓xt,↓xu,↓xy,↓xz,↓x5,↓x6,↓x7,↓x8,↓x9,↓wa,↓wb,↓wc,↓wd,↓we,↓wf,↓wg,↓wh,↓wj,↓wl,↓wm,↓wn,↓wo,↓wp,↓wq,↓wt,↓wu,wv,ww,wx,wy,wz,w3,w4,↓x9,↓wa,↓w6,↓x8,↓w7,↓w8,↓w9,va,vb,↓vc,↓vd,↓vf,↓vg,↓vh,↓vi,↓vj,↓vk,↓vm,↓vn,↓vo,↓vp,↓vq,↓vt,↓vv,↓vw,↓vx,↓vy,↓vz,↓v0,↓v3,↓v4,↓v5,↓v7,↓v8,↓v9,↓ua,↓ub,↓uc,↓ud,↓ue,↓uf,↓ug,↓uh,ui,uj,uk,ul,um,uo,uq,ur,ut,uu,uv,uw,ux,uy,uz,u2,u3,u5,u6,u7,u8,Option.bind_some,u9,tj,tm,tq,tv,tw,tz,t3,t8,t9,sf,true_and,beq_self_eq_true,Bool.false_eq_true,c0,c1,Int.cast_ofNat_Int,Int.reduceEq,Int.reduceLT,Int.reduceLE,Int.reduceAdd,Int.reduceSub,↓reduceIte]
  refine ⟨by omega, fun p hp hp1 => ?_⟩
  have npa : p ≠ a := s1.2.ne hp1
  refine ⟨by omega, forS_rng (fun k ρ M' => ∃ ps : List (Int × Int), ps.length = k ∧ (∀ x ∈ ps, okPour c x) ∧ (∃ o8 o9, ρ = [some (.loc a), some (.tup [.int m, .int c, .int q, .int l]), some (.int m), some (.int c), some (.int q), some (.int l), some (.tup (n.map .int)), some (.loc p), o8, o9, none, none, none]) ∧ Stq a p M1 M' (ps.map pourD)) ⟨[], rfl, fun _ h => (nomatch h), ⟨_, _, rfl⟩, Stq.start s1.2 npa⟩ ?_ ?_⟩
  · rintro k ρ M' hk ⟨ps, hl1, hps, ⟨o8, o9, rfl⟩, sq⟩ nn cc hn1 hc1
    have hpl : (ps.map pourD).length = k := by rw [List.length_map]; exact hl1
    try simp -dsimp only [↓za,↓zb,↓zc,↓zd,↓ze,↓zf,↓zg,zh,zi,List.map_cons,List.map_nil,List.length_cons,List.length_nil,List.replicate_succ,List.replicate_zero,List.cons_append,List.nil_append,Nat.reduceAdd,Nat.reduceSub,List.set_cons_zero,List.set_cons_succ,List.getElem?_cons_zero,List.getElem?_cons_succ,Bool.not_true,Bool.not_false,decide_true,decide_false,↓zj,↓zk,↓zl,↓zm,↓zn,↓zo,↓zp,↓zq,↓zr,↓zt,↓zu,↓zv,zj,zk,zl,zm,zn,zo,zp,zq,zr,zt,zu,zv,↓zw,↓zx,↓zy,↓zz,↓z9,↓ya,↓yb,↓yc,↓yd,↓ye,↓yf,↓yg,↓yh,↓yi,↓yj,↓yk,↓yl,↓ym,↓yn,↓yo,↓yp,↓eC,↓yq,↓eB,↓yr,↓yt,↓yu,↓yw,↓yx,↓yy,↓yz,↓y5,↓y6,↓y8,↓y9,↓xa,↓xb,↓xc,↓xg,↓xh,↓xi,↓xj,↓xk,↓xl,↓xm,↓xn,↓xo,↓xp,↓xq,↓xr,↓xt,↓xu,↓xy,↓xz,↓x5,↓x6,↓x7,↓x8,↓x9,↓wa,↓wb,↓wc,↓wd,↓we,↓wf,↓wg,↓wh,↓wj,↓wl,↓wm,↓wn,↓wo,↓wp,↓wq,↓wt,↓wu,wv,ww,wx,wy,wz,w3,w4,↓x9,↓wa,↓w6,↓x8,↓w7,↓w8,↓w9,va,vb,↓vc,↓vd,↓vf,↓vg,↓vh,↓vi,↓vj,↓vk,↓vm,↓vn,↓vo,↓vp,↓vq,↓vt,↓vv,↓vw,↓vx,↓vy,↓vz,↓v0,↓v3,↓v4,↓v5,↓v7,↓v8,↓v9,↓ua,↓ub,↓uc,↓ud,↓ue,↓uf,↓ug,↓uh,ui,uj,uk,ul,um,uo,uq,ur,ut,uu,uv,uw,ux,uy,uz,u2,u3,u5,u6,u7,u8,Option.bind_some,u9,tj,tm,tq,tv,tw,tz,t3,t8,t9,sf,true_and,beq_self_eq_true,Bool.false_eq_true,c0,c1,Int.cast_ofNat_Int,Int.reduceEq,Int.reduceLT,Int.reduceLE,Int.reduceAdd,Int.reduceSub,↓reduceIte]
    refine draw_call sq.2.2 (by omega) (by omega) fun M2 i i0 i1 s2 => ?_
    have sq2 := sq.draw npa s2
    try simp -dsimp only [↓za,↓zb,↓zc,↓zd,↓ze,↓zf,↓zg,zh,zi,List.map_cons,List.map_nil,List.length_cons,List.length_nil,List.replicate_succ,List.replicate_zero,List.cons_append,List.nil_append,Nat.reduceAdd,Nat.reduceSub,List.set_cons_zero,List.set_cons_succ,List.getElem?_cons_zero,List.getElem?_cons_succ,Bool.not_true,Bool.not_false,decide_true,decide_false,↓zj,↓zk,↓zl,↓zm,↓zn,↓zo,↓zp,↓zq,↓zr,↓zt,↓zu,↓zv,zj,zk,zl,zm,zn,zo,zp,zq,zr,zt,zu,zv,↓zw,↓zx,↓zy,↓zz,↓z9,↓ya,↓yb,↓yc,↓yd,↓ye,↓yf,↓yg,↓yh,↓yi,↓yj,↓yk,↓yl,↓ym,↓yn,↓yo,↓yp,↓eC,↓yq,↓eB,↓yr,↓yt,↓yu,↓yw,↓yx,↓yy,↓yz,↓y5,↓y6,↓y8,↓y9,↓xa,↓xb,↓xc,↓xg,↓xh,↓xi,↓xj,↓xk,↓xl,↓xm,↓xn,↓xo,↓xp,↓xq,↓xr,↓xt,↓xu,↓xy,↓xz,↓x5,↓x6,↓x7,↓x8,↓x9,↓wa,↓wb,↓wc,↓wd,↓we,↓wf,↓wg,↓wh,↓wj,↓wl,↓wm,↓wn,↓wo,↓wp,↓wq,↓wt,↓wu,wv,ww,wx,wy,wz,w3,w4,↓x9,↓wa,↓w6,↓x8,↓w7,↓w8,↓w9,va,vb,↓vc,↓vd,↓vf,↓vg,↓vh,↓vi,↓vj,↓vk,↓vm,↓vn,↓vo,↓vp,↓vq,↓vt,↓vv,↓vw,↓vx,↓vy,↓vz,↓v0,↓v3,↓v4,↓v5,↓v7,↓v8,↓v9,↓ua,↓ub,↓uc,↓ud,↓ue,↓uf,↓ug,↓uh,ui,uj,uk,ul,um,uo,uq,ur,ut,uu,uv,uw,ux,uy,uz,u2,u3,u5,u6,u7,u8,Option.bind_some,u9,tj,tm,tq,tv,tw,tz,t3,t8,t9,sf,true_and,beq_self_eq_true,Bool.false_eq_true,c0,c1,Int.cast_ofNat_Int,Int.reduceEq,Int.reduceLT,Int.reduceLE,Int.reduceAdd,Int.reduceSub,↓reduceIte, sq2.2.1]
    refine ⟨by decide, by omega, ?_⟩
    have sq3 : Stq a p M1 (mset M2 p (.lst (ps.map pourD ++ [.tup [.int (0 + (k : Int)), .int 1]]))) (ps.map pourD ++ [.tup [.int (0 + (k : Int)), .int 1]]) := sq2.put npa
    have fin : ∀ (x : Int × Int) M', okPour c x → Stq a p M1 M' (ps.map pourD ++ [pourD x]) → ∀ o8 o9, nn [some (.loc a), some (.tup [.int m, .int c, .int q, .int l]), some (.int m), some (.int c), some (.int q), some (.int l), some (.tup (n.map .int)), some (.loc p), o8, o9, none, none, none] M' := fun x M' hx h o8 o9 =>
      hn1 _ _ ⟨ps ++ [x], by rw [List.length_append, hl1]; rfl, fun y hy => by
        rcases List.mem_append.mp hy with hy | hy
        · exact hps y hy
        · rw [List.mem_singleton.mp hy]; exact hx, ⟨_, _, rfl⟩, by rw [List.map_append]; exact h⟩
    have ix : ∀ y : D, ixN (ps.map pourD ++ [y]).length (0 + (k : Int)) = some k := fun y => by
      rw [ixN_of (by omega) (by rw [List.length_append, hpl]; show 0 + (k : Int) < ((k + 1 : Nat) : Int); omega)]
      congr 1
      omega
    by_cases e0 : i = 0
    · subst e0
      try simp -dsimp only [↓za,↓zb,↓zc,↓zd,↓ze,↓zf,↓zg,zh,zi,List.map_cons,List.map_nil,List.length_cons,List.length_nil,List.replicate_succ,List.replicate_zero,List.cons_append,List.nil_append,Nat.reduceAdd,Nat.reduceSub,List.set_cons_zero,List.set_cons_succ,List.getElem?_cons_zero,List.getElem?_cons_succ,Bool.not_true,Bool.not_false,decide_true,decide_false,↓zj,↓zk,↓zl,↓zm,↓zn,↓zo,↓zp,↓zq,↓zr,↓zt,↓zu,↓zv,zj,zk,zl,zm,zn,zo,zp,zq,zr,zt,zu,zv,↓zw,↓zx,↓zy,↓zz,↓z9,↓ya,↓yb,↓yc,↓yd,↓ye,↓yf,↓yg,↓yh,↓yi,↓yj,↓yk,↓yl,↓ym,↓yn,↓yo,↓yp,↓eC,↓yq,↓eB,↓yr,↓yt,↓yu,↓yw,↓yx,↓yy,↓yz,↓y5,↓y6,↓y8,↓y9,↓xa,↓xb,↓xc,↓xg,↓xh,↓xi,↓xj,↓xk,↓xl,↓xm,↓xn,↓xo,↓xp,↓xq,↓xr,↓xt,↓xu,↓xy,↓xz,↓x5,↓x6,↓x7,↓x8,↓x9,↓wa,↓wb,↓wc,↓wd,↓we,↓wf,↓wg,↓wh,↓wj,↓wl,↓wm,↓wn,↓wo,↓wp,↓wq,↓wt,↓wu,wv,ww,wx,wy,wz,w3,w4,↓x9,↓wa,↓w6,↓x8,↓w7,↓w8,↓w9,va,vb,↓vc,↓vd,↓vf,↓vg,↓vh,↓vi,↓vj,↓vk,↓vm,↓vn,↓vo,↓vp,↓vq,↓vt,↓vv,↓vw,↓vx,↓vy,↓vz,↓v0,↓v3,↓v4,↓v5,↓v7,↓v8,↓v9,↓ua,↓ub,↓uc,↓ud,↓ue,↓uf,↓ug,↓uh,ui,uj,uk,ul,um,uo,uq,ur,ut,uu,uv,uw,ux,uy,uz,u2,u3,u5,u6,u7,u8,Option.bind_some,u9,tj,tm,tq,tv,tw,tz,t3,t8,t9,sf,true_and,beq_self_eq_true,Bool.false_eq_true,c0,c1,Int.cast_ofNat_Int,Int.reduceEq,Int.reduceLT,Int.reduceLE,Int.reduceAdd,Int.reduceSub,↓reduceIte]
      refine draw_call sq3.2.2 (by omega) (by omega) fun M3 j j0 j1 s3 => ?_
      have sq4 := sq3.draw npa s3
      try simp -dsimp only [↓za,↓zb,↓zc,↓zd,↓ze,↓zf,↓zg,zh,zi,List.map_cons,List.map_nil,List.length_cons,List.length_nil,List.replicate_succ,List.replicate_zero,List.cons_append,List.nil_append,Nat.reduceAdd,Nat.reduceSub,List.set_cons_zero,List.set_cons_succ,List.getElem?_cons_zero,List.getElem?_cons_succ,Bool.not_true,Bool.not_false,decide_true,decide_false,↓zj,↓zk,↓zl,↓zm,↓zn,↓zo,↓zp,↓zq,↓zr,↓zt,↓zu,↓zv,zj,zk,zl,zm,zn,zo,zp,zq,zr,zt,zu,zv,↓zw,↓zx,↓zy,↓zz,↓z9,↓ya,↓yb,↓yc,↓yd,↓ye,↓yf,↓yg,↓yh,↓yi,↓yj,↓yk,↓yl,↓ym,↓yn,↓yo,↓yp,↓eC,↓yq,↓eB,↓yr,↓yt,↓yu,↓yw,↓yx,↓yy,↓yz,↓y5,↓y6,↓y8,↓y9,↓xa,↓xb,↓xc,↓xg,↓xh,↓xi,↓xj,↓xk,↓xl,↓xm,↓xn,↓xo,↓xp,↓xq,↓xr,↓xt,↓xu,↓xy,↓xz,↓x5,↓x6,↓x7,↓x8,↓x9,↓wa,↓wb,↓wc,↓wd,↓we,↓wf,↓wg,↓wh,↓wj,↓wl,↓wm,↓wn,↓wo,↓wp,↓wq,↓wt,↓wu,wv,ww,wx,wy,wz,w3,w4,↓x9,↓wa,↓w6,↓x8,↓w7,↓w8,↓w9,va,vb,↓vc,↓vd,↓vf,↓vg,↓vh,↓vi,↓vj,↓vk,↓vm,↓vn,↓vo,↓vp,↓vq,↓vt,↓vv,↓vw,↓vx,↓vy,↓vz,↓v0,↓v3,↓v4,↓v5,↓v7,↓v8,↓v9,↓ua,↓ub,↓uc,↓ud,↓ue,↓uf,↓ug,↓uh,ui,uj,uk,ul,um,uo,uq,ur,ut,uu,uv,uw,ux,uy,uz,u2,u3,u5,u6,u7,u8,Option.bind_some,u9,tj,tm,tq,tv,tw,tz,t3,t8,t9,sf,true_and,beq_self_eq_true,Bool.false_eq_true,c0,c1,Int.cast_ofNat_Int,Int.reduceEq,Int.reduceLT,Int.reduceLE,Int.reduceAdd,Int.reduceSub,↓reduceIte]
      refine draw_call sq4.2.2 (by omega) (by omega) fun M4 u u0 u1 s4 => ?_
      have sq5 := sq4.draw npa s4
      try simp -dsimp only [↓za,↓zb,↓zc,↓zd,↓ze,↓zf,↓zg,zh,zi,List.map_cons,List.map_nil,List.length_cons,List.length_nil,List.replicate_succ,List.replicate_zero,List.cons_append,List.nil_append,Nat.reduceAdd,Nat.reduceSub,List.set_cons_zero,List.set_cons_succ,List.getElem?_cons_zero,List.getElem?_cons_succ,Bool.not_true,Bool.not_false,decide_true,decide_false,↓zj,↓zk,↓zl,↓zm,↓zn,↓zo,↓zp,↓zq,↓zr,↓zt,↓zu,↓zv,zj,zk,zl,zm,zn,zo,zp,zq,zr,zt,zu,zv,↓zw,↓zx,↓zy,↓zz,↓z9,↓ya,↓yb,↓yc,↓yd,↓ye,↓yf,↓yg,↓yh,↓yi,↓yj,↓yk,↓yl,↓ym,↓yn,↓yo,↓yp,↓eC,↓yq,↓eB,↓yr,↓yt,↓yu,↓yw,↓yx,↓yy,↓yz,↓y5,↓y6,↓y8,↓y9,↓xa,↓xb,↓xc,↓xg,↓xh,↓xi,↓xj,↓xk,↓xl,↓xm,↓xn,↓xo,↓xp,↓xq,↓xr,↓xt,↓xu,↓xy,↓xz,↓x5,↓x6,↓x7,↓x8,↓x9,↓wa,↓wb,↓wc,↓wd,↓we,↓wf,↓wg,↓wh,↓wj,↓wl,↓wm,↓wn,↓wo,↓wp,↓wq,↓wt,↓wu,wv,ww,wx,wy,wz,w3,w4,↓x9,↓wa,↓w6,↓x8,↓w7,↓w8,↓w9,va,vb,↓vc,↓vd,↓vf,↓vg,↓vh,↓vi,↓vj,↓vk,↓vm,↓vn,↓vo,↓vp,↓vq,↓vt,↓vv,↓vw,↓vx,↓vy,↓vz,↓v0,↓v3,↓v4,↓v5,↓v7,↓v8,↓v9,↓ua,↓ub,↓uc,↓ud,↓ue,↓uf,↓ug,↓uh,ui,uj,uk,ul,um,uo,uq,ur,ut,uu,uv,uw,ux,uy,uz,u2,u3,u5,u6,u7,u8,Option.bind_some,u9,tj,tm,tq,tv,tw,tz,t3,t8,t9,sf,true_and,beq_self_eq_true,Bool.false_eq_true,c0,c1,Int.cast_ofNat_Int,Int.reduceEq,Int.reduceLT,Int.reduceLE,Int.reduceAdd,Int.reduceSub,↓reduceIte, sq5.2.1, ix, set_last _ _ _ hpl]
      refine ⟨by decide, ?_⟩
      exact fin (j, 1 + u) _ ⟨⟨fun h => by have : j = -1 := h; omega, by show -1 ≤ j; omega⟩, by show j < c; omega, by show 1 ≤ 1 + u; omega, by show 1 + u ≤ 3; omega⟩ (sq5.put npa) _ _
    · rw [decide_eq_false e0]
      try simp -dsimp only [↓za,↓zb,↓zc,↓zd,↓ze,↓zf,↓zg,zh,zi,List.map_cons,List.map_nil,List.length_cons,List.length_nil,List.replicate_succ,List.replicate_zero,List.cons_append,List.nil_append,Nat.reduceAdd,Nat.reduceSub,List.set_cons_zero,List.set_cons_succ,List.getElem?_cons_zero,List.getElem?_cons_succ,Bool.not_true,Bool.not_false,decide_true,decide_false,↓zj,↓zk,↓zl,↓zm,↓zn,↓zo,↓zp,↓zq,↓zr,↓zt,↓zu,↓zv,zj,zk,zl,zm,zn,zo,zp,zq,zr,zt,zu,zv,↓zw,↓zx,↓zy,↓zz,↓z9,↓ya,↓yb,↓yc,↓yd,↓ye,↓yf,↓yg,↓yh,↓yi,↓yj,↓yk,↓yl,↓ym,↓yn,↓yo,↓yp,↓eC,↓yq,↓eB,↓yr,↓yt,↓yu,↓yw,↓yx,↓yy,↓yz,↓y5,↓y6,↓y8,↓y9,↓xa,↓xb,↓xc,↓xg,↓xh,↓xi,↓xj,↓xk,↓xl,↓xm,↓xn,↓xo,↓xp,↓xq,↓xr,↓xt,↓xu,↓xy,↓xz,↓x5,↓x6,↓x7,↓x8,↓x9,↓wa,↓wb,↓wc,↓wd,↓we,↓wf,↓wg,↓wh,↓wj,↓wl,↓wm,↓wn,↓wo,↓wp,↓wq,↓wt,↓wu,wv,ww,wx,wy,wz,w3,w4,↓x9,↓wa,↓w6,↓x8,↓w7,↓w8,↓w9,va,vb,↓vc,↓vd,↓vf,↓vg,↓vh,↓vi,↓vj,↓vk,↓vm,↓vn,↓vo,↓vp,↓vq,↓vt,↓vv,↓vw,↓vx,↓vy,↓vz,↓v0,↓v3,↓v4,↓v5,↓v7,↓v8,↓v9,↓ua,↓ub,↓uc,↓ud,↓ue,↓uf,↓ug,↓uh,ui,uj,uk,ul,um,uo,uq,ur,ut,uu,uv,uw,ux,uy,uz,u2,u3,u5,u6,u7,u8,Option.bind_some,u9,tj,tm,tq,tv,tw,tz,t3,t8,t9,sf,true_and,beq_self_eq_true,Bool.false_eq_true,c0,c1,Int.cast_ofNat_Int,Int.reduceEq,Int.reduceLT,Int.reduceLE,Int.reduceAdd,Int.reduceSub,↓reduceIte]
      by_cases e1 : i = 1
      · subst e1
        try simp -dsimp only [↓za,↓zb,↓zc,↓zd,↓ze,↓zf,↓zg,zh,zi,List.map_cons,List.map_nil,List.length_cons,List.length_nil,List.replicate_succ,List.replicate_zero,List.cons_append,List.nil_append,Nat.reduceAdd,Nat.reduceSub,List.set_cons_zero,List.set_cons_succ,List.getElem?_cons_zero,List.getElem?_cons_succ,Bool.not_true,Bool.not_false,decide_true,decide_false,↓zj,↓zk,↓zl,↓zm,↓zn,↓zo,↓zp,↓zq,↓zr,↓zt,↓zu,↓zv,zj,zk,zl,zm,zn,zo,zp,zq,zr,zt,zu,zv,↓zw,↓zx,↓zy,↓zz,↓z9,↓ya,↓yb,↓yc,↓yd,↓ye,↓yf,↓yg,↓yh,↓yi,↓yj,↓yk,↓yl,↓ym,↓yn,↓yo,↓yp,↓eC,↓yq,↓eB,↓yr,↓yt,↓yu,↓yw,↓yx,↓yy,↓yz,↓y5,↓y6,↓y8,↓y9,↓xa,↓xb,↓xc,↓xg,↓xh,↓xi,↓xj,↓xk,↓xl,↓xm,↓xn,↓xo,↓xp,↓xq,↓xr,↓xt,↓xu,↓xy,↓xz,↓x5,↓x6,↓x7,↓x8,↓x9,↓wa,↓wb,↓wc,↓wd,↓we,↓wf,↓wg,↓wh,↓wj,↓wl,↓wm,↓wn,↓wo,↓wp,↓wq,↓wt,↓wu,wv,ww,wx,wy,wz,w3,w4,↓x9,↓wa,↓w6,↓x8,↓w7,↓w8,↓w9,va,vb,↓vc,↓vd,↓vf,↓vg,↓vh,↓vi,↓vj,↓vk,↓vm,↓vn,↓vo,↓vp,↓vq,↓vt,↓vv,↓vw,↓vx,↓vy,↓vz,↓v0,↓v3,↓v4,↓v5,↓v7,↓v8,↓v9,↓ua,↓ub,↓uc,↓ud,↓ue,↓uf,↓ug,↓uh,ui,uj,uk,ul,um,uo,uq,ur,ut,uu,uv,uw,ux,uy,uz,u2,u3,u5,u6,u7,u8,Option.bind_some,u9,tj,tm,tq,tv,tw,tz,t3,t8,t9,sf,true_and,beq_self_eq_true,Bool.false_eq_true,c0,c1,Int.cast_ofNat_Int,Int.reduceEq,Int.reduceLT,Int.reduceLE,Int.reduceAdd,Int.reduceSub,↓reduceIte, ix, set_last _ _ _ hpl]
        refine ⟨by decide, ?_⟩
        exact fin (-1, 1) _ ⟨⟨fun _ => rfl, by show -1 ≤ (-1 : Int); omega⟩, by show (-1 : Int) < c; omega, by show (1 : Int) ≤ 1; omega, by show (1 : Int) ≤ 3; omega⟩ (sq3.put npa) _ _
      · rw [decide_eq_false e1]
        try simp -dsimp only [↓za,↓zb,↓zc,↓zd,↓ze,↓zf,↓zg,zh,zi,List.map_cons,List.map_nil,List.length_cons,List.length_nil,List.replicate_succ,List.replicate_zero,List.cons_append,List.nil_append,Nat.reduceAdd,Nat.reduceSub,List.set_cons_zero,List.set_cons_succ,List.getElem?_cons_zero,List.getElem?_cons_succ,Bool.not_true,Bool.not_false,decide_true,decide_false,↓zj,↓zk,↓zl,↓zm,↓zn,↓zo,↓zp,↓zq,↓zr,↓zt,↓zu,↓zv,zj,zk,zl,zm,zn,zo,zp,zq,zr,zt,zu,zv,↓zw,↓zx,↓zy,↓zz,↓z9,↓ya,↓yb,↓yc,↓yd,↓ye,↓yf,↓yg,↓yh,↓yi,↓yj,↓yk,↓yl,↓ym,↓yn,↓yo,↓yp,↓eC,↓yq,↓eB,↓yr,↓yt,↓yu,↓yw,↓yx,↓yy,↓yz,↓y5,↓y6,↓y8,↓y9,↓xa,↓xb,↓xc,↓xg,↓xh,↓xi,↓xj,↓xk,↓xl,↓xm,↓xn,↓xo,↓xp,↓xq,↓xr,↓xt,↓xu,↓xy,↓xz,↓x5,↓x6,↓x7,↓x8,↓x9,↓wa,↓wb,↓wc,↓wd,↓we,↓wf,↓wg,↓wh,↓wj,↓wl,↓wm,↓wn,↓wo,↓wp,↓wq,↓wt,↓wu,wv,ww,wx,wy,wz,w3,w4,↓x9,↓wa,↓w6,↓x8,↓w7,↓w8,↓w9,va,vb,↓vc,↓vd,↓vf,↓vg,↓vh,↓vi,↓vj,↓vk,↓vm,↓vn,↓vo,↓vp,↓vq,↓vt,↓vv,↓vw,↓vx,↓vy,↓vz,↓v0,↓v3,↓v4,↓v5,↓v7,↓v8,↓v9,↓ua,↓ub,↓uc,↓ud,↓ue,↓uf,↓ug,↓uh,ui,uj,uk,ul,um,uo,uq,ur,ut,uu,uv,uw,ux,uy,uz,u2,u3,u5,u6,u7,u8,Option.bind_some,u9,tj,tm,tq,tv,tw,tz,t3,t8,t9,sf,true_and,beq_self_eq_true,Bool.false_eq_true,c0,c1,Int.cast_ofNat_Int,Int.reduceEq,Int.reduceLT,Int.reduceLE,Int.reduceAdd,Int.reduceSub,↓reduceIte]
        by_cases e2 : i = 2
        · subst e2
          try simp -dsimp only [↓za,↓zb,↓zc,↓zd,↓ze,↓zf,↓zg,zh,zi,List.map_cons,List.map_nil,List.length_cons,List.length_nil,List.replicate_succ,List.replicate_zero,List.cons_append,List.nil_append,Nat.reduceAdd,Nat.reduceSub,List.set_cons_zero,List.set_cons_succ,List.getElem?_cons_zero,List.getElem?_cons_succ,Bool.not_true,Bool.not_false,decide_true,decide_false,↓zj,↓zk,↓zl,↓zm,↓zn,↓zo,↓zp,↓zq,↓zr,↓zt,↓zu,↓zv,zj,zk,zl,zm,zn,zo,zp,zq,zr,zt,zu,zv,↓zw,↓zx,↓zy,↓zz,↓z9,↓ya,↓yb,↓yc,↓yd,↓ye,↓yf,↓yg,↓yh,↓yi,↓yj,↓yk,↓yl,↓ym,↓yn,↓yo,↓yp,↓eC,↓yq,↓eB,↓yr,↓yt,↓yu,↓yw,↓yx,↓yy,↓yz,↓y5,↓y6,↓y8,↓y9,↓xa,↓xb,↓xc,↓xg,↓xh,↓xi,↓xj,↓xk,↓xl,↓xm,↓xn,↓xo,↓xp,↓xq,↓xr,↓xt,↓xu,↓xy,↓xz,↓x5,↓x6,↓x7,↓x8,↓x9,↓wa,↓wb,↓wc,↓wd,↓we,↓wf,↓wg,↓wh,↓wj,↓wl,↓wm,↓wn,↓wo,↓wp,↓wq,↓wt,↓wu,wv,ww,wx,wy,wz,w3,w4,↓x9,↓wa,↓w6,↓x8,↓w7,↓w8,↓w9,va,vb,↓vc,↓vd,↓vf,↓vg,↓vh,↓vi,↓vj,↓vk,↓vm,↓vn,↓vo,↓vp,↓vq,↓vt,↓vv,↓vw,↓vx,↓vy,↓vz,↓v0,↓v3,↓v4,↓v5,↓v7,↓v8,↓v9,↓ua,↓ub,↓uc,↓ud,↓ue,↓uf,↓ug,↓uh,ui,uj,uk,ul,um,uo,uq,ur,ut,uu,uv,uw,ux,uy,uz,u2,u3,u5,u6,u7,u8,Option.bind_some,u9,tj,tm,tq,tv,tw,tz,t3,t8,t9,sf,true_and,beq_self_eq_true,Bool.false_eq_true,c0,c1,Int.cast_ofNat_Int,Int.reduceEq,Int.reduceLT,Int.reduceLE,Int.reduceAdd,Int.reduceSub,↓reduceIte]
          refine draw_call sq3.2.2 (by omega) (by omega) fun M4 u u0 u1 s4 => ?_
          have sq5 := sq3.draw npa s4
          try simp -dsimp only [↓za,↓zb,↓zc,↓zd,↓ze,↓zf,↓zg,zh,zi,List.map_cons,List.map_nil,List.length_cons,List.length_nil,List.replicate_succ,List.replicate_zero,List.cons_append,List.nil_append,Nat.reduceAdd,Nat.reduceSub,List.set_cons_zero,List.set_cons_succ,List.getElem?_cons_zero,List.getElem?_cons_succ,Bool.not_true,Bool.not_false,decide_true,decide_false,↓zj,↓zk,↓zl,↓zm,↓zn,↓zo,↓zp,↓zq,↓zr,↓zt,↓zu,↓zv,zj,zk,zl,zm,zn,zo,zp,zq,zr,zt,zu,zv,↓zw,↓zx,↓zy,↓zz,↓z9,↓ya,↓yb,↓yc,↓yd,↓ye,↓yf,↓yg,↓yh,↓yi,↓yj,↓yk,↓yl,↓ym,↓yn,↓yo,↓yp,↓eC,↓yq,↓eB,↓yr,↓yt,↓yu,↓yw,↓yx,↓yy,↓yz,↓y5,↓y6,↓y8,↓y9,↓xa,↓xb,↓xc,↓xg,↓xh,↓xi,↓xj,↓xk,↓xl,↓xm,↓xn,↓xo,↓xp,↓xq,↓xr,↓xt,↓xu,↓xy,↓xz,↓x5,↓x6,↓x7,↓x8,↓x9,↓wa,↓wb,↓wc,↓wd,↓we,↓wf,↓wg,↓wh,↓wj,↓wl,↓wm,↓wn,↓wo,↓wp,↓wq,↓wt,↓wu,wv,ww,wx,wy,wz,w3,w4,↓x9,↓wa,↓w6,↓x8,↓w7,↓w8,↓w9,va,vb,↓vc,↓vd,↓vf,↓vg,↓vh,↓vi,↓vj,↓vk,↓vm,↓vn,↓vo,↓vp,↓vq,↓vt,↓vv,↓vw,↓vx,↓vy,↓vz,↓v0,↓v3,↓v4,↓v5,↓v7,↓v8,↓v9,↓ua,↓ub,↓uc,↓ud,↓ue,↓uf,↓ug,↓uh,ui,uj,uk,ul,um,uo,uq,ur,ut,uu,uv,uw,ux,uy,uz,u2,u3,u5,u6,u7,u8,Option.bind_some,u9,tj,tm,tq,tv,tw,tz,t3,t8,t9,sf,true_and,beq_self_eq_true,Bool.false_eq_true,c0,c1,Int.cast_ofNat_Int,Int.reduceEq,Int.reduceLT,Int.reduceLE,Int.reduceAdd,Int.reduceSub,↓reduceIte, sq5.2.1, ix, set_last _ _ _ hpl]
          refine ⟨by decide, ?_⟩
          exact fin (0 + (k : Int), 2 + u) _ ⟨⟨fun h => by have : 0 + (k : Int) = -1 := h; omega, by show -1 ≤ 0 + (k : Int); omega⟩, by show 0 + (k : Int) < c; omega, by show 1 ≤ 2 + u; omega, by show 2 + u ≤ 3; omega⟩ (sq5.put npa) _ _
        · rw [decide_eq_false e2]
          try simp -dsimp only [↓za,↓zb,↓zc,↓zd,↓ze,↓zf,↓zg,zh,zi,List.map_cons,List.map_nil,List.length_cons,List.length_nil,List.replicate_succ,List.replicate_zero,List.cons_append,List.nil_append,Nat.reduceAdd,Nat.reduceSub,List.set_cons_zero,List.set_cons_succ,List.getElem?_cons_zero,List.getElem?_cons_succ,Bool.not_true,Bool.not_false,decide_true,decide_false,↓zj,↓zk,↓zl,↓zm,↓zn,↓zo,↓zp,↓zq,↓zr,↓zt,↓zu,↓zv,zj,zk,zl,zm,zn,zo,zp,zq,zr,zt,zu,zv,↓zw,↓zx,↓zy,↓zz,↓z9,↓ya,↓yb,↓yc,↓yd,↓ye,↓yf,↓yg,↓yh,↓yi,↓yj,↓yk,↓yl,↓ym,↓yn,↓yo,↓yp,↓eC,↓yq,↓eB,↓yr,↓yt,↓yu,↓yw,↓yx,↓yy,↓yz,↓y5,↓y6,↓y8,↓y9,↓xa,↓xb,↓xc,↓xg,↓xh,↓xi,↓xj,↓xk,↓xl,↓xm,↓xn,↓xo,↓xp,↓xq,↓xr,↓xt,↓xu,↓xy,↓xz,↓x5,↓x6,↓x7,↓x8,↓x9,↓wa,↓wb,↓wc,↓wd,↓we,↓wf,↓wg,↓wh,↓wj,↓wl,↓wm,↓wn,↓wo,↓wp,↓wq,↓wt,↓wu,wv,ww,wx,wy,wz,w3,w4,↓x9,↓wa,↓w6,↓x8,↓w7,↓w8,↓w9,va,vb,↓vc,↓vd,↓vf,↓vg,↓vh,↓vi,↓vj,↓vk,↓vm,↓vn,↓vo,↓vp,↓vq,↓vt,↓vv,↓vw,↓vx,↓vy,↓vz,↓v0,↓v3,↓v4,↓v5,↓v7,↓v8,↓v9,↓ua,↓ub,↓uc,↓ud,↓ue,↓uf,↓ug,↓uh,ui,uj,uk,ul,um,uo,uq,ur,ut,uu,uv,uw,ux,uy,uz,u2,u3,u5,u6,u7,u8,Option.bind_some,u9,tj,tm,tq,tv,tw,tz,t3,t8,t9,sf,true_and,beq_self_eq_true,Bool.false_eq_true,c0,c1,Int.cast_ofNat_Int,Int.reduceEq,Int.reduceLT,Int.reduceLE,Int.reduceAdd,Int.reduceSub,↓reduceIte]
          exact fin (0 + (k : Int), 1) _ ⟨⟨fun _ => rfl, by show -1 ≤ 0 + (k : Int); omega⟩, by show 0 + (k : Int) < c; omega, by show (1 : Int) ≤ 1; omega, by show (1 : Int) ≤ 3; omega⟩ sq3 _ _
  · rintro ρ M2 ⟨ps, hl1, hps, ⟨o8, o9, rfl⟩, sq⟩
    have s2 := s1.trans (sq.del npa hp1)
    try simp -dsimp only [↓za,↓zb,↓zc,↓zd,↓ze,↓zf,↓zg,zh,zi,List.map_cons,List.map_nil,List.length_cons,List.length_nil,List.replicate_succ,List.replicate_zero,List.cons_append,List.nil_append,Nat.reduceAdd,Nat.reduceSub,List.set_cons_zero,List.set_cons_succ,List.getElem?_cons_zero,List.getElem?_cons_succ,Bool.not_true,Bool.not_false,decide_true,decide_false,↓zj,↓zk,↓zl,↓zm,↓zn,↓zo,↓zp,↓zq,↓zr,↓zt,↓zu,↓zv,zj,zk,zl,zm,zn,zo,zp,zq,zr,zt,zu,zv,↓zw,↓zx,↓zy,↓zz,↓z9,↓ya,↓yb,↓yc,↓yd,↓ye,↓yf,↓yg,↓yh,↓yi,↓yj,↓yk,↓yl,↓ym,↓yn,↓yo,↓yp,↓eC,↓yq,↓eB,↓yr,↓yt,↓yu,↓yw,↓yx,↓yy,↓yz,↓y5,↓y6,↓y8,↓y9,↓xa,↓xb,↓xc,↓xg,↓xh,↓xi,↓xj,↓xk,↓xl,↓xm,↓xn,↓xo,↓xp,↓xq,↓xr,↓xt,↓xu,↓xy,↓xz,↓x5,↓x6,↓x7,↓x8,↓x9,↓wa,↓wb,↓wc,↓wd,↓we,↓wf,↓wg,↓wh,↓wj,↓wl,↓wm,↓wn,↓wo,↓wp,↓wq,↓wt,↓wu,wv,ww,wx,wy,wz,w3,w4,↓x9,↓wa,↓w6,↓x8,↓w7,↓w8,↓w9,va,vb,↓vc,↓vd,↓vf,↓vg,↓vh,↓vi,↓vj,↓vk,↓vm,↓vn,↓vo,↓vp,↓vq,↓vt,↓vv,↓vw,↓vx,↓vy,↓vz,↓v0,↓v3,↓v4,↓v5,↓v7,↓v8,↓v9,↓ua,↓ub,↓uc,↓ud,↓ue,↓uf,↓ug,↓uh,ui,uj,uk,ul,um,uo,uq,ur,ut,uu,uv,uw,ux,uy,uz,u2,u3,u5,u6,u7,u8,Option.bind_some,u9,tj,tm,tq,tv,tw,tz,t3,t8,t9,sf,true_and,beq_self_eq_true,Bool.false_eq_true,c0,c1,Int.cast_ofNat_Int,Int.reduceEq,Int.reduceLT,Int.reduceLE,Int.reduceAdd,Int.reduceSub,↓reduceIte, sq.2.1]
    refine ⟨by omega, lc_gen (fun y => ∃ x : Int, y = .int x ∧ (0 ≤ x ∧ x ≤ 2)) s2.2 (by rw [rngD_length]; omega) (fun d M' k _ hs hk => ?_) fun ys M3 hlg hy s3 => ?_⟩
    · try simp -dsimp only [↓za,↓zb,↓zc,↓zd,↓ze,↓zf,↓zg,zh,zi,List.map_cons,List.map_nil,List.length_cons,List.length_nil,List.replicate_succ,List.replicate_zero,List.cons_append,List.nil_append,Nat.reduceAdd,Nat.reduceSub,List.set_cons_zero,List.set_cons_succ,List.getElem?_cons_zero,List.getElem?_cons_succ,Bool.not_true,Bool.not_false,decide_true,decide_false,↓zj,↓zk,↓zl,↓zm,↓zn,↓zo,↓zp,↓zq,↓zr,↓zt,↓zu,↓zv,zj,zk,zl,zm,zn,zo,zp,zq,zr,zt,zu,zv,↓zw,↓zx,↓zy,↓zz,↓z9,↓ya,↓yb,↓yc,↓yd,↓ye,↓yf,↓yg,↓yh,↓yi,↓yj,↓yk,↓yl,↓ym,↓yn,↓yo,↓yp,↓eC,↓yq,↓eB,↓yr,↓yt,↓yu,↓yw,↓yx,↓yy,↓yz,↓y5,↓y6,↓y8,↓y9,↓xa,↓xb,↓xc,↓xg,↓xh,↓xi,↓xj,↓xk,↓xl,↓xm,↓xn,↓xo,↓xp,↓xq,↓xr,↓xt,↓xu,↓xy,↓xz,↓x5,↓x6,↓x7,↓x8,↓x9,↓wa,↓wb,↓wc,↓wd,↓we,↓wf,↓wg,↓wh,↓wj,↓wl,↓wm,↓wn,↓wo,↓wp,↓wq,↓wt,↓wu,wv,ww,wx,wy,wz,w3,w4,↓x9,↓wa,↓w6,↓x8,↓w7,↓w8,↓w9,va,vb,↓vc,↓vd,↓vf,↓vg,↓vh,↓vi,↓vj,↓vk,↓vm,↓vn,↓vo,↓vp,↓vq,↓vt,↓vv,↓vw,↓vx,↓vy,↓vz,↓v0,↓v3,↓v4,↓v5,↓v7,↓v8,↓v9,↓ua,↓ub,↓uc,↓ud,↓ue,↓uf,↓ug,↓uh,ui,uj,uk,ul,um,uo,uq,ur,ut,uu,uv,uw,ux,uy,uz,u2,u3,u5,u6,u7,u8,Option.bind_some,u9,tj,tm,tq,tv,tw,tz,t3,t8,t9,sf,true_and,beq_self_eq_true,Bool.false_eq_true,c0,c1,Int.cast_ofNat_Int,Int.reduceEq,Int.reduceLT,Int.reduceLE,Int.reduceAdd,Int.reduceSub,↓reduceIte]
      refine ⟨by decide, draw_call hs.2 (by omega) (by omega) fun M2 j j0 j1 s2 => ?_⟩
      obtain ⟨x, ex, hx⟩ := pick4 j0 j1
      try simp -dsimp only [↓za,↓zb,↓zc,↓zd,↓ze,↓zf,↓zg,zh,zi,List.map_cons,List.map_nil,List.length_cons,List.length_nil,List.replicate_succ,List.replicate_zero,List.cons_append,List.nil_append,Nat.reduceAdd,Nat.reduceSub,List.set_cons_zero,List.set_cons_succ,List.getElem?_cons_zero,List.getElem?_cons_succ,Bool.not_true,Bool.not_false,decide_true,decide_false,↓zj,↓zk,↓zl,↓zm,↓zn,↓zo,↓zp,↓zq,↓zr,↓zt,↓zu,↓zv,zj,zk,zl,zm,zn,zo,zp,zq,zr,zt,zu,zv,↓zw,↓zx,↓zy,↓zz,↓z9,↓ya,↓yb,↓yc,↓yd,↓ye,↓yf,↓yg,↓yh,↓yi,↓yj,↓yk,↓yl,↓ym,↓yn,↓yo,↓yp,↓eC,↓yq,↓eB,↓yr,↓yt,↓yu,↓yw,↓yx,↓yy,↓yz,↓y5,↓y6,↓y8,↓y9,↓xa,↓xb,↓xc,↓xg,↓xh,↓xi,↓xj,↓xk,↓xl,↓xm,↓xn,↓xo,↓xp,↓xq,↓xr,↓xt,↓xu,↓xy,↓xz,↓x5,↓x6,↓x7,↓x8,↓x9,↓wa,↓wb,↓wc,↓wd,↓we,↓wf,↓wg,↓wh,↓wj,↓wl,↓wm,↓wn,↓wo,↓wp,↓wq,↓wt,↓wu,wv,ww,wx,wy,wz,w3,w4,↓x9,↓wa,↓w6,↓x8,↓w7,↓w8,↓w9,va,vb,↓vc,↓vd,↓vf,↓vg,↓vh,↓vi,↓vj,↓vk,↓vm,↓vn,↓vo,↓vp,↓vq,↓vt,↓vv,↓vw,↓vx,↓vy,↓vz,↓v0,↓v3,↓v4,↓v5,↓v7,↓v8,↓v9,↓ua,↓ub,↓uc,↓ud,↓ue,↓uf,↓ug,↓uh,ui,uj,uk,ul,um,uo,uq,ur,ut,uu,uv,uw,ux,uy,uz,u2,u3,u5,u6,u7,u8,Option.bind_some,u9,tj,tm,tq,tv,tw,tz,t3,t8,t9,sf,true_and,beq_self_eq_true,Bool.false_eq_true,c0,c1,Int.cast_ofNat_Int,Int.reduceEq,Int.reduceLT,Int.reduceLE,Int.reduceAdd,Int.reduceSub,↓reduceIte, ex]
      exact hk _ _ ⟨x, rfl, hx⟩ (hs.trans s2)
    obtain ⟨g, rfl, hg⟩ := enc_of ys hy
    rw [rngD_length, List.length_map] at hlg
    try simp -dsimp only [↓za,↓zb,↓zc,↓zd,↓ze,↓zf,↓zg,zh,zi,List.map_cons,List.map_nil,List.length_cons,List.length_nil,List.replicate_succ,List.replicate_zero,List.cons_append,List.nil_append,Nat.reduceAdd,Nat.reduceSub,List.set_cons_zero,List.set_cons_succ,List.getElem?_cons_zero,List.getElem?_cons_succ,Bool.not_true,Bool.not_false,decide_true,decide_false,↓zj,↓zk,↓zl,↓zm,↓zn,↓zo,↓zp,↓zq,↓zr,↓zt,↓zu,↓zv,zj,zk,zl,zm,zn,zo,zp,zq,zr,zt,zu,zv,↓zw,↓zx,↓zy,↓zz,↓z9,↓ya,↓yb,↓yc,↓yd,↓ye,↓yf,↓yg,↓yh,↓yi,↓yj,↓yk,↓yl,↓ym,↓yn,↓yo,↓yp,↓eC,↓yq,↓eB,↓yr,↓yt,↓yu,↓yw,↓yx,↓yy,↓yz,↓y5,↓y6,↓y8,↓y9,↓xa,↓xb,↓xc,↓xg,↓xh,↓xi,↓xj,↓xk,↓xl,↓xm,↓xn,↓xo,↓xp,↓xq,↓xr,↓xt,↓xu,↓xy,↓xz,↓x5,↓x6,↓x7,↓x8,↓x9,↓wa,↓wb,↓wc,↓wd,↓we,↓wf,↓wg,↓wh,↓wj,↓wl,↓wm,↓wn,↓wo,↓wp,↓wq,↓wt,↓wu,wv,ww,wx,wy,wz,w3,w4,↓x9,↓wa,↓w6,↓x8,↓w7,↓w8,↓w9,va,vb,↓vc,↓vd,↓vf,↓vg,↓vh,↓vi,↓vj,↓vk,↓vm,↓vn,↓vo,↓vp,↓vq,↓vt,↓vv,↓vw,↓vx,↓vy,↓vz,↓v0,↓v3,↓v4,↓v5,↓v7,↓v8,↓v9,↓ua,↓ub,↓uc,↓ud,↓ue,↓uf,↓ug,↓uh,ui,uj,uk,ul,um,uo,uq,ur,ut,uu,uv,uw,ux,uy,uz,u2,u3,u5,u6,u7,u8,Option.bind_some,u9,tj,tm,tq,tv,tw,tz,t3,t8,t9,sf,true_and,beq_self_eq_true,Bool.false_eq_true,c0,c1,Int.cast_ofNat_Int,Int.reduceEq,Int.reduceLT,Int.reduceLE,Int.reduceAdd,Int.reduceSub,↓reduceIte]
    refine ⟨by omega, fun p2 hp2 hp3 => ?_⟩
    have npa2 : p2 ≠ a := s3.2.ne hp3
    refine ⟨by omega, forS_rng (fun k ρ M' => ∃ cs : List Act, cs.length = k ∧ (∀ x ∈ cs, okAct l x) ∧ (∃ o8 o12, ρ = [some (.loc a), some (.tup [.int m, .int c, .int q, .int l]), some (.int m), some (.int c), some (.int q), some (.int l), some (.tup (n.map .int)), some (.lst (ps.map pourD)), o8, o9, some (.tup (g.map .int)), some (.loc p2), o12]) ∧ Stq a p2 M3 M' (cs.map actD)) ⟨[], rfl, fun _ h => (nomatch h), ⟨_, _, rfl⟩, Stq.start s3.2 npa2⟩ ?_ ?_⟩
    · rintro k ρ M' hk ⟨cs, hl2, hcs, ⟨o8, o12, rfl⟩, sq⟩ nn cc hn1 hc1
      have hpl : (cs.map actD).length = k := by rw [List.length_map]; exact hl2
      have fin : ∀ (x : Act) M', okAct l x → Stq a p2 M3 M' (cs.map actD ++ [actD x]) → ∀ o8 o12, nn [some (.loc a), some (.tup [.int m, .int c, .int q, .int l]), some (.int m), some (.int c), some (.int q), some (.int l), some (.tup (n.map .int)), some (.lst (ps.map pourD)), o8, o9, some (.tup (g.map .int)), some (.loc p2), o12] M' := fun x M' hx h o8 o12 =>
        hn1 _ _ ⟨cs ++ [x], by rw [List.length_append, hl2]; rfl, fun y hy => by
          rcases List.mem_append.mp hy with hy | hy
          · exact hcs y hy
          · rw [List.mem_singleton.mp hy]; exact hx, ⟨_, _, rfl⟩, by rw [List.map_append]; exact h⟩
      try simp -dsimp only [↓za,↓zb,↓zc,↓zd,↓ze,↓zf,↓zg,zh,zi,List.map_cons,List.map_nil,List.length_cons,List.length_nil,List.replicate_succ,List.replicate_zero,List.cons_append,List.nil_append,Nat.reduceAdd,Nat.reduceSub,List.set_cons_zero,List.set_cons_succ,List.getElem?_cons_zero,List.getElem?_cons_succ,Bool.not_true,Bool.not_false,decide_true,decide_false,↓zj,↓zk,↓zl,↓zm,↓zn,↓zo,↓zp,↓zq,↓zr,↓zt,↓zu,↓zv,zj,zk,zl,zm,zn,zo,zp,zq,zr,zt,zu,zv,↓zw,↓zx,↓zy,↓zz,↓z9,↓ya,↓yb,↓yc,↓yd,↓ye,↓yf,↓yg,↓yh,↓yi,↓yj,↓yk,↓yl,↓ym,↓yn,↓yo,↓yp,↓eC,↓yq,↓eB,↓yr,↓yt,↓yu,↓yw,↓yx,↓yy,↓yz,↓y5,↓y6,↓y8,↓y9,↓xa,↓xb,↓xc,↓xg,↓xh,↓xi,↓xj,↓xk,↓xl,↓xm,↓xn,↓xo,↓xp,↓xq,↓xr,↓xt,↓xu,↓xy,↓xz,↓x5,↓x6,↓x7,↓x8,↓x9,↓wa,↓wb,↓wc,↓wd,↓we,↓wf,↓wg,↓wh,↓wj,↓wl,↓wm,↓wn,↓wo,↓wp,↓wq,↓wt,↓wu,wv,ww,wx,wy,wz,w3,w4,↓x9,↓wa,↓w6,↓x8,↓w7,↓w8,↓w9,va,vb,↓vc,↓vd,↓vf,↓vg,↓vh,↓vi,↓vj,↓vk,↓vm,↓vn,↓vo,↓vp,↓vq,↓vt,↓vv,↓vw,↓vx,↓vy,↓vz,↓v0,↓v3,↓v4,↓v5,↓v7,↓v8,↓v9,↓ua,↓ub,↓uc,↓ud,↓ue,↓uf,↓ug,↓uh,ui,uj,uk,ul,um,uo,uq,ur,ut,uu,uv,uw,ux,uy,uz,u2,u3,u5,u6,u7,u8,Option.bind_some,u9,tj,tm,tq,tv,tw,tz,t3,t8,t9,sf,true_and,beq_self_eq_true,Bool.false_eq_true,c0,c1,Int.cast_ofNat_Int,Int.reduceEq,Int.reduceLT,Int.reduceLE,Int.reduceAdd,Int.reduceSub,↓reduceIte]
      refine ⟨by decide, draw_call sq.2.2 (by omega) (by omega) fun M4 i i0 i1 s4 => ?_⟩
      have sq2 := sq.draw npa2 s4
      obtain ⟨nm, en, hnm⟩ := pick2 i0 i1
      try simp -dsimp only [↓za,↓zb,↓zc,↓zd,↓ze,↓zf,↓zg,zh,zi,List.map_cons,List.map_nil,List.length_cons,List.length_nil,List.replicate_succ,List.replicate_zero,List.cons_append,List.nil_append,Nat.reduceAdd,Nat.reduceSub,List.set_cons_zero,List.set_cons_succ,List.getElem?_cons_zero,List.getElem?_cons_succ,Bool.not_true,Bool.not_false,decide_true,decide_false,↓zj,↓zk,↓zl,↓zm,↓zn,↓zo,↓zp,↓zq,↓zr,↓zt,↓zu,↓zv,zj,zk,zl,zm,zn,zo,zp,zq,zr,zt,zu,zv,↓zw,↓zx,↓zy,↓zz,↓z9,↓ya,↓yb,↓yc,↓yd,↓ye,↓yf,↓yg,↓yh,↓yi,↓yj,↓yk,↓yl,↓ym,↓yn,↓yo,↓yp,↓eC,↓yq,↓eB,↓yr,↓yt,↓yu,↓yw,↓yx,↓yy,↓yz,↓y5,↓y6,↓y8,↓y9,↓xa,↓xb,↓xc,↓xg,↓xh,↓xi,↓xj,↓xk,↓xl,↓xm,↓xn,↓xo,↓xp,↓xq,↓xr,↓xt,↓xu,↓xy,↓xz,↓x5,↓x6,↓x7,↓x8,↓x9,↓wa,↓wb,↓wc,↓wd,↓we,↓wf,↓wg,↓wh,↓wj,↓wl,↓wm,↓wn,↓wo,↓wp,↓wq,↓wt,↓wu,wv,ww,wx,wy,wz,w3,w4,↓x9,↓wa,↓w6,↓x8,↓w7,↓w8,↓w9,va,vb,↓vc,↓vd,↓vf,↓vg,↓vh,↓vi,↓vj,↓vk,↓vm,↓vn,↓vo,↓vp,↓vq,↓vt,↓vv,↓vw,↓vx,↓vy,↓vz,↓v0,↓v3,↓v4,↓v5,↓v7,↓v8,↓v9,↓ua,↓ub,↓uc,↓ud,↓ue,↓uf,↓ug,↓uh,ui,uj,uk,ul,um,uo,uq,ur,ut,uu,uv,uw,ux,uy,uz,u2,u3,u5,u6,u7,u8,Option.bind_some,u9,tj,tm,tq,tv,tw,tz,t3,t8,t9,sf,true_and,beq_self_eq_true,Bool.false_eq_true,c0,c1,Int.cast_ofNat_Int,Int.reduceEq,Int.reduceLT,Int.reduceLE,Int.reduceAdd,Int.reduceSub,↓reduceIte, en]
      by_cases e0 : l = 0
      · rw [decide_eq_true e0]
        try simp -dsimp only [↓za,↓zb,↓zc,↓zd,↓ze,↓zf,↓zg,zh,zi,List.map_cons,List.map_nil,List.length_cons,List.length_nil,List.replicate_succ,List.replicate_zero,List.cons_append,List.nil_append,Nat.reduceAdd,Nat.reduceSub,List.set_cons_zero,List.set_cons_succ,List.getElem?_cons_zero,List.getElem?_cons_succ,Bool.not_true,Bool.not_false,decide_true,decide_false,↓zj,↓zk,↓zl,↓zm,↓zn,↓zo,↓zp,↓zq,↓zr,↓zt,↓zu,↓zv,zj,zk,zl,zm,zn,zo,zp,zq,zr,zt,zu,zv,↓zw,↓zx,↓zy,↓zz,↓z9,↓ya,↓yb,↓yc,↓yd,↓ye,↓yf,↓yg,↓yh,↓yi,↓yj,↓yk,↓yl,↓ym,↓yn,↓yo,↓yp,↓eC,↓yq,↓eB,↓yr,↓yt,↓yu,↓yw,↓yx,↓yy,↓yz,↓y5,↓y6,↓y8,↓y9,↓xa,↓xb,↓xc,↓xg,↓xh,↓xi,↓xj,↓xk,↓xl,↓xm,↓xn,↓xo,↓xp,↓xq,↓xr,↓xt,↓xu,↓xy,↓xz,↓x5,↓x6,↓x7,↓x8,↓x9,↓wa,↓wb,↓wc,↓wd,↓we,↓wf,↓wg,↓wh,↓wj,↓wl,↓wm,↓wn,↓wo,↓wp,↓wq,↓wt,↓wu,wv,ww,wx,wy,wz,w3,w4,↓x9,↓wa,↓w6,↓x8,↓w7,↓w8,↓w9,va,vb,↓vc,↓vd,↓vf,↓vg,↓vh,↓vi,↓vj,↓vk,↓vm,↓vn,↓vo,↓vp,↓vq,↓vt,↓vv,↓vw,↓vx,↓vy,↓vz,↓v0,↓v3,↓v4,↓v5,↓v7,↓v8,↓v9,↓ua,↓ub,↓uc,↓ud,↓ue,↓uf,↓ug,↓uh,ui,uj,uk,ul,um,uo,uq,ur,ut,uu,uv,uw,ux,uy,uz,u2,u3,u5,u6,u7,u8,Option.bind_some,u9,tj,tm,tq,tv,tw,tz,t3,t8,t9,sf,true_and,beq_self_eq_true,Bool.false_eq_true,c0,c1,Int.cast_ofNat_Int,Int.reduceEq,Int.reduceLT,Int.reduceLE,Int.reduceAdd,Int.reduceSub,↓reduceIte, sq2.2.1]
        exact ⟨by decide, by omega, fin none _ trivial (sq2.put npa2) _ _⟩
      · rw [decide_eq_false e0]
        try simp -dsimp only [↓za,↓zb,↓zc,↓zd,↓ze,↓zf,↓zg,zh,zi,List.map_cons,List.map_nil,List.length_cons,List.length_nil,List.replicate_succ,List.replicate_zero,List.cons_append,List.nil_append,Nat.reduceAdd,Nat.reduceSub,List.set_cons_zero,List.set_cons_succ,List.getElem?_cons_zero,List.getElem?_cons_succ,Bool.not_true,Bool.not_false,decide_true,decide_false,↓zj,↓zk,↓zl,↓zm,↓zn,↓zo,↓zp,↓zq,↓zr,↓zt,↓zu,↓zv,zj,zk,zl,zm,zn,zo,zp,zq,zr,zt,zu,zv,↓zw,↓zx,↓zy,↓zz,↓z9,↓ya,↓yb,↓yc,↓yd,↓ye,↓yf,↓yg,↓yh,↓yi,↓yj,↓yk,↓yl,↓ym,↓yn,↓yo,↓yp,↓eC,↓yq,↓eB,↓yr,↓yt,↓yu,↓yw,↓yx,↓yy,↓yz,↓y5,↓y6,↓y8,↓y9,↓xa,↓xb,↓xc,↓xg,↓xh,↓xi,↓xj,↓xk,↓xl,↓xm,↓xn,↓xo,↓xp,↓xq,↓xr,↓xt,↓xu,↓xy,↓xz,↓x5,↓x6,↓x7,↓x8,↓x9,↓wa,↓wb,↓wc,↓wd,↓we,↓wf,↓wg,↓wh,↓wj,↓wl,↓wm,↓wn,↓wo,↓wp,↓wq,↓wt,↓wu,wv,ww,wx,wy,wz,w3,w4,↓x9,↓wa,↓w6,↓x8,↓w7,↓w8,↓w9,va,vb,↓vc,↓vd,↓vf,↓vg,↓vh,↓vi,↓vj,↓vk,↓vm,↓vn,↓vo,↓vp,↓vq,↓vt,↓vv,↓vw,↓vx,↓vy,↓vz,↓v0,↓v3,↓v4,↓v5,↓v7,↓v8,↓v9,↓ua,↓ub,↓uc,↓ud,↓ue,↓uf,↓ug,↓uh,ui,uj,uk,ul,um,uo,uq,ur,ut,uu,uv,uw,ux,uy,uz,u2,u3,u5,u6,u7,u8,Option.bind_some,u9,tj,tm,tq,tv,tw,tz,t3,t8,t9,sf,true_and,beq_self_eq_true,Bool.false_eq_true,c0,c1,Int.cast_ofNat_Int,Int.reduceEq,Int.reduceLT,Int.reduceLE,Int.reduceAdd,Int.reduceSub,↓reduceIte]
        refine draw_call sq2.2.2 (by omega) (by omega) fun M5 j j0 j1 s5 => ?_
        have sq3 := sq2.draw npa2 s5
        try simp -dsimp only [↓za,↓zb,↓zc,↓zd,↓ze,↓zf,↓zg,zh,zi,List.map_cons,List.map_nil,List.length_cons,List.length_nil,List.replicate_succ,List.replicate_zero,List.cons_append,List.nil_append,Nat.reduceAdd,Nat.reduceSub,List.set_cons_zero,List.set_cons_succ,List.getElem?_cons_zero,List.getElem?_cons_succ,Bool.not_true,Bool.not_false,decide_true,decide_false,↓zj,↓zk,↓zl,↓zm,↓zn,↓zo,↓zp,↓zq,↓zr,↓zt,↓zu,↓zv,zj,zk,zl,zm,zn,zo,zp,zq,zr,zt,zu,zv,↓zw,↓zx,↓zy,↓zz,↓z9,↓ya,↓yb,↓yc,↓yd,↓ye,↓yf,↓yg,↓yh,↓yi,↓yj,↓yk,↓yl,↓ym,↓yn,↓yo,↓yp,↓eC,↓yq,↓eB,↓yr,↓yt,↓yu,↓yw,↓yx,↓yy,↓yz,↓y5,↓y6,↓y8,↓y9,↓xa,↓xb,↓xc,↓xg,↓xh,↓xi,↓xj,↓xk,↓xl,↓xm,↓xn,↓xo,↓xp,↓xq,↓xr,↓xt,↓xu,↓xy,↓xz,↓x5,↓x6,↓x7,↓x8,↓x9,↓wa,↓wb,↓wc,↓wd,↓we,↓wf,↓wg,↓wh,↓wj,↓wl,↓wm,↓wn,↓wo,↓wp,↓wq,↓wt,↓wu,wv,ww,wx,wy,wz,w3,w4,↓x9,↓wa,↓w6,↓x8,↓w7,↓w8,↓w9,va,vb,↓vc,↓vd,↓vf,↓vg,↓vh,↓vi,↓vj,↓vk,↓vm,↓vn,↓vo,↓vp,↓vq,↓vt,↓vv,↓vw,↓vx,↓vy,↓vz,↓v0,↓v3,↓v4,↓v5,↓v7,↓v8,↓v9,↓ua,↓ub,↓uc,↓ud,↓ue,↓uf,↓ug,↓uh,ui,uj,uk,ul,um,uo,uq,ur,ut,uu,uv,uw,ux,uy,uz,u2,u3,u5,u6,u7,u8,Option.bind_some,u9,tj,tm,tq,tv,tw,tz,t3,t8,t9,sf,true_and,beq_self_eq_true,Bool.false_eq_true,c0,c1,Int.cast_ofNat_Int,Int.reduceEq,Int.reduceLT,Int.reduceLE,Int.reduceAdd,Int.reduceSub,↓reduceIte]
        by_cases e1 : j = 0
        · rw [decide_eq_true e1]
          try simp -dsimp only [↓za,↓zb,↓zc,↓zd,↓ze,↓zf,↓zg,zh,zi,List.map_cons,List.map_nil,List.length_cons,List.length_nil,List.replicate_succ,List.replicate_zero,List.cons_append,List.nil_append,Nat.reduceAdd,Nat.reduceSub,List.set_cons_zero,List.set_cons_succ,List.getElem?_cons_zero,List.getElem?_cons_succ,Bool.not_true,Bool.not_false,decide_true,decide_false,↓zj,↓zk,↓zl,↓zm,↓zn,↓zo,↓zp,↓zq,↓zr,↓zt,↓zu,↓zv,zj,zk,zl,zm,zn,zo,zp,zq,zr,zt,zu,zv,↓zw,↓zx,↓zy,↓zz,↓z9,↓ya,↓yb,↓yc,↓yd,↓ye,↓yf,↓yg,↓yh,↓yi,↓yj,↓yk,↓yl,↓ym,↓yn,↓yo,↓yp,↓eC,↓yq,↓eB,↓yr,↓yt,↓yu,↓yw,↓yx,↓yy,↓yz,↓y5,↓y6,↓y8,↓y9,↓xa,↓xb,↓xc,↓xg,↓xh,↓xi,↓xj,↓xk,↓xl,↓xm,↓xn,↓xo,↓xp,↓xq,↓xr,↓xt,↓xu,↓xy,↓xz,↓x5,↓x6,↓x7,↓x8,↓x9,↓wa,↓wb,↓wc,↓wd,↓we,↓wf,↓wg,↓wh,↓wj,↓wl,↓wm,↓wn,↓wo,↓wp,↓wq,↓wt,↓wu,wv,ww,wx,wy,wz,w3,w4,↓x9,↓wa,↓w6,↓x8,↓w7,↓w8,↓w9,va,vb,↓vc,↓vd,↓vf,↓vg,↓vh,↓vi,↓vj,↓vk,↓vm,↓vn,↓vo,↓vp,↓vq,↓vt,↓vv,↓vw,↓vx,↓vy,↓vz,↓v0,↓v3,↓v4,↓v5,↓v7,↓v8,↓v9,↓ua,↓ub,↓uc,↓ud,↓ue,↓uf,↓ug,↓uh,ui,uj,uk,ul,um,uo,uq,ur,ut,uu,uv,uw,ux,uy,uz,u2,u3,u5,u6,u7,u8,Option.bind_some,u9,tj,tm,tq,tv,tw,tz,t3,t8,t9,sf,true_and,beq_self_eq_true,Bool.false_eq_true,c0,c1,Int.cast_ofNat_Int,Int.reduceEq,Int.reduceLT,Int.reduceLE,Int.reduceAdd,Int.reduceSub,↓reduceIte, sq3.2.1]
          exact ⟨by decide, by omega, fin none _ trivial (sq3.put npa2) _ _⟩
        · rw [decide_eq_false e1]
          try simp -dsimp only [↓za,↓zb,↓zc,↓zd,↓ze,↓zf,↓zg,zh,zi,List.map_cons,List.map_nil,List.length_cons,List.length_nil,List.replicate_succ,List.replicate_zero,List.cons_append,List.nil_append,Nat.reduceAdd,Nat.reduceSub,List.set_cons_zero,List.set_cons_succ,List.getElem?_cons_zero,List.getElem?_cons_succ,Bool.not_true,Bool.not_false,decide_true,decide_false,↓zj,↓zk,↓zl,↓zm,↓zn,↓zo,↓zp,↓zq,↓zr,↓zt,↓zu,↓zv,zj,zk,zl,zm,zn,zo,zp,zq,zr,zt,zu,zv,↓zw,↓zx,↓zy,↓zz,↓z9,↓ya,↓yb,↓yc,↓yd,↓ye,↓yf,↓yg,↓yh,↓yi,↓yj,↓yk,↓yl,↓ym,↓yn,↓yo,↓yp,↓eC,↓yq,↓eB,↓yr,↓yt,↓yu,↓yw,↓yx,↓yy,↓yz,↓y5,↓y6,↓y8,↓y9,↓xa,↓xb,↓xc,↓xg,↓xh,↓xi,↓xj,↓xk,↓xl,↓xm,↓xn,↓xo,↓xp,↓xq,↓xr,↓xt,↓xu,↓xy,↓xz,↓x5,↓x6,↓x7,↓x8,↓x9,↓wa,↓wb,↓wc,↓wd,↓we,↓wf,↓wg,↓wh,↓wj,↓wl,↓wm,↓wn,↓wo,↓wp,↓wq,↓wt,↓wu,wv,ww,wx,wy,wz,w3,w4,↓x9,↓wa,↓w6,↓x8,↓w7,↓w8,↓w9,va,vb,↓vc,↓vd,↓vf,↓vg,↓vh,↓vi,↓vj,↓vk,↓vm,↓vn,↓vo,↓vp,↓vq,↓vt,↓vv,↓vw,↓vx,↓vy,↓vz,↓v0,↓v3,↓v4,↓v5,↓v7,↓v8,↓v9,↓ua,↓ub,↓uc,↓ud,↓ue,↓uf,↓ug,↓uh,ui,uj,uk,ul,um,uo,uq,ur,ut,uu,uv,uw,ux,uy,uz,u2,u3,u5,u6,u7,u8,Option.bind_some,u9,tj,tm,tq,tv,tw,tz,t3,t8,t9,sf,true_and,beq_self_eq_true,Bool.false_eq_true,c0,c1,Int.cast_ofNat_Int,Int.reduceEq,Int.reduceLT,Int.reduceLE,Int.reduceAdd,Int.reduceSub,↓reduceIte, sq3.2.1]
          refine draw_call sq3.2.2 (by omega) (by omega) fun M6 u u0 u1 s6 => ?_
          have sq4 := sq3.draw npa2 s6
          try simp -dsimp only [↓za,↓zb,↓zc,↓zd,↓ze,↓zf,↓zg,zh,zi,List.map_cons,List.map_nil,List.length_cons,List.length_nil,List.replicate_succ,List.replicate_zero,List.cons_append,List.nil_append,Nat.reduceAdd,Nat.reduceSub,List.set_cons_zero,List.set_cons_succ,List.getElem?_cons_zero,List.getElem?_cons_succ,Bool.not_true,Bool.not_false,decide_true,decide_false,↓zj,↓zk,↓zl,↓zm,↓zn,↓zo,↓zp,↓zq,↓zr,↓zt,↓zu,↓zv,zj,zk,zl,zm,zn,zo,zp,zq,zr,zt,zu,zv,↓zw,↓zx,↓zy,↓zz,↓z9,↓ya,↓yb,↓yc,↓yd,↓ye,↓yf,↓yg,↓yh,↓yi,↓yj,↓yk,↓yl,↓ym,↓yn,↓yo,↓yp,↓eC,↓yq,↓eB,↓yr,↓yt,↓yu,↓yw,↓yx,↓yy,↓yz,↓y5,↓y6,↓y8,↓y9,↓xa,↓xb,↓xc,↓xg,↓xh,↓xi,↓xj,↓xk,↓xl,↓xm,↓xn,↓xo,↓xp,↓xq,↓xr,↓xt,↓xu,↓xy,↓xz,↓x5,↓x6,↓x7,↓x8,↓x9,↓wa,↓wb,↓wc,↓wd,↓we,↓wf,↓wg,↓wh,↓wj,↓wl,↓wm,↓wn,↓wo,↓wp,↓wq,↓wt,↓wu,wv,ww,wx,wy,wz,w3,w4,↓x9,↓wa,↓w6,↓x8,↓w7,↓w8,↓w9,va,vb,↓vc,↓vd,↓vf,↓vg,↓vh,↓vi,↓vj,↓vk,↓vm,↓vn,↓vo,↓vp,↓vq,↓vt,↓vv,↓vw,↓vx,↓vy,↓vz,↓v0,↓v3,↓v4,↓v5,↓v7,↓v8,↓v9,↓ua,↓ub,↓uc,↓ud,↓ue,↓uf,↓ug,↓uh,ui,uj,uk,ul,um,uo,uq,ur,ut,uu,uv,uw,ux,uy,uz,u2,u3,u5,u6,u7,u8,Option.bind_some,u9,tj,tm,tq,tv,tw,tz,t3,t8,t9,sf,true_and,beq_self_eq_true,Bool.false_eq_true,c0,c1,Int.cast_ofNat_Int,Int.reduceEq,Int.reduceLT,Int.reduceLE,Int.reduceAdd,Int.reduceSub,↓reduceIte, sq4.2.1]
          exact ⟨by decide, by omega, fin (some (nm, u)) _ ⟨hnm, u0, u1⟩ (sq4.put npa2) _ _⟩
    · rintro ρ M4 ⟨cs, hl2, hcs, ⟨o8', o12, rfl⟩, sq2⟩
      have s4 := (s2.trans s3).trans (sq2.del npa2 hp3)
      try simp -dsimp only [↓za,↓zb,↓zc,↓zd,↓ze,↓zf,↓zg,zh,zi,List.map_cons,List.map_nil,List.length_cons,List.length_nil,List.replicate_succ,List.replicate_zero,List.cons_append,List.nil_append,Nat.reduceAdd,Nat.reduceSub,List.set_cons_zero,List.set_cons_succ,List.getElem?_cons_zero,List.getElem?_cons_succ,Bool.not_true,Bool.not_false,decide_true,decide_false,↓zj,↓zk,↓zl,↓zm,↓zn,↓zo,↓zp,↓zq,↓zr,↓zt,↓zu,↓zv,zj,zk,zl,zm,zn,zo,zp,zq,zr,zt,zu,zv,↓zw,↓zx,↓zy,↓zz,↓z9,↓ya,↓yb,↓yc,↓yd,↓ye,↓yf,↓yg,↓yh,↓yi,↓yj,↓yk,↓yl,↓ym,↓yn,↓yo,↓yp,↓eC,↓yq,↓eB,↓yr,↓yt,↓yu,↓yw,↓yx,↓yy,↓yz,↓y5,↓y6,↓y8,↓y9,↓xa,↓xb,↓xc,↓xg,↓xh,↓xi,↓xj,↓xk,↓xl,↓xm,↓xn,↓xo,↓xp,↓xq,↓xr,↓xt,↓xu,↓xy,↓xz,↓x5,↓x6,↓x7,↓x8,↓x9,↓wa,↓wb,↓wc,↓wd,↓we,↓wf,↓wg,↓wh,↓wj,↓wl,↓wm,↓wn,↓wo,↓wp,↓wq,↓wt,↓wu,wv,ww,wx,wy,wz,w3,w4,↓x9,↓wa,↓w6,↓x8,↓w7,↓w8,↓w9,va,vb,↓vc,↓vd,↓vf,↓vg,↓vh,↓vi,↓vj,↓vk,↓vm,↓vn,↓vo,↓vp,↓vq,↓vt,↓vv,↓vw,↓vx,↓vy,↓vz,↓v0,↓v3,↓v4,↓v5,↓v7,↓v8,↓v9,↓ua,↓ub,↓uc,↓ud,↓ue,↓uf,↓ug,↓uh,ui,uj,uk,ul,um,uo,uq,ur,ut,uu,uv,uw,ux,uy,uz,u2,u3,u5,u6,u7,u8,Option.bind_some,u9,tj,tm,tq,tv,tw,tz,t3,t8,t9,sf,true_and,beq_self_eq_true,Bool.false_eq_true,c0,c1,Int.cast_ofNat_Int,Int.reduceEq,Int.reduceLT,Int.reduceLE,Int.reduceAdd,Int.reduceSub,↓reduceIte, sq2.2.1]
      refine draw_call s4.2 (by omega) (by omega) fun M5 i i0 i1 s5 => ?_
      try simp -dsimp only [↓za,↓zb,↓zc,↓zd,↓ze,↓zf,↓zg,zh,zi,List.map_cons,List.map_nil,List.length_cons,List.length_nil,List.replicate_succ,List.replicate_zero,List.cons_append,List.nil_append,Nat.reduceAdd,Nat.reduceSub,List.set_cons_zero,List.set_cons_succ,List.getElem?_cons_zero,List.getElem?_cons_succ,Bool.not_true,Bool.not_false,decide_true,decide_false,↓zj,↓zk,↓zl,↓zm,↓zn,↓zo,↓zp,↓zq,↓zr,↓zt,↓zu,↓zv,zj,zk,zl,zm,zn,zo,zp,zq,zr,zt,zu,zv,↓zw,↓zx,↓zy,↓zz,↓z9,↓ya,↓yb,↓yc,↓yd,↓ye,↓yf,↓yg,↓yh,↓yi,↓yj,↓yk,↓yl,↓ym,↓yn,↓yo,↓yp,↓eC,↓yq,↓eB,↓yr,↓yt,↓yu,↓yw,↓yx,↓yy,↓yz,↓y5,↓y6,↓y8,↓y9,↓xa,↓xb,↓xc,↓xg,↓xh,↓xi,↓xj,↓xk,↓xl,↓xm,↓xn,↓xo,↓xp,↓xq,↓xr,↓xt,↓xu,↓xy,↓xz,↓x5,↓x6,↓x7,↓x8,↓x9,↓wa,↓wb,↓wc,↓wd,↓we,↓wf,↓wg,↓wh,↓wj,↓wl,↓wm,↓wn,↓wo,↓wp,↓wq,↓wt,↓wu,wv,ww,wx,wy,wz,w3,w4,↓x9,↓wa,↓w6,↓x8,↓w7,↓w8,↓w9,va,vb,↓vc,↓vd,↓vf,↓vg,↓vh,↓vi,↓vj,↓vk,↓vm,↓vn,↓vo,↓vp,↓vq,↓vt,↓vv,↓vw,↓vx,↓vy,↓vz,↓v0,↓v3,↓v4,↓v5,↓v7,↓v8,↓v9,↓ua,↓ub,↓uc,↓ud,↓ue,↓uf,↓ug,↓uh,ui,uj,uk,ul,um,uo,uq,ur,ut,uu,uv,uw,ux,uy,uz,u2,u3,u5,u6,u7,u8,Option.bind_some,u9,tj,tm,tq,tv,tw,tz,t3,t8,t9,sf,true_and,beq_self_eq_true,Bool.false_eq_true,c0,c1,Int.cast_ofNat_Int,Int.reduceEq,Int.reduceLT,Int.reduceLE,Int.reduceAdd,Int.reduceSub,↓reduceIte]
      refine draw_call s5.2 (by omega) (by omega) fun M6 j j0 j1 s6 => ?_
      try simp -dsimp only [↓za,↓zb,↓zc,↓zd,↓ze,↓zf,↓zg,zh,zi,List.map_cons,List.map_nil,List.length_cons,List.length_nil,List.replicate_succ,List.replicate_zero,List.cons_append,List.nil_append,Nat.reduceAdd,Nat.reduceSub,List.set_cons_zero,List.set_cons_succ,List.getElem?_cons_zero,List.getElem?_cons_succ,Bool.not_true,Bool.not_false,decide_true,decide_false,↓zj,↓zk,↓zl,↓zm,↓zn,↓zo,↓zp,↓zq,↓zr,↓zt,↓zu,↓zv,zj,zk,zl,zm,zn,zo,zp,zq,zr,zt,zu,zv,↓zw,↓zx,↓zy,↓zz,↓z9,↓ya,↓yb,↓yc,↓yd,↓ye,↓yf,↓yg,↓yh,↓yi,↓yj,↓yk,↓yl,↓ym,↓yn,↓yo,↓yp,↓eC,↓yq,↓eB,↓yr,↓yt,↓yu,↓yw,↓yx,↓yy,↓yz,↓y5,↓y6,↓y8,↓y9,↓xa,↓xb,↓xc,↓xg,↓xh,↓xi,↓xj,↓xk,↓xl,↓xm,↓xn,↓xo,↓xp,↓xq,↓xr,↓xt,↓xu,↓xy,↓xz,↓x5,↓x6,↓x7,↓x8,↓x9,↓wa,↓wb,↓wc,↓wd,↓we,↓wf,↓wg,↓wh,↓wj,↓wl,↓wm,↓wn,↓wo,↓wp,↓wq,↓wt,↓wu,wv,ww,wx,wy,wz,w3,w4,↓x9,↓wa,↓w6,↓x8,↓w7,↓w8,↓w9,va,vb,↓vc,↓vd,↓vf,↓vg,↓vh,↓vi,↓vj,↓vk,↓vm,↓vn,↓vo,↓vp,↓vq,↓vt,↓vv,↓vw,↓vx,↓vy,↓vz,↓v0,↓v3,↓v4,↓v5,↓v7,↓v8,↓v9,↓ua,↓ub,↓uc,↓ud,↓ue,↓uf,↓ug,↓uh,ui,uj,uk,ul,um,uo,uq,ur,ut,uu,uv,uw,ux,uy,uz,u2,u3,u5,u6,u7,u8,Option.bind_some,u9,tj,tm,tq,tv,tw,tz,t3,t8,t9,sf,true_and,beq_self_eq_true,Bool.false_eq_true,c0,c1,Int.cast_ofNat_Int,Int.reduceEq,Int.reduceLT,Int.reduceLE,Int.reduceAdd,Int.reduceSub,↓reduceIte]
      exact ⟨by decide, post2 ⟨i, n, ps, g, cs, j⟩ _ ⟨⟨i0, i1⟩, ⟨by show (n.length : Int) = c; omega, hn⟩, ⟨by show (ps.length : Int) = c; omega, hps⟩, ⟨by show (g.length : Int) = c; omega, hg⟩, ⟨by show (cs.length : Int) = q; omega, hcs⟩, j0, j1⟩ ((s4.trans s5).trans s6)⟩
end U

set_option Elab.async false
set_option linter.all false
set_option maxRecDepth 100000
set_option maxHeartbeats 1000000
/-! V9: a machine drawn; the fault of a machine. -/
namespace U
open PySem PySem.Spec PyProof.Rows L2
theorem b_lmachine (ds : List D) (M : Mu) (Q : D → Mu → Prop) (xw : XW) (h : S_lmachine ds M Q xw) : zh N_lmachine (f_lmachine S_lshape S_ldraw S_lrule) ds M Q xw := by
  obtain ⟨a, rest, rfl, ⟨k, rfl, k0, k1⟩, st, post⟩ := h
  have post2 : ∀ (m : Mch) M', okM k m → Stp a M M' → Q (mchD m) (mres M' M) := fun m M' h1 h2 => post _ _ ⟨k, m, rfl, rfl, h1⟩ (h2.res st)
  have hsz : sizeLine = 16777216 := rfl
  simp only [zh, bodyL, zi, N_lmachine, List.map_cons, List.map_nil, List.length_cons, List.length_nil, List.replicate_succ, List.replicate_zero, List.cons_append, List.nil_append, Nat.reduceAdd, Nat.reduceSub]
  unfold f_lmachine
  try simp -dsimp only [↓za,↓zb,↓zc,↓zd,↓ze,↓zf,↓zg,zh,zi,List.map_cons,List.map_nil,List.length_cons,List.length_nil,List.replicate_succ,List.replicate_zero,List.cons_append,List.nil_append,Nat.reduceAdd,Nat.reduceSub,List.set_cons_zero,List.set_cons_succ,List.getElem?_cons_zero,List.getElem?_cons_succ,Bool.not_true,Bool.not_false,decide_true,decide_false,↓zj,↓zk,↓zl,↓zm,↓zn,↓zo,↓zp,↓zq,↓zr,↓zt,↓zu,↓zv,zj,zk,zl,zm,zn,zo,zp,zq,zr,zt,zu,zv,↓zw,↓zx,↓zy,↓zz,↓z9,↓ya,↓yb,↓yc,↓yd,↓ye,↓yf,↓yg,↓yh,↓yi,↓yj,↓yk,↓yl,↓ym,↓yn,↓yo,↓yp,↓eC,↓yq,↓eB,↓yr,↓yt,↓yu,↓yw,↓yx,↓yy,↓yz,↓y5,↓y6,↓y8,↓y9,↓xa,↓xb,↓xc,↓xg,↓xh,↓xi,↓xj,↓xk,↓xl,↓xm,↓xn,↓xo,↓xp,↓xq,↓xr,↓xt,↓xu,↓xy,↓xz,↓x5,↓x6,↓x7,↓x8,↓x9,↓wa,↓wb,↓wc,↓wd,↓we,↓wf,↓wg,↓wh,↓wj,↓wl,↓wm,↓wn,↓wo,↓wp,↓wq,↓wt,↓wu,wv,ww,wx,wy,wz,w3,w4,↓x9,↓wa,↓w6,↓x8,↓w7,↓w8,↓w9,va,vb,↓vc,↓vd,↓vf,↓vg,↓vh,↓vi,↓vj,↓vk,↓vm,↓vn,↓vo,↓vp,↓vq,↓vt,↓vv,↓vw,↓vx,↓vy,↓vz,↓v0,↓v3,↓v4,↓v5,↓v7,↓v8,↓v9,↓ua,↓ub,↓uc,↓ud,↓ue,↓uf,↓ug,↓uh,ui,uj,uk,ul,um,uo,uq,ur,ut,uu,uv,uw,ux,uy,uz,u2,u3,u5,u6,u7,u8,Option.bind_some,u9,tj,tm,tq,tv,tw,tz,t3,t8,t9,sf,true_and,beq_self_eq_true,Bool.false_eq_true,c0,c1,Int.cast_ofNat_Int,Int.reduceEq,Int.reduceLT,Int.reduceLE,Int.reduceAdd,Int.reduceSub,↓reduceIte]
  refine shape_call st fun M1 sh hsh s1 => ?_
  try simp -dsimp only [↓za,↓zb,↓zc,↓zd,↓ze,↓zf,↓zg,zh,zi,List.map_cons,List.map_nil,List.length_cons,List.length_nil,List.replicate_succ,List.replicate_zero,List.cons_append,List.nil_append,Nat.reduceAdd,Nat.reduceSub,List.set_cons_zero,List.set_cons_succ,List.getElem?_cons_zero,List.getElem?_cons_succ,Bool.not_true,Bool.not_false,decide_true,decide_false,↓zj,↓zk,↓zl,↓zm,↓zn,↓zo,↓zp,↓zq,↓zr,↓zt,↓zu,↓zv,zj,zk,zl,zm,zn,zo,zp,zq,zr,zt,zu,zv,↓zw,↓zx,↓zy,↓zz,↓z9,↓ya,↓yb,↓yc,↓yd,↓ye,↓yf,↓yg,↓yh,↓yi,↓yj,↓yk,↓yl,↓ym,↓yn,↓yo,↓yp,↓eC,↓yq,↓eB,↓yr,↓yt,↓yu,↓yw,↓yx,↓yy,↓yz,↓y5,↓y6,↓y8,↓y9,↓xa,↓xb,↓xc,↓xg,↓xh,↓xi,↓xj,↓xk,↓xl,↓xm,↓xn,↓xo,↓xp,↓xq,↓xr,↓xt,↓xu,↓xy,↓xz,↓x5,↓x6,↓x7,↓x8,↓x9,↓wa,↓wb,↓wc,↓wd,↓we,↓wf,↓wg,↓wh,↓wj,↓wl,↓wm,↓wn,↓wo,↓wp,↓wq,↓wt,↓wu,wv,ww,wx,wy,wz,w3,w4,↓x9,↓wa,↓w6,↓x8,↓w7,↓w8,↓w9,va,vb,↓vc,↓vd,↓vf,↓vg,↓vh,↓vi,↓vj,↓vk,↓vm,↓vn,↓vo,↓vp,↓vq,↓vt,↓vv,↓vw,↓vx,↓vy,↓vz,↓v0,↓v3,↓v4,↓v5,↓v7,↓v8,↓v9,↓ua,↓ub,↓uc,↓ud,↓ue,↓uf,↓ug,↓uh,ui,uj,uk,ul,um,uo,uq,ur,ut,uu,uv,uw,ux,uy,uz,u2,u3,u5,u6,u7,u8,Option.bind_some,u9,tj,tm,tq,tv,tw,tz,t3,t8,t9,sf,true_and,beq_self_eq_true,Bool.false_eq_true,c0,c1,Int.cast_ofNat_Int,Int.reduceEq,Int.reduceLT,Int.reduceLE,Int.reduceAdd,Int.reduceSub,↓reduceIte]
  refine draw_call s1.2 (by omega) (by omega) fun M2 i i0 i1 s2 => ?_
  try simp -dsimp only [↓za,↓zb,↓zc,↓zd,↓ze,↓zf,↓zg,zh,zi,List.map_cons,List.map_nil,List.length_cons,List.length_nil,List.replicate_succ,List.replicate_zero,List.cons_append,List.nil_append,Nat.reduceAdd,Nat.reduceSub,List.set_cons_zero,List.set_cons_succ,List.getElem?_cons_zero,List.getElem?_cons_succ,Bool.not_true,Bool.not_false,decide_true,decide_false,↓zj,↓zk,↓zl,↓zm,↓zn,↓zo,↓zp,↓zq,↓zr,↓zt,↓zu,↓zv,zj,zk,zl,zm,zn,zo,zp,zq,zr,zt,zu,zv,↓zw,↓zx,↓zy,↓zz,↓z9,↓ya,↓yb,↓yc,↓yd,↓ye,↓yf,↓yg,↓yh,↓yi,↓yj,↓yk,↓yl,↓ym,↓yn,↓yo,↓yp,↓eC,↓yq,↓eB,↓yr,↓yt,↓yu,↓yw,↓yx,↓yy,↓yz,↓y5,↓y6,↓y8,↓y9,↓xa,↓xb,↓xc,↓xg,↓xh,↓xi,↓xj,↓xk,↓xl,↓xm,↓xn,↓xo,↓xp,↓xq,↓xr,↓xt,↓xu,↓xy,↓xz,↓x5,↓x6,↓x7,↓x8,↓x9,↓wa,↓wb,↓wc,↓wd,↓we,↓wf,↓wg,↓wh,↓wj,↓wl,↓wm,↓wn,↓wo,↓wp,↓wq,↓wt,↓wu,wv,ww,wx,wy,wz,w3,w4,↓x9,↓wa,↓w6,↓x8,↓w7,↓w8,↓w9,va,vb,↓vc,↓vd,↓vf,↓vg,↓vh,↓vi,↓vj,↓vk,↓vm,↓vn,↓vo,↓vp,↓vq,↓vt,↓vv,↓vw,↓vx,↓vy,↓vz,↓v0,↓v3,↓v4,↓v5,↓v7,↓v8,↓v9,↓ua,↓ub,↓uc,↓ud,↓ue,↓uf,↓ug,↓uh,ui,uj,uk,ul,um,uo,uq,ur,ut,uu,uv,uw,ux,uy,uz,u2,u3,u5,u6,u7,u8,Option.bind_some,u9,tj,tm,tq,tv,tw,tz,t3,t8,t9,sf,true_and,beq_self_eq_true,Bool.false_eq_true,c0,c1,Int.cast_ofNat_Int,Int.reduceEq,Int.reduceLT,Int.reduceLE,Int.reduceAdd,Int.reduceSub,↓reduceIte]
  refine ⟨by omega, lc_gen (fun y => ∃ r : Rule, y = rlD r ∧ okRl sh r) s2.2 (by rw [rngD_length]; omega) (fun d M' k _ hs hk => ?_) fun ys M3 hl hy s3 => ?_⟩
  · try simp -dsimp only [↓za,↓zb,↓zc,↓zd,↓ze,↓zf,↓zg,zh,zi,List.map_cons,List.map_nil,List.length_cons,List.length_nil,List.replicate_succ,List.replicate_zero,List.cons_append,List.nil_append,Nat.reduceAdd,Nat.reduceSub,List.set_cons_zero,List.set_cons_succ,List.getElem?_cons_zero,List.getElem?_cons_succ,Bool.not_true,Bool.not_false,decide_true,decide_false,↓zj,↓zk,↓zl,↓zm,↓zn,↓zo,↓zp,↓zq,↓zr,↓zt,↓zu,↓zv,zj,zk,zl,zm,zn,zo,zp,zq,zr,zt,zu,zv,↓zw,↓zx,↓zy,↓zz,↓z9,↓ya,↓yb,↓yc,↓yd,↓ye,↓yf,↓yg,↓yh,↓yi,↓yj,↓yk,↓yl,↓ym,↓yn,↓yo,↓yp,↓eC,↓yq,↓eB,↓yr,↓yt,↓yu,↓yw,↓yx,↓yy,↓yz,↓y5,↓y6,↓y8,↓y9,↓xa,↓xb,↓xc,↓xg,↓xh,↓xi,↓xj,↓xk,↓xl,↓xm,↓xn,↓xo,↓xp,↓xq,↓xr,↓xt,↓xu,↓xy,↓xz,↓x5,↓x6,↓x7,↓x8,↓x9,↓wa,↓wb,↓wc,↓wd,↓we,↓wf,↓wg,↓wh,↓wj,↓wl,↓wm,↓wn,↓wo,↓wp,↓wq,↓wt,↓wu,wv,ww,wx,wy,wz,w3,w4,↓x9,↓wa,↓w6,↓x8,↓w7,↓w8,↓w9,va,vb,↓vc,↓vd,↓vf,↓vg,↓vh,↓vi,↓vj,↓vk,↓vm,↓vn,↓vo,↓vp,↓vq,↓vt,↓vv,↓vw,↓vx,↓vy,↓vz,↓v0,↓v3,↓v4,↓v5,↓v7,↓v8,↓v9,↓ua,↓ub,↓uc,↓ud,↓ue,↓uf,↓ug,↓uh,ui,uj,uk,ul,um,uo,uq,ur,ut,uu,uv,uw,ux,uy,uz,u2,u3,u5,u6,u7,u8,Option.bind_some,u9,tj,tm,tq,tv,tw,tz,t3,t8,t9,sf,true_and,beq_self_eq_true,Bool.false_eq_true,c0,c1,Int.cast_ofNat_Int,Int.reduceEq,Int.reduceLT,Int.reduceLE,Int.reduceAdd,Int.reduceSub,↓reduceIte]
    exact rule_call hs.2 hsh.wide fun M3 r hr s3 => hk _ _ ⟨r, rfl, hr⟩ (hs.trans s3)
  obtain ⟨rs, rfl, hrs⟩ := enc_of ys hy
  rw [rngD_length, List.length_map] at hl
  unfold shD
  try simp -dsimp only [↓za,↓zb,↓zc,↓zd,↓ze,↓zf,↓zg,zh,zi,List.map_cons,List.map_nil,List.length_cons,List.length_nil,List.replicate_succ,List.replicate_zero,List.cons_append,List.nil_append,Nat.reduceAdd,Nat.reduceSub,List.set_cons_zero,List.set_cons_succ,List.getElem?_cons_zero,List.getElem?_cons_succ,Bool.not_true,Bool.not_false,decide_true,decide_false,↓zj,↓zk,↓zl,↓zm,↓zn,↓zo,↓zp,↓zq,↓zr,↓zt,↓zu,↓zv,zj,zk,zl,zm,zn,zo,zp,zq,zr,zt,zu,zv,↓zw,↓zx,↓zy,↓zz,↓z9,↓ya,↓yb,↓yc,↓yd,↓ye,↓yf,↓yg,↓yh,↓yi,↓yj,↓yk,↓yl,↓ym,↓yn,↓yo,↓yp,↓eC,↓yq,↓eB,↓yr,↓yt,↓yu,↓yw,↓yx,↓yy,↓yz,↓y5,↓y6,↓y8,↓y9,↓xa,↓xb,↓xc,↓xg,↓xh,↓xi,↓xj,↓xk,↓xl,↓xm,↓xn,↓xo,↓xp,↓xq,↓xr,↓xt,↓xu,↓xy,↓xz,↓x5,↓x6,↓x7,↓x8,↓x9,↓wa,↓wb,↓wc,↓wd,↓we,↓wf,↓wg,↓wh,↓wj,↓wl,↓wm,↓wn,↓wo,↓wp,↓wq,↓wt,↓wu,wv,ww,wx,wy,wz,w3,w4,↓x9,↓wa,↓w6,↓x8,↓w7,↓w8,↓w9,va,vb,↓vc,↓vd,↓vf,↓vg,↓vh,↓vi,↓vj,↓vk,↓vm,↓vn,↓vo,↓vp,↓vq,↓vt,↓vv,↓vw,↓vx,↓vy,↓vz,↓v0,↓v3,↓v4,↓v5,↓v7,↓v8,↓v9,↓ua,↓ub,↓uc,↓ud,↓ue,↓uf,↓ug,↓uh,ui,uj,uk,ul,um,uo,uq,ur,ut,uu,uv,uw,ux,uy,uz,u2,u3,u5,u6,u7,u8,Option.bind_some,u9,tj,tm,tq,tv,tw,tz,t3,t8,t9,sf,true_and,beq_self_eq_true,Bool.false_eq_true,c0,c1,Int.cast_ofNat_Int,Int.reduceEq,Int.reduceLT,Int.reduceLE,Int.reduceAdd,Int.reduceSub,↓reduceIte]
  refine ⟨by decide, by show 4 + 1 ≤ sizeLine; decide, ?_⟩
  exact post2 ⟨sh, rs⟩ _ ⟨hsh, by show (rs.length : Int) ≤ k; omega, hrs⟩ ((s1.trans s2).trans s3)

/-! raw machines: what the law makes of one -/
structure RRule where
  a : Int
  n : List Int
  p : List (List Int)
  g : List Int
  c : List Act
  z : Int
structure RM where
  m : Int
  c : Int
  q : Int
  l : Int
  r : List RRule
def rrD (r : RRule) : D := .tup [.int r.a, .tup (r.n.map .int), .tup (r.p.map wD), .tup (r.g.map .int), .tup (r.c.map actD), .int r.z]
def rmD (m : RM) : D := .tup [.int m.m, .int m.c, .int m.q, .int m.l, .tup (m.r.map rrD)]
theorem rm_mk {m c q l : Int} {r : List RRule} : rmD ⟨m, c, q, l, r⟩ = .tup [.int m, .int c, .int q, .int l, .tup (r.map rrD)] := rfl
theorem rr_mk {a z : Int} {n g : List Int} {p : List (List Int)} {c : List Act} : rrD ⟨a, n, p, g, c, z⟩ = .tup [.int a, .tup (n.map .int), .tup (p.map wD), .tup (g.map .int), .tup (c.map actD), .int z] := rfl
def Rule.raw (r : Rule) : RRule := ⟨r.a, r.n, r.p.map fun p => [p.1, p.2], r.g, r.c, r.z⟩
def Mch.raw (m : Mch) : RM := ⟨m.s.m, m.s.c, m.s.q, m.s.l, m.r.map Rule.raw⟩
theorem rl_raw (r : Rule) : rlD r = rrD r.raw := by
  unfold rlD rrD Rule.raw
  rw [List.map_map]
  rfl
theorem mch_raw (m : Mch) : mchD m = rmD m.raw := by
  unfold mchD rmD Mch.raw
  rw [List.map_map, show rlD = rrD ∘ Rule.raw from funext rl_raw]
def areNum (w : List Int) (c : Int) : Bool := decide ((w.length : Int) = c) && w.all fun x => decide (0 ≤ x) && decide (x ≤ 20)
def isPour (c : Int) : List Int → Bool
  | [t, f] => decide (-1 ≤ t) && decide (t < c) && (decide (1 ≤ f) && decide (f ≤ 3))
  | _ => false
def isAct (l : Int) : Act → Bool
  | none => true
  | some x => (decide (x.1 = "send") || decide (x.1 = "take")) && (decide (0 ≤ x.2) && decide (x.2 < l))
def isRule (m : RM) (r : RRule) : Bool :=
  (decide (0 ≤ r.a) && decide (r.a < m.m)) && (decide (0 ≤ r.z) && decide (r.z < m.m)) && areNum r.n m.c && areNum r.g m.c && decide ((r.p.length : Int) = m.c) && (r.p.all (isPour m.c)) &&
    decide ((r.c.length : Int) = m.q) && r.c.all (isAct m.l)
def badAt (m : RM) : List RRule → Int → D
  | [], _ => .non
  | r :: rs, k => if isRule m r = true then badAt m rs (k + 1) else .tup [.str "rule", .int k]
def faultD (m : RM) : D :=
  if ¬ (1 ≤ m.m ∧ m.m ≤ 6) then .tup [.str "modes"] else
  if ¬ (0 ≤ m.c ∧ m.c ≤ 4) then .tup [.str "counters"] else
  if ¬ (0 ≤ m.q ∧ m.q ≤ 2) then .tup [.str "queues"] else
  if ¬ (0 ≤ m.l ∧ m.l ≤ 3) then .tup [.str "letters"] else
  if 20 < m.r.length then .tup [.str "rules"] else badAt m m.r 0
def okNm : Act → Prop
  | none => True
  | some x => PyData.strOk x.1 = true
def RRule.ok (r : RRule) : Prop := ∀ x ∈ r.c, okNm x
def RM.ok (m : RM) : Prop := ∀ r ∈ m.r, r.ok
def S_are_numbers : FSpec := fun ds M Q _ => ∃ (w : List Int) (c : Int), ds = [.tup (w.map .int), .int c] ∧ Q (.bl (areNum w c)) M
def S_is_pour : FSpec := fun ds M Q _ => ∃ (w : List Int) (c : Int), ds = [wD w, .int c] ∧ Q (.bl (isPour c w)) M
def S_is_act : FSpec := fun ds M Q _ => ∃ (x : Act) (l : Int), ds = [actD x, .int l] ∧ okNm x ∧ Q (.bl (isAct l x)) M
def S_is_rule : FSpec := fun ds M Q _ => ∃ (m : RM) (r : RRule), ds = [rmD m, rrD r] ∧ r.ok ∧ Q (.bl (isRule m r)) M
def S_fault : FSpec := fun ds M Q _ => ∃ m : RM, ds = [rmD m] ∧ m.ok ∧ Q (faultD m) M
theorem dle_str' {n : Nat} {x : Str} (h : PyData.strOk x = true) : dle n (.str x) = true := by cases n <;> exact h
theorem b_are_numbers (ds : List D) (M : Mu) (Q : D → Mu → Prop) (xw : XW) (h : S_are_numbers ds M Q xw) : zh N_are_numbers f_are_numbers ds M Q xw := by
  obtain ⟨w, c, rfl, q⟩ := h
  have q : Q (.bl (areNum w c)) (mres M M) := by rw [mres_self]; exact q
  unfold areNum at q
  simp only [zh, bodyL, zi, N_are_numbers, List.map_cons, List.map_nil, List.length_cons, List.length_nil, List.replicate_succ, List.replicate_zero, List.cons_append, List.nil_append, Nat.reduceAdd, Nat.reduceSub]
  unfold f_are_numbers
  try simp -dsimp only [↓za,↓zb,↓zc,↓zd,↓ze,↓zf,↓zg,zh,zi,List.map_cons,List.map_nil,List.length_cons,List.length_nil,List.replicate_succ,List.replicate_zero,List.cons_append,List.nil_append,Nat.reduceAdd,Nat.reduceSub,List.set_cons_zero,List.set_cons_succ,List.getElem?_cons_zero,List.getElem?_cons_succ,Bool.not_true,Bool.not_false,decide_true,decide_false,↓zj,↓zk,↓zl,↓zm,↓zn,↓zo,↓zp,↓zq,↓zr,↓zt,↓zu,↓zv,zj,zk,zl,zm,zn,zo,zp,zq,zr,zt,zu,zv,↓zw,↓zx,↓zy,↓zz,↓z9,↓ya,↓yb,↓yc,↓yd,↓ye,↓yf,↓yg,↓yh,↓yi,↓yj,↓yk,↓yl,↓ym,↓yn,↓yo,↓yp,↓eC,↓yq,↓eB,↓yr,↓yt,↓yu,↓yw,↓yx,↓yy,↓yz,↓y5,↓y6,↓y8,↓y9,↓xa,↓xb,↓xc,↓xg,↓xh,↓xi,↓xj,↓xk,↓xl,↓xm,↓xn,↓xo,↓xp,↓xq,↓xr,↓xt,↓xu,↓xy,↓xz,↓x5,↓x6,↓x7,↓x8,↓x9,↓wa,↓wb,↓wc,↓wd,↓we,↓wf,↓wg,↓wh,↓wj,↓wl,↓wm,↓wn,↓wo,↓wp,↓wq,↓wt,↓wu,wv,ww,wx,wy,wz,w3,w4,↓x9,↓wa,↓w6,↓x8,↓w7,↓w8,↓w9,va,vb,↓vc,↓vd,↓vf,↓vg,↓vh,↓vi,↓vj,↓vk,↓vm,↓vn,↓vo,↓vp,↓vq,↓vt,↓vv,↓vw,↓vx,↓vy,↓vz,↓v0,↓v3,↓v4,↓v5,↓v7,↓v8,↓v9,↓ua,↓ub,↓uc,↓ud,↓ue,↓uf,↓ug,↓uh,ui,uj,uk,ul,um,uo,uq,ur,ut,uu,uv,uw,ux,uy,uz,u2,u3,u5,u6,u7,u8,Option.bind_some,u9,tj,tm,tq,tv,tw,tz,t3,t8,t9,sf,true_and,beq_self_eq_true,Bool.false_eq_true,c0,c1,Int.cast_ofNat_Int,Int.reduceEq,Int.reduceLT,Int.reduceLE,Int.reduceAdd,Int.reduceSub,↓reduceIte, List.length_map]
  by_cases e : (w.length : Int) = c
  · rw [decide_eq_true e] at q ⊢
    try simp -dsimp only [↓za,↓zb,↓zc,↓zd,↓ze,↓zf,↓zg,zh,zi,List.map_cons,List.map_nil,List.length_cons,List.length_nil,List.replicate_succ,List.replicate_zero,List.cons_append,List.nil_append,Nat.reduceAdd,Nat.reduceSub,List.set_cons_zero,List.set_cons_succ,List.getElem?_cons_zero,List.getElem?_cons_succ,Bool.not_true,Bool.not_false,decide_true,decide_false,↓zj,↓zk,↓zl,↓zm,↓zn,↓zo,↓zp,↓zq,↓zr,↓zt,↓zu,↓zv,zj,zk,zl,zm,zn,zo,zp,zq,zr,zt,zu,zv,↓zw,↓zx,↓zy,↓zz,↓z9,↓ya,↓yb,↓yc,↓yd,↓ye,↓yf,↓yg,↓yh,↓yi,↓yj,↓yk,↓yl,↓ym,↓yn,↓yo,↓yp,↓eC,↓yq,↓eB,↓yr,↓yt,↓yu,↓yw,↓yx,↓yy,↓yz,↓y5,↓y6,↓y8,↓y9,↓xa,↓xb,↓xc,↓xg,↓xh,↓xi,↓xj,↓xk,↓xl,↓xm,↓xn,↓xo,↓xp,↓xq,↓xr,↓xt,↓xu,↓xy,↓xz,↓x5,↓x6,↓x7,↓x8,↓x9,↓wa,↓wb,↓wc,↓wd,↓we,↓wf,↓wg,↓wh,↓wj,↓wl,↓wm,↓wn,↓wo,↓wp,↓wq,↓wt,↓wu,wv,ww,wx,wy,wz,w3,w4,↓x9,↓wa,↓w6,↓x8,↓w7,↓w8,↓w9,va,vb,↓vc,↓vd,↓vf,↓vg,↓vh,↓vi,↓vj,↓vk,↓vm,↓vn,↓vo,↓vp,↓vq,↓vt,↓vv,↓vw,↓vx,↓vy,↓vz,↓v0,↓v3,↓v4,↓v5,↓v7,↓v8,↓v9,↓ua,↓ub,↓uc,↓ud,↓ue,↓uf,↓ug,↓uh,ui,uj,uk,ul,um,uo,uq,ur,ut,uu,uv,uw,ux,uy,uz,u2,u3,u5,u6,u7,u8,Option.bind_some,u9,tj,tm,tq,tv,tw,tz,t3,t8,t9,sf,true_and,beq_self_eq_true,Bool.false_eq_true,c0,c1,Int.cast_ofNat_Int,Int.reduceEq,Int.reduceLT,Int.reduceLE,Int.reduceAdd,Int.reduceSub,↓reduceIte]
    refine genS_map (fun x : Int => decide (0 ≤ x) && decide (x ≤ 20)) (fun x _ => ⟨_, rfl, fun Q hq => ?_⟩) ?_
    · try simp -dsimp only [↓za,↓zb,↓zc,↓zd,↓ze,↓zf,↓zg,zh,zi,List.map_cons,List.map_nil,List.length_cons,List.length_nil,List.replicate_succ,List.replicate_zero,List.cons_append,List.nil_append,Nat.reduceAdd,Nat.reduceSub,List.set_cons_zero,List.set_cons_succ,List.getElem?_cons_zero,List.getElem?_cons_succ,Bool.not_true,Bool.not_false,decide_true,decide_false,↓zj,↓zk,↓zl,↓zm,↓zn,↓zo,↓zp,↓zq,↓zr,↓zt,↓zu,↓zv,zj,zk,zl,zm,zn,zo,zp,zq,zr,zt,zu,zv,↓zw,↓zx,↓zy,↓zz,↓z9,↓ya,↓yb,↓yc,↓yd,↓ye,↓yf,↓yg,↓yh,↓yi,↓yj,↓yk,↓yl,↓ym,↓yn,↓yo,↓yp,↓eC,↓yq,↓eB,↓yr,↓yt,↓yu,↓yw,↓yx,↓yy,↓yz,↓y5,↓y6,↓y8,↓y9,↓xa,↓xb,↓xc,↓xg,↓xh,↓xi,↓xj,↓xk,↓xl,↓xm,↓xn,↓xo,↓xp,↓xq,↓xr,↓xt,↓xu,↓xy,↓xz,↓x5,↓x6,↓x7,↓x8,↓x9,↓wa,↓wb,↓wc,↓wd,↓we,↓wf,↓wg,↓wh,↓wj,↓wl,↓wm,↓wn,↓wo,↓wp,↓wq,↓wt,↓wu,wv,ww,wx,wy,wz,w3,w4,↓x9,↓wa,↓w6,↓x8,↓w7,↓w8,↓w9,va,vb,↓vc,↓vd,↓vf,↓vg,↓vh,↓vi,↓vj,↓vk,↓vm,↓vn,↓vo,↓vp,↓vq,↓vt,↓vv,↓vw,↓vx,↓vy,↓vz,↓v0,↓v3,↓v4,↓v5,↓v7,↓v8,↓v9,↓ua,↓ub,↓uc,↓ud,↓ue,↓uf,↓ug,↓uh,ui,uj,uk,ul,um,uo,uq,ur,ut,uu,uv,uw,ux,uy,uz,u2,u3,u5,u6,u7,u8,Option.bind_some,u9,tj,tm,tq,tv,tw,tz,t3,t8,t9,sf,true_and,beq_self_eq_true,Bool.false_eq_true,c0,c1,Int.cast_ofNat_Int,Int.reduceEq,Int.reduceLT,Int.reduceLE,Int.reduceAdd,Int.reduceSub,↓reduceIte]
      by_cases e0 : 0 ≤ x
      · rw [decide_eq_true e0] at hq ⊢
        try simp -dsimp only [↓za,↓zb,↓zc,↓zd,↓ze,↓zf,↓zg,zh,zi,List.map_cons,List.map_nil,List.length_cons,List.length_nil,List.replicate_succ,List.replicate_zero,List.cons_append,List.nil_append,Nat.reduceAdd,Nat.reduceSub,List.set_cons_zero,List.set_cons_succ,List.getElem?_cons_zero,List.getElem?_cons_succ,Bool.not_true,Bool.not_false,decide_true,decide_false,↓zj,↓zk,↓zl,↓zm,↓zn,↓zo,↓zp,↓zq,↓zr,↓zt,↓zu,↓zv,zj,zk,zl,zm,zn,zo,zp,zq,zr,zt,zu,zv,↓zw,↓zx,↓zy,↓zz,↓z9,↓ya,↓yb,↓yc,↓yd,↓ye,↓yf,↓yg,↓yh,↓yi,↓yj,↓yk,↓yl,↓ym,↓yn,↓yo,↓yp,↓eC,↓yq,↓eB,↓yr,↓yt,↓yu,↓yw,↓yx,↓yy,↓yz,↓y5,↓y6,↓y8,↓y9,↓xa,↓xb,↓xc,↓xg,↓xh,↓xi,↓xj,↓xk,↓xl,↓xm,↓xn,↓xo,↓xp,↓xq,↓xr,↓xt,↓xu,↓xy,↓xz,↓x5,↓x6,↓x7,↓x8,↓x9,↓wa,↓wb,↓wc,↓wd,↓we,↓wf,↓wg,↓wh,↓wj,↓wl,↓wm,↓wn,↓wo,↓wp,↓wq,↓wt,↓wu,wv,ww,wx,wy,wz,w3,w4,↓x9,↓wa,↓w6,↓x8,↓w7,↓w8,↓w9,va,vb,↓vc,↓vd,↓vf,↓vg,↓vh,↓vi,↓vj,↓vk,↓vm,↓vn,↓vo,↓vp,↓vq,↓vt,↓vv,↓vw,↓vx,↓vy,↓vz,↓v0,↓v3,↓v4,↓v5,↓v7,↓v8,↓v9,↓ua,↓ub,↓uc,↓ud,↓ue,↓uf,↓ug,↓uh,ui,uj,uk,ul,um,uo,uq,ur,ut,uu,uv,uw,ux,uy,uz,u2,u3,u5,u6,u7,u8,Option.bind_some,u9,tj,tm,tq,tv,tw,tz,t3,t8,t9,sf,true_and,beq_self_eq_true,Bool.false_eq_true,c0,c1,Int.cast_ofNat_Int,Int.reduceEq,Int.reduceLT,Int.reduceLE,Int.reduceAdd,Int.reduceSub,↓reduceIte]
        exact hq
      · rw [decide_eq_false e0] at hq ⊢
        try simp -dsimp only [↓za,↓zb,↓zc,↓zd,↓ze,↓zf,↓zg,zh,zi,List.map_cons,List.map_nil,List.length_cons,List.length_nil,List.replicate_succ,List.replicate_zero,List.cons_append,List.nil_append,Nat.reduceAdd,Nat.reduceSub,List.set_cons_zero,List.set_cons_succ,List.getElem?_cons_zero,List.getElem?_cons_succ,Bool.not_true,Bool.not_false,decide_true,decide_false,↓zj,↓zk,↓zl,↓zm,↓zn,↓zo,↓zp,↓zq,↓zr,↓zt,↓zu,↓zv,zj,zk,zl,zm,zn,zo,zp,zq,zr,zt,zu,zv,↓zw,↓zx,↓zy,↓zz,↓z9,↓ya,↓yb,↓yc,↓yd,↓ye,↓yf,↓yg,↓yh,↓yi,↓yj,↓yk,↓yl,↓ym,↓yn,↓yo,↓yp,↓eC,↓yq,↓eB,↓yr,↓yt,↓yu,↓yw,↓yx,↓yy,↓yz,↓y5,↓y6,↓y8,↓y9,↓xa,↓xb,↓xc,↓xg,↓xh,↓xi,↓xj,↓xk,↓xl,↓xm,↓xn,↓xo,↓xp,↓xq,↓xr,↓xt,↓xu,↓xy,↓xz,↓x5,↓x6,↓x7,↓x8,↓x9,↓wa,↓wb,↓wc,↓wd,↓we,↓wf,↓wg,↓wh,↓wj,↓wl,↓wm,↓wn,↓wo,↓wp,↓wq,↓wt,↓wu,wv,ww,wx,wy,wz,w3,w4,↓x9,↓wa,↓w6,↓x8,↓w7,↓w8,↓w9,va,vb,↓vc,↓vd,↓vf,↓vg,↓vh,↓vi,↓vj,↓vk,↓vm,↓vn,↓vo,↓vp,↓vq,↓vt,↓vv,↓vw,↓vx,↓vy,↓vz,↓v0,↓v3,↓v4,↓v5,↓v7,↓v8,↓v9,↓ua,↓ub,↓uc,↓ud,↓ue,↓uf,↓ug,↓uh,ui,uj,uk,ul,um,uo,uq,ur,ut,uu,uv,uw,ux,uy,uz,u2,u3,u5,u6,u7,u8,Option.bind_some,u9,tj,tm,tq,tv,tw,tz,t3,t8,t9,sf,true_and,beq_self_eq_true,Bool.false_eq_true,c0,c1,Int.cast_ofNat_Int,Int.reduceEq,Int.reduceLT,Int.reduceLE,Int.reduceAdd,Int.reduceSub,↓reduceIte]
        exact hq
    · rw [all_map_id]
      exact q
  · rw [decide_eq_false e] at q ⊢
    try simp -dsimp only [↓za,↓zb,↓zc,↓zd,↓ze,↓zf,↓zg,zh,zi,List.map_cons,List.map_nil,List.length_cons,List.length_nil,List.replicate_succ,List.replicate_zero,List.cons_append,List.nil_append,Nat.reduceAdd,Nat.reduceSub,List.set_cons_zero,List.set_cons_succ,List.getElem?_cons_zero,List.getElem?_cons_succ,Bool.not_true,Bool.not_false,decide_true,decide_false,↓zj,↓zk,↓zl,↓zm,↓zn,↓zo,↓zp,↓zq,↓zr,↓zt,↓zu,↓zv,zj,zk,zl,zm,zn,zo,zp,zq,zr,zt,zu,zv,↓zw,↓zx,↓zy,↓zz,↓z9,↓ya,↓yb,↓yc,↓yd,↓ye,↓yf,↓yg,↓yh,↓yi,↓yj,↓yk,↓yl,↓ym,↓yn,↓yo,↓yp,↓eC,↓yq,↓eB,↓yr,↓yt,↓yu,↓yw,↓yx,↓yy,↓yz,↓y5,↓y6,↓y8,↓y9,↓xa,↓xb,↓xc,↓xg,↓xh,↓xi,↓xj,↓xk,↓xl,↓xm,↓xn,↓xo,↓xp,↓xq,↓xr,↓xt,↓xu,↓xy,↓xz,↓x5,↓x6,↓x7,↓x8,↓x9,↓wa,↓wb,↓wc,↓wd,↓we,↓wf,↓wg,↓wh,↓wj,↓wl,↓wm,↓wn,↓wo,↓wp,↓wq,↓wt,↓wu,wv,ww,wx,wy,wz,w3,w4,↓x9,↓wa,↓w6,↓x8,↓w7,↓w8,↓w9,va,vb,↓vc,↓vd,↓vf,↓vg,↓vh,↓vi,↓vj,↓vk,↓vm,↓vn,↓vo,↓vp,↓vq,↓vt,↓vv,↓vw,↓vx,↓vy,↓vz,↓v0,↓v3,↓v4,↓v5,↓v7,↓v8,↓v9,↓ua,↓ub,↓uc,↓ud,↓ue,↓uf,↓ug,↓uh,ui,uj,uk,ul,um,uo,uq,ur,ut,uu,uv,uw,ux,uy,uz,u2,u3,u5,u6,u7,u8,Option.bind_some,u9,tj,tm,tq,tv,tw,tz,t3,t8,t9,sf,true_and,beq_self_eq_true,Bool.false_eq_true,c0,c1,Int.cast_ofNat_Int,Int.reduceEq,Int.reduceLT,Int.reduceLE,Int.reduceAdd,Int.reduceSub,↓reduceIte]
    exact q
theorem b_is_pour (ds : List D) (M : Mu) (Q : D → Mu → Prop) (xw : XW) (h : S_is_pour ds M Q xw) : zh N_is_pour f_is_pour ds M Q xw := by
  obtain ⟨w, c, rfl, q⟩ := h
  have q : Q (.bl (isPour c w)) (mres M M) := by rw [mres_self]; exact q
  simp only [zh, bodyL, zi, N_is_pour, List.map_cons, List.map_nil, List.length_cons, List.length_nil, List.replicate_succ, List.replicate_zero, List.cons_append, List.nil_append, Nat.reduceAdd, Nat.reduceSub]
  unfold f_is_pour
  unfold wD
  try simp -dsimp only [↓za,↓zb,↓zc,↓zd,↓ze,↓zf,↓zg,zh,zi,List.map_cons,List.map_nil,List.length_cons,List.length_nil,List.replicate_succ,List.replicate_zero,List.cons_append,List.nil_append,Nat.reduceAdd,Nat.reduceSub,List.set_cons_zero,List.set_cons_succ,List.getElem?_cons_zero,List.getElem?_cons_succ,Bool.not_true,Bool.not_false,decide_true,decide_false,↓zj,↓zk,↓zl,↓zm,↓zn,↓zo,↓zp,↓zq,↓zr,↓zt,↓zu,↓zv,zj,zk,zl,zm,zn,zo,zp,zq,zr,zt,zu,zv,↓zw,↓zx,↓zy,↓zz,↓z9,↓ya,↓yb,↓yc,↓yd,↓ye,↓yf,↓yg,↓yh,↓yi,↓yj,↓yk,↓yl,↓ym,↓yn,↓yo,↓yp,↓eC,↓yq,↓eB,↓yr,↓yt,↓yu,↓yw,↓yx,↓yy,↓yz,↓y5,↓y6,↓y8,↓y9,↓xa,↓xb,↓xc,↓xg,↓xh,↓xi,↓xj,↓xk,↓xl,↓xm,↓xn,↓xo,↓xp,↓xq,↓xr,↓xt,↓xu,↓xy,↓xz,↓x5,↓x6,↓x7,↓x8,↓x9,↓wa,↓wb,↓wc,↓wd,↓we,↓wf,↓wg,↓wh,↓wj,↓wl,↓wm,↓wn,↓wo,↓wp,↓wq,↓wt,↓wu,wv,ww,wx,wy,wz,w3,w4,↓x9,↓wa,↓w6,↓x8,↓w7,↓w8,↓w9,va,vb,↓vc,↓vd,↓vf,↓vg,↓vh,↓vi,↓vj,↓vk,↓vm,↓vn,↓vo,↓vp,↓vq,↓vt,↓vv,↓vw,↓vx,↓vy,↓vz,↓v0,↓v3,↓v4,↓v5,↓v7,↓v8,↓v9,↓ua,↓ub,↓uc,↓ud,↓ue,↓uf,↓ug,↓uh,ui,uj,uk,ul,um,uo,uq,ur,ut,uu,uv,uw,ux,uy,uz,u2,u3,u5,u6,u7,u8,Option.bind_some,u9,tj,tm,tq,tv,tw,tz,t3,t8,t9,sf,true_and,beq_self_eq_true,Bool.false_eq_true,c0,c1,Int.cast_ofNat_Int,Int.reduceEq,Int.reduceLT,Int.reduceLE,Int.reduceAdd,Int.reduceSub,↓reduceIte, List.length_map]
  match w, q with
  | [], q => exact q
  | [_], q => exact q
  | [t, f], q =>
    replace q : Q (.bl (decide (-1 ≤ t) && decide (t < c) && (decide (1 ≤ f) && decide (f ≤ 3)))) (mres M M) := q
    try simp -dsimp only [↓za,↓zb,↓zc,↓zd,↓ze,↓zf,↓zg,zh,zi,List.map_cons,List.map_nil,List.length_cons,List.length_nil,List.replicate_succ,List.replicate_zero,List.cons_append,List.nil_append,Nat.reduceAdd,Nat.reduceSub,List.set_cons_zero,List.set_cons_succ,List.getElem?_cons_zero,List.getElem?_cons_succ,Bool.not_true,Bool.not_false,decide_true,decide_false,↓zj,↓zk,↓zl,↓zm,↓zn,↓zo,↓zp,↓zq,↓zr,↓zt,↓zu,↓zv,zj,zk,zl,zm,zn,zo,zp,zq,zr,zt,zu,zv,↓zw,↓zx,↓zy,↓zz,↓z9,↓ya,↓yb,↓yc,↓yd,↓ye,↓yf,↓yg,↓yh,↓yi,↓yj,↓yk,↓yl,↓ym,↓yn,↓yo,↓yp,↓eC,↓yq,↓eB,↓yr,↓yt,↓yu,↓yw,↓yx,↓yy,↓yz,↓y5,↓y6,↓y8,↓y9,↓xa,↓xb,↓xc,↓xg,↓xh,↓xi,↓xj,↓xk,↓xl,↓xm,↓xn,↓xo,↓xp,↓xq,↓xr,↓xt,↓xu,↓xy,↓xz,↓x5,↓x6,↓x7,↓x8,↓x9,↓wa,↓wb,↓wc,↓wd,↓we,↓wf,↓wg,↓wh,↓wj,↓wl,↓wm,↓wn,↓wo,↓wp,↓wq,↓wt,↓wu,wv,ww,wx,wy,wz,w3,w4,↓x9,↓wa,↓w6,↓x8,↓w7,↓w8,↓w9,va,vb,↓vc,↓vd,↓vf,↓vg,↓vh,↓vi,↓vj,↓vk,↓vm,↓vn,↓vo,↓vp,↓vq,↓vt,↓vv,↓vw,↓vx,↓vy,↓vz,↓v0,↓v3,↓v4,↓v5,↓v7,↓v8,↓v9,↓ua,↓ub,↓uc,↓ud,↓ue,↓uf,↓ug,↓uh,ui,uj,uk,ul,um,uo,uq,ur,ut,uu,uv,uw,ux,uy,uz,u2,u3,u5,u6,u7,u8,Option.bind_some,u9,tj,tm,tq,tv,tw,tz,t3,t8,t9,sf,true_and,beq_self_eq_true,Bool.false_eq_true,c0,c1,Int.cast_ofNat_Int,Int.reduceEq,Int.reduceLT,Int.reduceLE,Int.reduceAdd,Int.reduceSub,↓reduceIte]
    by_cases e0 : -1 ≤ t
    · rw [decide_eq_true e0] at q ⊢
      try simp -dsimp only [↓za,↓zb,↓zc,↓zd,↓ze,↓zf,↓zg,zh,zi,List.map_cons,List.map_nil,List.length_cons,List.length_nil,List.replicate_succ,List.replicate_zero,List.cons_append,List.nil_append,Nat.reduceAdd,Nat.reduceSub,List.set_cons_zero,List.set_cons_succ,List.getElem?_cons_zero,List.getElem?_cons_succ,Bool.not_true,Bool.not_false,decide_true,decide_false,↓zj,↓zk,↓zl,↓zm,↓zn,↓zo,↓zp,↓zq,↓zr,↓zt,↓zu,↓zv,zj,zk,zl,zm,zn,zo,zp,zq,zr,zt,zu,zv,↓zw,↓zx,↓zy,↓zz,↓z9,↓ya,↓yb,↓yc,↓yd,↓ye,↓yf,↓yg,↓yh,↓yi,↓yj,↓yk,↓yl,↓ym,↓yn,↓yo,↓yp,↓eC,↓yq,↓eB,↓yr,↓yt,↓yu,↓yw,↓yx,↓yy,↓yz,↓y5,↓y6,↓y8,↓y9,↓xa,↓xb,↓xc,↓xg,↓xh,↓xi,↓xj,↓xk,↓xl,↓xm,↓xn,↓xo,↓xp,↓xq,↓xr,↓xt,↓xu,↓xy,↓xz,↓x5,↓x6,↓x7,↓x8,↓x9,↓wa,↓wb,↓wc,↓wd,↓we,↓wf,↓wg,↓wh,↓wj,↓wl,↓wm,↓wn,↓wo,↓wp,↓wq,↓wt,↓wu,wv,ww,wx,wy,wz,w3,w4,↓x9,↓wa,↓w6,↓x8,↓w7,↓w8,↓w9,va,vb,↓vc,↓vd,↓vf,↓vg,↓vh,↓vi,↓vj,↓vk,↓vm,↓vn,↓vo,↓vp,↓vq,↓vt,↓vv,↓vw,↓vx,↓vy,↓vz,↓v0,↓v3,↓v4,↓v5,↓v7,↓v8,↓v9,↓ua,↓ub,↓uc,↓ud,↓ue,↓uf,↓ug,↓uh,ui,uj,uk,ul,um,uo,uq,ur,ut,uu,uv,uw,ux,uy,uz,u2,u3,u5,u6,u7,u8,Option.bind_some,u9,tj,tm,tq,tv,tw,tz,t3,t8,t9,sf,true_and,beq_self_eq_true,Bool.false_eq_true,c0,c1,Int.cast_ofNat_Int,Int.reduceEq,Int.reduceLT,Int.reduceLE,Int.reduceAdd,Int.reduceSub,↓reduceIte]
      by_cases e1 : t < c
      · rw [decide_eq_true e1] at q ⊢
        try simp -dsimp only [↓za,↓zb,↓zc,↓zd,↓ze,↓zf,↓zg,zh,zi,List.map_cons,List.map_nil,List.length_cons,List.length_nil,List.replicate_succ,List.replicate_zero,List.cons_append,List.nil_append,Nat.reduceAdd,Nat.reduceSub,List.set_cons_zero,List.set_cons_succ,List.getElem?_cons_zero,List.getElem?_cons_succ,Bool.not_true,Bool.not_false,decide_true,decide_false,↓zj,↓zk,↓zl,↓zm,↓zn,↓zo,↓zp,↓zq,↓zr,↓zt,↓zu,↓zv,zj,zk,zl,zm,zn,zo,zp,zq,zr,zt,zu,zv,↓zw,↓zx,↓zy,↓zz,↓z9,↓ya,↓yb,↓yc,↓yd,↓ye,↓yf,↓yg,↓yh,↓yi,↓yj,↓yk,↓yl,↓ym,↓yn,↓yo,↓yp,↓eC,↓yq,↓eB,↓yr,↓yt,↓yu,↓yw,↓yx,↓yy,↓yz,↓y5,↓y6,↓y8,↓y9,↓xa,↓xb,↓xc,↓xg,↓xh,↓xi,↓xj,↓xk,↓xl,↓xm,↓xn,↓xo,↓xp,↓xq,↓xr,↓xt,↓xu,↓xy,↓xz,↓x5,↓x6,↓x7,↓x8,↓x9,↓wa,↓wb,↓wc,↓wd,↓we,↓wf,↓wg,↓wh,↓wj,↓wl,↓wm,↓wn,↓wo,↓wp,↓wq,↓wt,↓wu,wv,ww,wx,wy,wz,w3,w4,↓x9,↓wa,↓w6,↓x8,↓w7,↓w8,↓w9,va,vb,↓vc,↓vd,↓vf,↓vg,↓vh,↓vi,↓vj,↓vk,↓vm,↓vn,↓vo,↓vp,↓vq,↓vt,↓vv,↓vw,↓vx,↓vy,↓vz,↓v0,↓v3,↓v4,↓v5,↓v7,↓v8,↓v9,↓ua,↓ub,↓uc,↓ud,↓ue,↓uf,↓ug,↓uh,ui,uj,uk,ul,um,uo,uq,ur,ut,uu,uv,uw,ux,uy,uz,u2,u3,u5,u6,u7,u8,Option.bind_some,u9,tj,tm,tq,tv,tw,tz,t3,t8,t9,sf,true_and,beq_self_eq_true,Bool.false_eq_true,c0,c1,Int.cast_ofNat_Int,Int.reduceEq,Int.reduceLT,Int.reduceLE,Int.reduceAdd,Int.reduceSub,↓reduceIte]
        by_cases e2 : 1 ≤ f
        · rw [decide_eq_true e2] at q ⊢
          try simp -dsimp only [↓za,↓zb,↓zc,↓zd,↓ze,↓zf,↓zg,zh,zi,List.map_cons,List.map_nil,List.length_cons,List.length_nil,List.replicate_succ,List.replicate_zero,List.cons_append,List.nil_append,Nat.reduceAdd,Nat.reduceSub,List.set_cons_zero,List.set_cons_succ,List.getElem?_cons_zero,List.getElem?_cons_succ,Bool.not_true,Bool.not_false,decide_true,decide_false,↓zj,↓zk,↓zl,↓zm,↓zn,↓zo,↓zp,↓zq,↓zr,↓zt,↓zu,↓zv,zj,zk,zl,zm,zn,zo,zp,zq,zr,zt,zu,zv,↓zw,↓zx,↓zy,↓zz,↓z9,↓ya,↓yb,↓yc,↓yd,↓ye,↓yf,↓yg,↓yh,↓yi,↓yj,↓yk,↓yl,↓ym,↓yn,↓yo,↓yp,↓eC,↓yq,↓eB,↓yr,↓yt,↓yu,↓yw,↓yx,↓yy,↓yz,↓y5,↓y6,↓y8,↓y9,↓xa,↓xb,↓xc,↓xg,↓xh,↓xi,↓xj,↓xk,↓xl,↓xm,↓xn,↓xo,↓xp,↓xq,↓xr,↓xt,↓xu,↓xy,↓xz,↓x5,↓x6,↓x7,↓x8,↓x9,↓wa,↓wb,↓wc,↓wd,↓we,↓wf,↓wg,↓wh,↓wj,↓wl,↓wm,↓wn,↓wo,↓wp,↓wq,↓wt,↓wu,wv,ww,wx,wy,wz,w3,w4,↓x9,↓wa,↓w6,↓x8,↓w7,↓w8,↓w9,va,vb,↓vc,↓vd,↓vf,↓vg,↓vh,↓vi,↓vj,↓vk,↓vm,↓vn,↓vo,↓vp,↓vq,↓vt,↓vv,↓vw,↓vx,↓vy,↓vz,↓v0,↓v3,↓v4,↓v5,↓v7,↓v8,↓v9,↓ua,↓ub,↓uc,↓ud,↓ue,↓uf,↓ug,↓uh,ui,uj,uk,ul,um,uo,uq,ur,ut,uu,uv,uw,ux,uy,uz,u2,u3,u5,u6,u7,u8,Option.bind_some,u9,tj,tm,tq,tv,tw,tz,t3,t8,t9,sf,true_and,beq_self_eq_true,Bool.false_eq_true,c0,c1,Int.cast_ofNat_Int,Int.reduceEq,Int.reduceLT,Int.reduceLE,Int.reduceAdd,Int.reduceSub,↓reduceIte]
          exact q
        · rw [decide_eq_false e2] at q ⊢
          try simp -dsimp only [↓za,↓zb,↓zc,↓zd,↓ze,↓zf,↓zg,zh,zi,List.map_cons,List.map_nil,List.length_cons,List.length_nil,List.replicate_succ,List.replicate_zero,List.cons_append,List.nil_append,Nat.reduceAdd,Nat.reduceSub,List.set_cons_zero,List.set_cons_succ,List.getElem?_cons_zero,List.getElem?_cons_succ,Bool.not_true,Bool.not_false,decide_true,decide_false,↓zj,↓zk,↓zl,↓zm,↓zn,↓zo,↓zp,↓zq,↓zr,↓zt,↓zu,↓zv,zj,zk,zl,zm,zn,zo,zp,zq,zr,zt,zu,zv,↓zw,↓zx,↓zy,↓zz,↓z9,↓ya,↓yb,↓yc,↓yd,↓ye,↓yf,↓yg,↓yh,↓yi,↓yj,↓yk,↓yl,↓ym,↓yn,↓yo,↓yp,↓eC,↓yq,↓eB,↓yr,↓yt,↓yu,↓yw,↓yx,↓yy,↓yz,↓y5,↓y6,↓y8,↓y9,↓xa,↓xb,↓xc,↓xg,↓xh,↓xi,↓xj,↓xk,↓xl,↓xm,↓xn,↓xo,↓xp,↓xq,↓xr,↓xt,↓xu,↓xy,↓xz,↓x5,↓x6,↓x7,↓x8,↓x9,↓wa,↓wb,↓wc,↓wd,↓we,↓wf,↓wg,↓wh,↓wj,↓wl,↓wm,↓wn,↓wo,↓wp,↓wq,↓wt,↓wu,wv,ww,wx,wy,wz,w3,w4,↓x9,↓wa,↓w6,↓x8,↓w7,↓w8,↓w9,va,vb,↓vc,↓vd,↓vf,↓vg,↓vh,↓vi,↓vj,↓vk,↓vm,↓vn,↓vo,↓vp,↓vq,↓vt,↓vv,↓vw,↓vx,↓vy,↓vz,↓v0,↓v3,↓v4,↓v5,↓v7,↓v8,↓v9,↓ua,↓ub,↓uc,↓ud,↓ue,↓uf,↓ug,↓uh,ui,uj,uk,ul,um,uo,uq,ur,ut,uu,uv,uw,ux,uy,uz,u2,u3,u5,u6,u7,u8,Option.bind_some,u9,tj,tm,tq,tv,tw,tz,t3,t8,t9,sf,true_and,beq_self_eq_true,Bool.false_eq_true,c0,c1,Int.cast_ofNat_Int,Int.reduceEq,Int.reduceLT,Int.reduceLE,Int.reduceAdd,Int.reduceSub,↓reduceIte]
          exact q
      · rw [decide_eq_false e1] at q ⊢
        try simp -dsimp only [↓za,↓zb,↓zc,↓zd,↓ze,↓zf,↓zg,zh,zi,List.map_cons,List.map_nil,List.length_cons,List.length_nil,List.replicate_succ,List.replicate_zero,List.cons_append,List.nil_append,Nat.reduceAdd,Nat.reduceSub,List.set_cons_zero,List.set_cons_succ,List.getElem?_cons_zero,List.getElem?_cons_succ,Bool.not_true,Bool.not_false,decide_true,decide_false,↓zj,↓zk,↓zl,↓zm,↓zn,↓zo,↓zp,↓zq,↓zr,↓zt,↓zu,↓zv,zj,zk,zl,zm,zn,zo,zp,zq,zr,zt,zu,zv,↓zw,↓zx,↓zy,↓zz,↓z9,↓ya,↓yb,↓yc,↓yd,↓ye,↓yf,↓yg,↓yh,↓yi,↓yj,↓yk,↓yl,↓ym,↓yn,↓yo,↓yp,↓eC,↓yq,↓eB,↓yr,↓yt,↓yu,↓yw,↓yx,↓yy,↓yz,↓y5,↓y6,↓y8,↓y9,↓xa,↓xb,↓xc,↓xg,↓xh,↓xi,↓xj,↓xk,↓xl,↓xm,↓xn,↓xo,↓xp,↓xq,↓xr,↓xt,↓xu,↓xy,↓xz,↓x5,↓x6,↓x7,↓x8,↓x9,↓wa,↓wb,↓wc,↓wd,↓we,↓wf,↓wg,↓wh,↓wj,↓wl,↓wm,↓wn,↓wo,↓wp,↓wq,↓wt,↓wu,wv,ww,wx,wy,wz,w3,w4,↓x9,↓wa,↓w6,↓x8,↓w7,↓w8,↓w9,va,vb,↓vc,↓vd,↓vf,↓vg,↓vh,↓vi,↓vj,↓vk,↓vm,↓vn,↓vo,↓vp,↓vq,↓vt,↓vv,↓vw,↓vx,↓vy,↓vz,↓v0,↓v3,↓v4,↓v5,↓v7,↓v8,↓v9,↓ua,↓ub,↓uc,↓ud,↓ue,↓uf,↓ug,↓uh,ui,uj,uk,ul,um,uo,uq,ur,ut,uu,uv,uw,ux,uy,uz,u2,u3,u5,u6,u7,u8,Option.bind_some,u9,tj,tm,tq,tv,tw,tz,t3,t8,t9,sf,true_and,beq_self_eq_true,Bool.false_eq_true,c0,c1,Int.cast_ofNat_Int,Int.reduceEq,Int.reduceLT,Int.reduceLE,Int.reduceAdd,Int.reduceSub,↓reduceIte]
        exact q
    · rw [decide_eq_false e0] at q ⊢
      try simp -dsimp only [↓za,↓zb,↓zc,↓zd,↓ze,↓zf,↓zg,zh,zi,List.map_cons,List.map_nil,List.length_cons,List.length_nil,List.replicate_succ,List.replicate_zero,List.cons_append,List.nil_append,Nat.reduceAdd,Nat.reduceSub,List.set_cons_zero,List.set_cons_succ,List.getElem?_cons_zero,List.getElem?_cons_succ,Bool.not_true,Bool.not_false,decide_true,decide_false,↓zj,↓zk,↓zl,↓zm,↓zn,↓zo,↓zp,↓zq,↓zr,↓zt,↓zu,↓zv,zj,zk,zl,zm,zn,zo,zp,zq,zr,zt,zu,zv,↓zw,↓zx,↓zy,↓zz,↓z9,↓ya,↓yb,↓yc,↓yd,↓ye,↓yf,↓yg,↓yh,↓yi,↓yj,↓yk,↓yl,↓ym,↓yn,↓yo,↓yp,↓eC,↓yq,↓eB,↓yr,↓yt,↓yu,↓yw,↓yx,↓yy,↓yz,↓y5,↓y6,↓y8,↓y9,↓xa,↓xb,↓xc,↓xg,↓xh,↓xi,↓xj,↓xk,↓xl,↓xm,↓xn,↓xo,↓xp,↓xq,↓xr,↓xt,↓xu,↓xy,↓xz,↓x5,↓x6,↓x7,↓x8,↓x9,↓wa,↓wb,↓wc,↓wd,↓we,↓wf,↓wg,↓wh,↓wj,↓wl,↓wm,↓wn,↓wo,↓wp,↓wq,↓wt,↓wu,wv,ww,wx,wy,wz,w3,w4,↓x9,↓wa,↓w6,↓x8,↓w7,↓w8,↓w9,va,vb,↓vc,↓vd,↓vf,↓vg,↓vh,↓vi,↓vj,↓vk,↓vm,↓vn,↓vo,↓vp,↓vq,↓vt,↓vv,↓vw,↓vx,↓vy,↓vz,↓v0,↓v3,↓v4,↓v5,↓v7,↓v8,↓v9,↓ua,↓ub,↓uc,↓ud,↓ue,↓uf,↓ug,↓uh,ui,uj,uk,ul,um,uo,uq,ur,ut,uu,uv,uw,ux,uy,uz,u2,u3,u5,u6,u7,u8,Option.bind_some,u9,tj,tm,tq,tv,tw,tz,t3,t8,t9,sf,true_and,beq_self_eq_true,Bool.false_eq_true,c0,c1,Int.cast_ofNat_Int,Int.reduceEq,Int.reduceLT,Int.reduceLE,Int.reduceAdd,Int.reduceSub,↓reduceIte]
      exact q
  | _ :: _ :: _ :: w, q =>
    have e : decide (((w.length + 1 + 1 + 1 : Nat) : Int) = 2) = false := decide_eq_false (by omega)
    try simp -dsimp only [↓za,↓zb,↓zc,↓zd,↓ze,↓zf,↓zg,zh,zi,List.map_cons,List.map_nil,List.length_cons,List.length_nil,List.replicate_succ,List.replicate_zero,List.cons_append,List.nil_append,Nat.reduceAdd,Nat.reduceSub,List.set_cons_zero,List.set_cons_succ,List.getElem?_cons_zero,List.getElem?_cons_succ,Bool.not_true,Bool.not_false,decide_true,decide_false,↓zj,↓zk,↓zl,↓zm,↓zn,↓zo,↓zp,↓zq,↓zr,↓zt,↓zu,↓zv,zj,zk,zl,zm,zn,zo,zp,zq,zr,zt,zu,zv,↓zw,↓zx,↓zy,↓zz,↓z9,↓ya,↓yb,↓yc,↓yd,↓ye,↓yf,↓yg,↓yh,↓yi,↓yj,↓yk,↓yl,↓ym,↓yn,↓yo,↓yp,↓eC,↓yq,↓eB,↓yr,↓yt,↓yu,↓yw,↓yx,↓yy,↓yz,↓y5,↓y6,↓y8,↓y9,↓xa,↓xb,↓xc,↓xg,↓xh,↓xi,↓xj,↓xk,↓xl,↓xm,↓xn,↓xo,↓xp,↓xq,↓xr,↓xt,↓xu,↓xy,↓xz,↓x5,↓x6,↓x7,↓x8,↓x9,↓wa,↓wb,↓wc,↓wd,↓we,↓wf,↓wg,↓wh,↓wj,↓wl,↓wm,↓wn,↓wo,↓wp,↓wq,↓wt,↓wu,wv,ww,wx,wy,wz,w3,w4,↓x9,↓wa,↓w6,↓x8,↓w7,↓w8,↓w9,va,vb,↓vc,↓vd,↓vf,↓vg,↓vh,↓vi,↓vj,↓vk,↓vm,↓vn,↓vo,↓vp,↓vq,↓vt,↓vv,↓vw,↓vx,↓vy,↓vz,↓v0,↓v3,↓v4,↓v5,↓v7,↓v8,↓v9,↓ua,↓ub,↓uc,↓ud,↓ue,↓uf,↓ug,↓uh,ui,uj,uk,ul,um,uo,uq,ur,ut,uu,uv,uw,ux,uy,uz,u2,u3,u5,u6,u7,u8,Option.bind_some,u9,tj,tm,tq,tv,tw,tz,t3,t8,t9,sf,true_and,beq_self_eq_true,Bool.false_eq_true,c0,c1,Int.cast_ofNat_Int,Int.reduceEq,Int.reduceLT,Int.reduceLE,Int.reduceAdd,Int.reduceSub,↓reduceIte, e]
    exact q
theorem b_is_act (ds : List D) (M : Mu) (Q : D → Mu → Prop) (xw : XW) (h : S_is_act ds M Q xw) : zh N_is_act f_is_act ds M Q xw := by
  obtain ⟨x, l, rfl, hx, q⟩ := h
  have q : Q (.bl (isAct l x)) (mres M M) := by rw [mres_self]; exact q
  simp only [zh, bodyL, zi, N_is_act, List.map_cons, List.map_nil, List.length_cons, List.length_nil, List.replicate_succ, List.replicate_zero, List.cons_append, List.nil_append, Nat.reduceAdd, Nat.reduceSub]
  unfold f_is_act
  cases x with
  | none =>
    unfold actD
    try simp -dsimp only [↓za,↓zb,↓zc,↓zd,↓ze,↓zf,↓zg,zh,zi,List.map_cons,List.map_nil,List.length_cons,List.length_nil,List.replicate_succ,List.replicate_zero,List.cons_append,List.nil_append,Nat.reduceAdd,Nat.reduceSub,List.set_cons_zero,List.set_cons_succ,List.getElem?_cons_zero,List.getElem?_cons_succ,Bool.not_true,Bool.not_false,decide_true,decide_false,↓zj,↓zk,↓zl,↓zm,↓zn,↓zo,↓zp,↓zq,↓zr,↓zt,↓zu,↓zv,zj,zk,zl,zm,zn,zo,zp,zq,zr,zt,zu,zv,↓zw,↓zx,↓zy,↓zz,↓z9,↓ya,↓yb,↓yc,↓yd,↓ye,↓yf,↓yg,↓yh,↓yi,↓yj,↓yk,↓yl,↓ym,↓yn,↓yo,↓yp,↓eC,↓yq,↓eB,↓yr,↓yt,↓yu,↓yw,↓yx,↓yy,↓yz,↓y5,↓y6,↓y8,↓y9,↓xa,↓xb,↓xc,↓xg,↓xh,↓xi,↓xj,↓xk,↓xl,↓xm,↓xn,↓xo,↓xp,↓xq,↓xr,↓xt,↓xu,↓xy,↓xz,↓x5,↓x6,↓x7,↓x8,↓x9,↓wa,↓wb,↓wc,↓wd,↓we,↓wf,↓wg,↓wh,↓wj,↓wl,↓wm,↓wn,↓wo,↓wp,↓wq,↓wt,↓wu,wv,ww,wx,wy,wz,w3,w4,↓x9,↓wa,↓w6,↓x8,↓w7,↓w8,↓w9,va,vb,↓vc,↓vd,↓vf,↓vg,↓vh,↓vi,↓vj,↓vk,↓vm,↓vn,↓vo,↓vp,↓vq,↓vt,↓vv,↓vw,↓vx,↓vy,↓vz,↓v0,↓v3,↓v4,↓v5,↓v7,↓v8,↓v9,↓ua,↓ub,↓uc,↓ud,↓ue,↓uf,↓ug,↓uh,ui,uj,uk,ul,um,uo,uq,ur,ut,uu,uv,uw,ux,uy,uz,u2,u3,u5,u6,u7,u8,Option.bind_some,u9,tj,tm,tq,tv,tw,tz,t3,t8,t9,sf,true_and,beq_self_eq_true,Bool.false_eq_true,c0,c1,Int.cast_ofNat_Int,Int.reduceEq,Int.reduceLT,Int.reduceLE,Int.reduceAdd,Int.reduceSub,↓reduceIte]
    exact ⟨by decide, by decide, by decide, q⟩
  | some x =>
    obtain ⟨s, x⟩ := x
    replace q : Q (.bl ((decide (s = "send") || decide (s = "take")) && (decide (0 ≤ x) && decide (x < l)))) (mres M M) := q
    unfold actD
    try simp -dsimp only [↓za,↓zb,↓zc,↓zd,↓ze,↓zf,↓zg,zh,zi,List.map_cons,List.map_nil,List.length_cons,List.length_nil,List.replicate_succ,List.replicate_zero,List.cons_append,List.nil_append,Nat.reduceAdd,Nat.reduceSub,List.set_cons_zero,List.set_cons_succ,List.getElem?_cons_zero,List.getElem?_cons_succ,Bool.not_true,Bool.not_false,decide_true,decide_false,↓zj,↓zk,↓zl,↓zm,↓zn,↓zo,↓zp,↓zq,↓zr,↓zt,↓zu,↓zv,zj,zk,zl,zm,zn,zo,zp,zq,zr,zt,zu,zv,↓zw,↓zx,↓zy,↓zz,↓z9,↓ya,↓yb,↓yc,↓yd,↓ye,↓yf,↓yg,↓yh,↓yi,↓yj,↓yk,↓yl,↓ym,↓yn,↓yo,↓yp,↓eC,↓yq,↓eB,↓yr,↓yt,↓yu,↓yw,↓yx,↓yy,↓yz,↓y5,↓y6,↓y8,↓y9,↓xa,↓xb,↓xc,↓xg,↓xh,↓xi,↓xj,↓xk,↓xl,↓xm,↓xn,↓xo,↓xp,↓xq,↓xr,↓xt,↓xu,↓xy,↓xz,↓x5,↓x6,↓x7,↓x8,↓x9,↓wa,↓wb,↓wc,↓wd,↓we,↓wf,↓wg,↓wh,↓wj,↓wl,↓wm,↓wn,↓wo,↓wp,↓wq,↓wt,↓wu,wv,ww,wx,wy,wz,w3,w4,↓x9,↓wa,↓w6,↓x8,↓w7,↓w8,↓w9,va,vb,↓vc,↓vd,↓vf,↓vg,↓vh,↓vi,↓vj,↓vk,↓vm,↓vn,↓vo,↓vp,↓vq,↓vt,↓vv,↓vw,↓vx,↓vy,↓vz,↓v0,↓v3,↓v4,↓v5,↓v7,↓v8,↓v9,↓ua,↓ub,↓uc,↓ud,↓ue,↓uf,↓ug,↓uh,ui,uj,uk,ul,um,uo,uq,ur,ut,uu,uv,uw,ux,uy,uz,u2,u3,u5,u6,u7,u8,Option.bind_some,u9,tj,tm,tq,tv,tw,tz,t3,t8,t9,sf,true_and,beq_self_eq_true,Bool.false_eq_true,c0,c1,Int.cast_ofNat_Int,Int.reduceEq,Int.reduceLT,Int.reduceLE,Int.reduceAdd,Int.reduceSub,↓reduceIte]
    have ds : ∀ n, dle n (.str s) = true := fun n => dle_str' hx
    have dt : dle 60 (.tup [.str s, .int x]) = true := by
      rw [dle_t60, List.all_cons, List.all_cons, List.all_nil, ds, uw]
      rfl
    refine ⟨by decide, dt, rfl, ?_⟩
    rw [show eqD (.tup [.str s, .int x]) (.tup []) = false from rfl]
    try simp -dsimp only [↓za,↓zb,↓zc,↓zd,↓ze,↓zf,↓zg,zh,zi,List.map_cons,List.map_nil,List.length_cons,List.length_nil,List.replicate_succ,List.replicate_zero,List.cons_append,List.nil_append,Nat.reduceAdd,Nat.reduceSub,List.set_cons_zero,List.set_cons_succ,List.getElem?_cons_zero,List.getElem?_cons_succ,Bool.not_true,Bool.not_false,decide_true,decide_false,↓zj,↓zk,↓zl,↓zm,↓zn,↓zo,↓zp,↓zq,↓zr,↓zt,↓zu,↓zv,zj,zk,zl,zm,zn,zo,zp,zq,zr,zt,zu,zv,↓zw,↓zx,↓zy,↓zz,↓z9,↓ya,↓yb,↓yc,↓yd,↓ye,↓yf,↓yg,↓yh,↓yi,↓yj,↓yk,↓yl,↓ym,↓yn,↓yo,↓yp,↓eC,↓yq,↓eB,↓yr,↓yt,↓yu,↓yw,↓yx,↓yy,↓yz,↓y5,↓y6,↓y8,↓y9,↓xa,↓xb,↓xc,↓xg,↓xh,↓xi,↓xj,↓xk,↓xl,↓xm,↓xn,↓xo,↓xp,↓xq,↓xr,↓xt,↓xu,↓xy,↓xz,↓x5,↓x6,↓x7,↓x8,↓x9,↓wa,↓wb,↓wc,↓wd,↓we,↓wf,↓wg,↓wh,↓wj,↓wl,↓wm,↓wn,↓wo,↓wp,↓wq,↓wt,↓wu,wv,ww,wx,wy,wz,w3,w4,↓x9,↓wa,↓w6,↓x8,↓w7,↓w8,↓w9,va,vb,↓vc,↓vd,↓vf,↓vg,↓vh,↓vi,↓vj,↓vk,↓vm,↓vn,↓vo,↓vp,↓vq,↓vt,↓vv,↓vw,↓vx,↓vy,↓vz,↓v0,↓v3,↓v4,↓v5,↓v7,↓v8,↓v9,↓ua,↓ub,↓uc,↓ud,↓ue,↓uf,↓ug,↓uh,ui,uj,uk,ul,um,uo,uq,ur,ut,uu,uv,uw,ux,uy,uz,u2,u3,u5,u6,u7,u8,Option.bind_some,u9,tj,tm,tq,tv,tw,tz,t3,t8,t9,sf,true_and,beq_self_eq_true,Bool.false_eq_true,c0,c1,Int.cast_ofNat_Int,Int.reduceEq,Int.reduceLT,Int.reduceLE,Int.reduceAdd,Int.reduceSub,↓reduceIte]
    refine ⟨by decide, ds _, by decide +kernel, ?_⟩
    rw [show ([D.str (Str.ofString "send"), D.str (Str.ofString "take")].any fun y => eqD y (D.str s)) = (decide (s = "send") || decide (s = "take")) by
      rw [List.any_cons, List.any_cons, List.any_nil, eqD_s, eqD_s, Bool.or_false]
      congr 1 <;> exact decide_eq_decide.mpr ⟨Eq.symm, Eq.symm⟩]
    by_cases e1 : (decide (s = "send") || decide (s = "take")) = true
    · rw [e1] at q ⊢
      try simp -dsimp only [↓za,↓zb,↓zc,↓zd,↓ze,↓zf,↓zg,zh,zi,List.map_cons,List.map_nil,List.length_cons,List.length_nil,List.replicate_succ,List.replicate_zero,List.cons_append,List.nil_append,Nat.reduceAdd,Nat.reduceSub,List.set_cons_zero,List.set_cons_succ,List.getElem?_cons_zero,List.getElem?_cons_succ,Bool.not_true,Bool.not_false,decide_true,decide_false,↓zj,↓zk,↓zl,↓zm,↓zn,↓zo,↓zp,↓zq,↓zr,↓zt,↓zu,↓zv,zj,zk,zl,zm,zn,zo,zp,zq,zr,zt,zu,zv,↓zw,↓zx,↓zy,↓zz,↓z9,↓ya,↓yb,↓yc,↓yd,↓ye,↓yf,↓yg,↓yh,↓yi,↓yj,↓yk,↓yl,↓ym,↓yn,↓yo,↓yp,↓eC,↓yq,↓eB,↓yr,↓yt,↓yu,↓yw,↓yx,↓yy,↓yz,↓y5,↓y6,↓y8,↓y9,↓xa,↓xb,↓xc,↓xg,↓xh,↓xi,↓xj,↓xk,↓xl,↓xm,↓xn,↓xo,↓xp,↓xq,↓xr,↓xt,↓xu,↓xy,↓xz,↓x5,↓x6,↓x7,↓x8,↓x9,↓wa,↓wb,↓wc,↓wd,↓we,↓wf,↓wg,↓wh,↓wj,↓wl,↓wm,↓wn,↓wo,↓wp,↓wq,↓wt,↓wu,wv,ww,wx,wy,wz,w3,w4,↓x9,↓wa,↓w6,↓x8,↓w7,↓w8,↓w9,va,vb,↓vc,↓vd,↓vf,↓vg,↓vh,↓vi,↓vj,↓vk,↓vm,↓vn,↓vo,↓vp,↓vq,↓vt,↓vv,↓vw,↓vx,↓vy,↓vz,↓v0,↓v3,↓v4,↓v5,↓v7,↓v8,↓v9,↓ua,↓ub,↓uc,↓ud,↓ue,↓uf,↓ug,↓uh,ui,uj,uk,ul,um,uo,uq,ur,ut,uu,uv,uw,ux,uy,uz,u2,u3,u5,u6,u7,u8,Option.bind_some,u9,tj,tm,tq,tv,tw,tz,t3,t8,t9,sf,true_and,beq_self_eq_true,Bool.false_eq_true,c0,c1,Int.cast_ofNat_Int,Int.reduceEq,Int.reduceLT,Int.reduceLE,Int.reduceAdd,Int.reduceSub,↓reduceIte]
      by_cases e2 : 0 ≤ x
      · rw [decide_eq_true e2] at q ⊢
        try simp -dsimp only [↓za,↓zb,↓zc,↓zd,↓ze,↓zf,↓zg,zh,zi,List.map_cons,List.map_nil,List.length_cons,List.length_nil,List.replicate_succ,List.replicate_zero,List.cons_append,List.nil_append,Nat.reduceAdd,Nat.reduceSub,List.set_cons_zero,List.set_cons_succ,List.getElem?_cons_zero,List.getElem?_cons_succ,Bool.not_true,Bool.not_false,decide_true,decide_false,↓zj,↓zk,↓zl,↓zm,↓zn,↓zo,↓zp,↓zq,↓zr,↓zt,↓zu,↓zv,zj,zk,zl,zm,zn,zo,zp,zq,zr,zt,zu,zv,↓zw,↓zx,↓zy,↓zz,↓z9,↓ya,↓yb,↓yc,↓yd,↓ye,↓yf,↓yg,↓yh,↓yi,↓yj,↓yk,↓yl,↓ym,↓yn,↓yo,↓yp,↓eC,↓yq,↓eB,↓yr,↓yt,↓yu,↓yw,↓yx,↓yy,↓yz,↓y5,↓y6,↓y8,↓y9,↓xa,↓xb,↓xc,↓xg,↓xh,↓xi,↓xj,↓xk,↓xl,↓xm,↓xn,↓xo,↓xp,↓xq,↓xr,↓xt,↓xu,↓xy,↓xz,↓x5,↓x6,↓x7,↓x8,↓x9,↓wa,↓wb,↓wc,↓wd,↓we,↓wf,↓wg,↓wh,↓wj,↓wl,↓wm,↓wn,↓wo,↓wp,↓wq,↓wt,↓wu,wv,ww,wx,wy,wz,w3,w4,↓x9,↓wa,↓w6,↓x8,↓w7,↓w8,↓w9,va,vb,↓vc,↓vd,↓vf,↓vg,↓vh,↓vi,↓vj,↓vk,↓vm,↓vn,↓vo,↓vp,↓vq,↓vt,↓vv,↓vw,↓vx,↓vy,↓vz,↓v0,↓v3,↓v4,↓v5,↓v7,↓v8,↓v9,↓ua,↓ub,↓uc,↓ud,↓ue,↓uf,↓ug,↓uh,ui,uj,uk,ul,um,uo,uq,ur,ut,uu,uv,uw,ux,uy,uz,u2,u3,u5,u6,u7,u8,Option.bind_some,u9,tj,tm,tq,tv,tw,tz,t3,t8,t9,sf,true_and,beq_self_eq_true,Bool.false_eq_true,c0,c1,Int.cast_ofNat_Int,Int.reduceEq,Int.reduceLT,Int.reduceLE,Int.reduceAdd,Int.reduceSub,↓reduceIte]
        exact q
      · rw [decide_eq_false e2] at q ⊢
        try simp -dsimp only [↓za,↓zb,↓zc,↓zd,↓ze,↓zf,↓zg,zh,zi,List.map_cons,List.map_nil,List.length_cons,List.length_nil,List.replicate_succ,List.replicate_zero,List.cons_append,List.nil_append,Nat.reduceAdd,Nat.reduceSub,List.set_cons_zero,List.set_cons_succ,List.getElem?_cons_zero,List.getElem?_cons_succ,Bool.not_true,Bool.not_false,decide_true,decide_false,↓zj,↓zk,↓zl,↓zm,↓zn,↓zo,↓zp,↓zq,↓zr,↓zt,↓zu,↓zv,zj,zk,zl,zm,zn,zo,zp,zq,zr,zt,zu,zv,↓zw,↓zx,↓zy,↓zz,↓z9,↓ya,↓yb,↓yc,↓yd,↓ye,↓yf,↓yg,↓yh,↓yi,↓yj,↓yk,↓yl,↓ym,↓yn,↓yo,↓yp,↓eC,↓yq,↓eB,↓yr,↓yt,↓yu,↓yw,↓yx,↓yy,↓yz,↓y5,↓y6,↓y8,↓y9,↓xa,↓xb,↓xc,↓xg,↓xh,↓xi,↓xj,↓xk,↓xl,↓xm,↓xn,↓xo,↓xp,↓xq,↓xr,↓xt,↓xu,↓xy,↓xz,↓x5,↓x6,↓x7,↓x8,↓x9,↓wa,↓wb,↓wc,↓wd,↓we,↓wf,↓wg,↓wh,↓wj,↓wl,↓wm,↓wn,↓wo,↓wp,↓wq,↓wt,↓wu,wv,ww,wx,wy,wz,w3,w4,↓x9,↓wa,↓w6,↓x8,↓w7,↓w8,↓w9,va,vb,↓vc,↓vd,↓vf,↓vg,↓vh,↓vi,↓vj,↓vk,↓vm,↓vn,↓vo,↓vp,↓vq,↓vt,↓vv,↓vw,↓vx,↓vy,↓vz,↓v0,↓v3,↓v4,↓v5,↓v7,↓v8,↓v9,↓ua,↓ub,↓uc,↓ud,↓ue,↓uf,↓ug,↓uh,ui,uj,uk,ul,um,uo,uq,ur,ut,uu,uv,uw,ux,uy,uz,u2,u3,u5,u6,u7,u8,Option.bind_some,u9,tj,tm,tq,tv,tw,tz,t3,t8,t9,sf,true_and,beq_self_eq_true,Bool.false_eq_true,c0,c1,Int.cast_ofNat_Int,Int.reduceEq,Int.reduceLT,Int.reduceLE,Int.reduceAdd,Int.reduceSub,↓reduceIte]
        exact q
    · rw [Bool.not_eq_true] at e1
      rw [e1] at q ⊢
      try simp -dsimp only [↓za,↓zb,↓zc,↓zd,↓ze,↓zf,↓zg,zh,zi,List.map_cons,List.map_nil,List.length_cons,List.length_nil,List.replicate_succ,List.replicate_zero,List.cons_append,List.nil_append,Nat.reduceAdd,Nat.reduceSub,List.set_cons_zero,List.set_cons_succ,List.getElem?_cons_zero,List.getElem?_cons_succ,Bool.not_true,Bool.not_false,decide_true,decide_false,↓zj,↓zk,↓zl,↓zm,↓zn,↓zo,↓zp,↓zq,↓zr,↓zt,↓zu,↓zv,zj,zk,zl,zm,zn,zo,zp,zq,zr,zt,zu,zv,↓zw,↓zx,↓zy,↓zz,↓z9,↓ya,↓yb,↓yc,↓yd,↓ye,↓yf,↓yg,↓yh,↓yi,↓yj,↓yk,↓yl,↓ym,↓yn,↓yo,↓yp,↓eC,↓yq,↓eB,↓yr,↓yt,↓yu,↓yw,↓yx,↓yy,↓yz,↓y5,↓y6,↓y8,↓y9,↓xa,↓xb,↓xc,↓xg,↓xh,↓xi,↓xj,↓xk,↓xl,↓xm,↓xn,↓xo,↓xp,↓xq,↓xr,↓xt,↓xu,↓xy,↓xz,↓x5,↓x6,↓x7,↓x8,↓x9,↓wa,↓wb,↓wc,↓wd,↓we,↓wf,↓wg,↓wh,↓wj,↓wl,↓wm,↓wn,↓wo,↓wp,↓wq,↓wt,↓wu,wv,ww,wx,wy,wz,w3,w4,↓x9,↓wa,↓w6,↓x8,↓w7,↓w8,↓w9,va,vb,↓vc,↓vd,↓vf,↓vg,↓vh,↓vi,↓vj,↓vk,↓vm,↓vn,↓vo,↓vp,↓vq,↓vt,↓vv,↓vw,↓vx,↓vy,↓vz,↓v0,↓v3,↓v4,↓v5,↓v7,↓v8,↓v9,↓ua,↓ub,↓uc,↓ud,↓ue,↓uf,↓ug,↓uh,ui,uj,uk,ul,um,uo,uq,ur,ut,uu,uv,uw,ux,uy,uz,u2,u3,u5,u6,u7,u8,Option.bind_some,u9,tj,tm,tq,tv,tw,tz,t3,t8,t9,sf,true_and,beq_self_eq_true,Bool.false_eq_true,c0,c1,Int.cast_ofNat_Int,Int.reduceEq,Int.reduceLT,Int.reduceLE,Int.reduceAdd,Int.reduceSub,↓reduceIte]
      exact q
theorem forS_en {α : Type} {i0 i1 : Nat} {f : FS} {E : FEnds} {k0 : Int} {enc : α → D} {xs : List α} {ρ : Env'} {M : Mu} (I : Nat → Env' → Mu → Prop) (h0 : I 0 ρ M)
    (step : ∀ k x ρ M, xs[k]? = some x → I k ρ M → ∀ nn cc : Env' → Mu → Prop, (∀ ρ M, I (k + 1) ρ M → nn ρ M) → (∀ ρ M, I (k + 1) ρ M → cc ρ M) → f { nx := nn, rt := E.rt, bk := E.nx, ct := cc, xw := E.xw } ((ρ.set i0 (some (.int (k0 + (k : Nat))))).set i1 (some (enc x))) M)
    (done : ∀ ρ M, I xs.length ρ M → E.nx ρ M) : ForS (bTup 2 (bCons (bNm i0) (bCons (bNm i1) bNil))) f (enD k0 (xs.map enc)) (.mk : Ky E) ρ M := by
  have hd : ∀ (xs : List α) (k : Int), enD k (xs.map enc) = (xs.zipIdx.map fun p => D.tup [.int (k + (p.2 : Nat)), enc p.1]) := fun xs k => by
    refine List.ext_getElem? fun n => ?_
    rw [enD_get, List.getElem?_map, List.getElem?_map, List.getElem?_zipIdx]
    cases xs[n]? with
    | none => rfl
    | some x => simp
  rw [hd]
  refine forS_ind (fun rest ρ M => ∃ k, k ≤ xs.length ∧ rest = ((xs.zipIdx).drop k).map (fun p => D.tup [.int (k0 + (p.2 : Nat)), enc p.1]) ∧ I k ρ M) ?_ ?_ _ _ _ ⟨0, Nat.zero_le _, rfl, h0⟩
  · rintro d rest ρ M ⟨k, hk, e, hI⟩
    have hlt : k < xs.length := by
      rcases Nat.lt_or_ge k xs.length with h | h
      · exact h
      · rw [List.drop_of_length_le (by rw [List.length_zipIdx]; exact h)] at e; cases e
    rw [List.drop_eq_getElem_cons (by rw [List.length_zipIdx]; exact hlt), List.map_cons, List.getElem_zipIdx] at e
    cases e
    refine ⟨_, rfl, fun nn cc h1 h2 => ?_⟩
    have := step k xs[k] ρ M (List.getElem?_eq_getElem hlt) hI nn cc (fun ρ M h => h1 _ _ ⟨k + 1, hlt, rfl, h⟩) (fun ρ M h => h2 _ _ ⟨k + 1, hlt, rfl, h⟩)
    simpa using this
  · rintro ρ M ⟨k, hk, e, hI⟩
    have : k = xs.length := by
      rcases Nat.lt_or_ge k xs.length with h | h
      · rw [List.drop_eq_getElem_cons (by rw [List.length_zipIdx]; exact h)] at e; cases e
      · omega
    subst this
    exact done ρ M hI
theorem badAt_cons {m : RM} {r : RRule} {rs : List RRule} {k : Int} : badAt m (r :: rs) k = if isRule m r = true then badAt m rs (k + 1) else .tup [.str "rule", .int k] := rfl
theorem badAt_drop (m : RM) : ∀ (rs : List RRule) (k : Nat) (z : Int), (∀ j r, j < k → rs[j]? = some r → isRule m r = true) → k ≤ rs.length → badAt m rs z = badAt m (rs.drop k) (z + (k : Nat))
  | rs, 0, z, _, _ => by rw [List.drop_zero]; show _ = badAt m rs (z + 0); rw [Int.add_zero]
  | [], k + 1, z, _, h => by simp at h
  | r :: rs, k + 1, z, hg, h => by
    have h0 : isRule m r = true := hg 0 r (by omega) rfl
    rw [badAt_cons, if_pos h0, List.drop_succ_cons, badAt_drop m rs k (z + 1) (fun j r hj e => hg (j + 1) r (by omega) e) (by simpa using h)]
    rw [show z + 1 + (k : Int) = z + ((k + 1 : Nat) : Int) by omega]
theorem bad_one {m : RM} {rs : List RRule} {k : Nat} {r : RRule} (hg : ∀ j r, j < k → rs[j]? = some r → isRule m r = true) (hk : rs[k]? = some r) (hb : isRule m r = false) : badAt m rs 0 = .tup [.str "rule", .int (0 + (k : Nat))] := by
  have hlt : k < rs.length := (List.getElem?_eq_some_iff.mp hk).1
  rw [badAt_drop m rs k 0 hg (by omega), List.drop_eq_getElem_cons hlt]
  have e : rs[k] = r := by rw [List.getElem?_eq_getElem hlt] at hk; exact Option.some.inj hk
  rw [e, badAt_cons, hb, if_neg Bool.false_ne_true]
theorem bad_none {m : RM} {rs : List RRule} (hg : ∀ j r, j < rs.length → rs[j]? = some r → isRule m r = true) : badAt m rs 0 = .non := by
  rw [badAt_drop m rs rs.length 0 hg (Nat.le_refl _), List.drop_of_length_le (Nat.le_refl _)]
  rfl
end U

set_option Elab.async false
set_option linter.all false
set_option maxRecDepth 100000
set_option maxHeartbeats 1000000
/-! V15: what is wrong with a machine, told by the laws; machines drawn have no fault. -/
namespace U
open PySem PySem.Spec PyProof.Rows L2
theorem forS_chk {α : Type} {i0 : Nat} {f : FS} {E : FEnds} {enc : α → D} {xs : List α} {ρ : Env'} {M : Mu} (P : α → Bool) (h0 : ∃ o, ρ = ρ.set i0 o)
    (step : ∀ x ∈ xs, ∀ nn cc : Env' → Mu → Prop, (P x = true → nn (ρ.set i0 (some (enc x))) M) → f { nx := nn, rt := E.rt, bk := E.nx, ct := cc, xw := E.xw } (ρ.set i0 (some (enc x))) M)
    (done : xs.all P = true → ∀ o, E.nx (ρ.set i0 o) M) : ForS (bNm i0) f (xs.map enc) (.mk : Ky E) ρ M := by
  refine forS_ind (fun rest ρ' M' => M = M' ∧ (∃ o, ρ' = ρ.set i0 o) ∧ ∃ pre suf, pre ++ suf = xs ∧ rest = suf.map enc ∧ pre.all P = true) ?_ ?_ _ _ _ ⟨rfl, h0, [], xs, rfl, rfl, rfl⟩
  · rintro d rest ρ' M' ⟨rfl, ⟨o, rfl⟩, pre, suf, h1, h2, h3⟩
    cases suf with
    | nil => cases h2
    | cons x suf =>
      cases h2
      refine ⟨_, rfl, fun nn cc h4 h5 => ?_⟩
      have hx : x ∈ xs := by rw [← h1]; simp
      rw [List.set_set]
      refine step x hx nn cc fun hp => h4 _ _ ⟨rfl, ⟨_, rfl⟩, pre ++ [x], suf, by rw [List.append_assoc]; exact h1, rfl, ?_⟩
      rw [List.all_append, h3, List.all_cons, hp]
      rfl
  · rintro ρ' M' ⟨rfl, ⟨o, rfl⟩, pre, suf, h1, h2, h3⟩
    cases suf with
    | cons => cases h2
    | nil =>
      rw [List.append_nil] at h1
      subst h1
      exact done h3 o
def WdR (k : Int) (r : RRule) : Prop := r.ok ∧ (r.n.length : Int) ≤ k ∧ (r.p.length : Int) ≤ k ∧ (r.g.length : Int) ≤ k ∧ (r.c.length : Int) ≤ k
def Wd (k : Int) (m : RM) : Prop := (-k ≤ m.m ∧ m.m ≤ k) ∧ (-k ≤ m.c ∧ m.c ≤ k) ∧ (-k ≤ m.q ∧ m.q ≤ k) ∧ (-k ≤ m.l ∧ m.l ≤ k) ∧ (m.r.length : Int) ≤ k ∧ ∀ r ∈ m.r, WdR k r
theorem WdR.mono {k k' : Int} {r : RRule} (h : WdR k r) (e : k ≤ k') : WdR k' r := ⟨h.1, by have := h.2.1; omega, by have := h.2.2.1; omega, by have := h.2.2.2.1; omega, by have := h.2.2.2.2; omega⟩
theorem Wd.mono {k k' : Int} {m : RM} (h : Wd k m) (e : k ≤ k') : Wd k' m := by
  obtain ⟨h1, h2, h3, h4, h5, h6⟩ := h
  exact ⟨by omega, by omega, by omega, by omega, by omega, fun r hr => (h6 r hr).mono e⟩
theorem Wd.ok {k : Int} {m : RM} (h : Wd k m) : m.ok := fun r hr => (h.2.2.2.2.2 r hr).1
/-! what is wrong -/
theorem rl_wd {sh : Shp} {r : Rule} {k : Int} (h : okRl sh r) (hc : sh.c ≤ k) (hq : sh.q ≤ k) : WdR k r.raw := by
  obtain ⟨_, ⟨h1, _⟩, ⟨h2, _⟩, ⟨h3, _⟩, ⟨h4, h5⟩, _⟩ := h
  refine ⟨fun x hx => ?_, by show (r.n.length : Int) ≤ k; omega, by show ((r.p.map _).length : Int) ≤ k; rw [List.length_map]; omega, by show (r.g.length : Int) ≤ k; omega, by show (r.c.length : Int) ≤ k; omega⟩
  have := h5 x hx
  cases x with
  | none => trivial
  | some x =>
    rcases this.1 with e | e <;> (show PyData.strOk x.1 = true; rw [e]; decide +kernel)
theorem rule_ok {sh : Shp} {r : Rule} {X : List RRule} (h : okRl sh r) : isRule ⟨sh.m, sh.c, sh.q, sh.l, X⟩ r.raw = true := by
  obtain ⟨⟨a0, a1⟩, ⟨n0, n1⟩, ⟨p0, p1⟩, ⟨g0, g1⟩, ⟨c0, c1⟩, z0, z1⟩ := h
  have num : ∀ w : List Int, (w.length : Int) = sh.c → (∀ x ∈ w, 0 ≤ x ∧ x ≤ 2) → areNum w sh.c = true := fun w h1 h2 => by
    unfold areNum
    rw [decide_eq_true h1, Bool.true_and, List.all_eq_true]
    intro x hx
    have := h2 x hx
    rw [decide_eq_true this.1, decide_eq_true (show x ≤ 20 by omega)]
    rfl
  have hp : (r.raw.p.all (isPour sh.c)) = true := by
    show ((r.p.map fun p => [p.1, p.2]).all (isPour sh.c)) = true
    rw [List.all_map, List.all_eq_true]
    intro x hx
    obtain ⟨⟨h0, h1⟩, h2, h3, h4⟩ := p1 x hx
    show (decide (-1 ≤ x.1) && decide (x.1 < sh.c) && (decide (1 ≤ x.2) && decide (x.2 ≤ 3))) = true
    rw [decide_eq_true h1, decide_eq_true h2, decide_eq_true h3, decide_eq_true h4]
    rfl
  have hc : (r.c.all (isAct sh.l)) = true := by
    rw [List.all_eq_true]
    intro x hx
    have := c1 x hx
    cases x with
    | none => rfl
    | some x =>
      obtain ⟨h1, h2, h3⟩ := this
      show ((decide (x.1 = "send") || decide (x.1 = "take")) && (decide (0 ≤ x.2) && decide (x.2 < sh.l))) = true
      rw [decide_eq_true h2, decide_eq_true h3]
      rcases h1 with h1 | h1
      · rw [decide_eq_true h1]; rfl
      · rw [decide_eq_true h1, Bool.or_true]; rfl
  have hl : (r.raw.p.length : Int) = sh.c := by
    show ((r.p.map _).length : Int) = sh.c
    rw [List.length_map]
    exact p0
  unfold isRule
  rw [hp, decide_eq_true hl]
  show ((decide (0 ≤ r.a) && decide (r.a < sh.m)) && (decide (0 ≤ r.z) && decide (r.z < sh.m)) && areNum r.n sh.c && areNum r.g sh.c && true && true && decide ((r.c.length : Int) = sh.q) && r.c.all (isAct sh.l)) = true
  rw [num _ n0 n1, num _ g0 g1, hc, decide_eq_true a0, decide_eq_true a1, decide_eq_true z0, decide_eq_true z1, decide_eq_true c0]
  rfl
theorem fault_ok {sh : Shp} {rs : List RRule} (h : okSh sh) (hl : rs.length ≤ 20) (hr : ∀ r ∈ rs, isRule ⟨sh.m, sh.c, sh.q, sh.l, rs⟩ r = true) : faultD ⟨sh.m, sh.c, sh.q, sh.l, rs⟩ = .non := by
  obtain ⟨h1, h2, h3, h4, h5, h6, h7, h8⟩ := h
  unfold faultD
  rw [if_neg (not_not_intro ⟨h1, h2⟩), if_neg (not_not_intro ⟨h3, h4⟩), if_neg (not_not_intro ⟨h5, h6⟩), if_neg (not_not_intro ⟨h7, h8⟩), if_neg (by show ¬ 20 < rs.length; omega)]
  exact bad_none fun j r _ e => hr r (List.mem_of_getElem? e)
theorem mch_wd {m : Mch} (h : okM 4 m) : Wd 20 m.raw := by
  obtain ⟨hs, h1, h2⟩ := h
  obtain ⟨s1, s2, s3, s4, s5, s6, s7, s8⟩ := hs
  refine ⟨by show -20 ≤ m.s.m ∧ m.s.m ≤ 20; omega, by show -20 ≤ m.s.c ∧ m.s.c ≤ 20; omega, by show -20 ≤ m.s.q ∧ m.s.q ≤ 20; omega, by show -20 ≤ m.s.l ∧ m.s.l ≤ 20; omega, by show ((m.r.map Rule.raw).length : Int) ≤ 20; rw [List.length_map]; omega, fun r hr => ?_⟩
  obtain ⟨r, hr2, rfl⟩ := List.mem_map.mp hr
  exact rl_wd (h2 r hr2) (by omega) (by omega)
end U

set_option Elab.async false
set_option linter.all false
set_option maxRecDepth 100000
set_option maxHeartbeats 1000000
/-! V98: the fault of a machine whose rules may stand in a list (from V9's bodies). -/
namespace U
open PySem PySem.Spec PyProof.Rows L2
def S_is_ruleX : FSpec := fun ds M Q _ => ∃ (m : RM) (r : RRule) (X : D), ds = [.tup [.int m.m, .int m.c, .int m.q, .int m.l, X], rrD r] ∧ r.ok ∧ Q (.bl (isRule m r)) M
def S_faultX : FSpec := fun ds M Q _ => ∃ (m : RM) (X : D), ds = [.tup [.int m.m, .int m.c, .int m.q, .int m.l, X]] ∧ (X = .tup (m.r.map rrD) ∨ X = .lst (m.r.map rrD)) ∧ m.ok ∧ Q (faultD m) M
theorem b_is_ruleX (ds : List D) (M : Mu) (Q : D → Mu → Prop) (xw : XW) (h : S_is_ruleX ds M Q xw) : zh N_is_rule (f_is_rule S_are_numbers S_is_pour S_is_act) ds M Q xw := by
  obtain ⟨m, r, X, rfl, hr, q⟩ := h
  have q : Q (.bl (isRule m r)) (mres M M) := by rw [mres_self]; exact q
  obtain ⟨m, c, qq, l, rs⟩ := m
  obtain ⟨a, n, p, g, cs, z⟩ := r
  unfold isRule at q
  dsimp only at q
  simp only [zh, bodyL, zi, N_is_rule, List.map_cons, List.map_nil, List.length_cons, List.length_nil, List.replicate_succ, List.replicate_zero, List.cons_append, List.nil_append, Nat.reduceAdd, Nat.reduceSub]
  unfold f_is_rule
  rw [rr_mk]
  try simp -dsimp only [↓za,↓zb,↓zc,↓zd,↓ze,↓zf,↓zg,zh,zi,List.map_cons,List.map_nil,List.length_cons,List.length_nil,List.replicate_succ,List.replicate_zero,List.cons_append,List.nil_append,Nat.reduceAdd,Nat.reduceSub,List.set_cons_zero,List.set_cons_succ,List.getElem?_cons_zero,List.getElem?_cons_succ,Bool.not_true,Bool.not_false,decide_true,decide_false,↓zj,↓zk,↓zl,↓zm,↓zn,↓zo,↓zp,↓zq,↓zr,↓zt,↓zu,↓zv,zj,zk,zl,zm,zn,zo,zp,zq,zr,zt,zu,zv,↓zw,↓zx,↓zy,↓zz,↓z9,↓ya,↓yb,↓yc,↓yd,↓ye,↓yf,↓yg,↓yh,↓yi,↓yj,↓yk,↓yl,↓ym,↓yn,↓yo,↓yp,↓eC,↓yq,↓eB,↓yr,↓yt,↓yu,↓yw,↓yx,↓yy,↓yz,↓y5,↓y6,↓y8,↓y9,↓xa,↓xb,↓xc,↓xg,↓xh,↓xi,↓xj,↓xk,↓xl,↓xm,↓xn,↓xo,↓xp,↓xq,↓xr,↓xt,↓xu,↓xy,↓xz,↓x5,↓x6,↓x7,↓x8,↓x9,↓wa,↓wb,↓wc,↓wd,↓we,↓wf,↓wg,↓wh,↓wj,↓wl,↓wm,↓wn,↓wo,↓wp,↓wq,↓wt,↓wu,wv,ww,wx,wy,wz,w3,w4,↓x9,↓wa,↓w6,↓x8,↓w7,↓w8,↓w9,va,vb,↓vc,↓vd,↓vf,↓vg,↓vh,↓vi,↓vj,↓vk,↓vm,↓vn,↓vo,↓vp,↓vq,↓vt,↓vv,↓vw,↓vx,↓vy,↓vz,↓v0,↓v3,↓v4,↓v5,↓v7,↓v8,↓v9,↓ua,↓ub,↓uc,↓ud,↓ue,↓uf,↓ug,↓uh,ui,uj,uk,ul,um,uo,uq,ur,ut,uu,uv,uw,ux,uy,uz,u2,u3,u5,u6,u7,u8,Option.bind_some,u9,tj,tm,tq,tv,tw,tz,t3,t8,t9,sf,true_and,beq_self_eq_true,Bool.false_eq_true,c0,c1,Int.cast_ofNat_Int,Int.reduceEq,Int.reduceLT,Int.reduceLE,Int.reduceAdd,Int.reduceSub,↓reduceIte]
  by_cases e1 : 0 ≤ a
  · rw [decide_eq_true e1] at q ⊢
    try simp -dsimp only [↓za,↓zb,↓zc,↓zd,↓ze,↓zf,↓zg,zh,zi,List.map_cons,List.map_nil,List.length_cons,List.length_nil,List.replicate_succ,List.replicate_zero,List.cons_append,List.nil_append,Nat.reduceAdd,Nat.reduceSub,List.set_cons_zero,List.set_cons_succ,List.getElem?_cons_zero,List.getElem?_cons_succ,Bool.not_true,Bool.not_false,decide_true,decide_false,↓zj,↓zk,↓zl,↓zm,↓zn,↓zo,↓zp,↓zq,↓zr,↓zt,↓zu,↓zv,zj,zk,zl,zm,zn,zo,zp,zq,zr,zt,zu,zv,↓zw,↓zx,↓zy,↓zz,↓z9,↓ya,↓yb,↓yc,↓yd,↓ye,↓yf,↓yg,↓yh,↓yi,↓yj,↓yk,↓yl,↓ym,↓yn,↓yo,↓yp,↓eC,↓yq,↓eB,↓yr,↓yt,↓yu,↓yw,↓yx,↓yy,↓yz,↓y5,↓y6,↓y8,↓y9,↓xa,↓xb,↓xc,↓xg,↓xh,↓xi,↓xj,↓xk,↓xl,↓xm,↓xn,↓xo,↓xp,↓xq,↓xr,↓xt,↓xu,↓xy,↓xz,↓x5,↓x6,↓x7,↓x8,↓x9,↓wa,↓wb,↓wc,↓wd,↓we,↓wf,↓wg,↓wh,↓wj,↓wl,↓wm,↓wn,↓wo,↓wp,↓wq,↓wt,↓wu,wv,ww,wx,wy,wz,w3,w4,↓x9,↓wa,↓w6,↓x8,↓w7,↓w8,↓w9,va,vb,↓vc,↓vd,↓vf,↓vg,↓vh,↓vi,↓vj,↓vk,↓vm,↓vn,↓vo,↓vp,↓vq,↓vt,↓vv,↓vw,↓vx,↓vy,↓vz,↓v0,↓v3,↓v4,↓v5,↓v7,↓v8,↓v9,↓ua,↓ub,↓uc,↓ud,↓ue,↓uf,↓ug,↓uh,ui,uj,uk,ul,um,uo,uq,ur,ut,uu,uv,uw,ux,uy,uz,u2,u3,u5,u6,u7,u8,Option.bind_some,u9,tj,tm,tq,tv,tw,tz,t3,t8,t9,sf,true_and,beq_self_eq_true,Bool.false_eq_true,c0,c1,Int.cast_ofNat_Int,Int.reduceEq,Int.reduceLT,Int.reduceLE,Int.reduceAdd,Int.reduceSub,↓reduceIte]
    by_cases e2 : a < m
    · rw [decide_eq_true e2] at q ⊢
      try simp -dsimp only [↓za,↓zb,↓zc,↓zd,↓ze,↓zf,↓zg,zh,zi,List.map_cons,List.map_nil,List.length_cons,List.length_nil,List.replicate_succ,List.replicate_zero,List.cons_append,List.nil_append,Nat.reduceAdd,Nat.reduceSub,List.set_cons_zero,List.set_cons_succ,List.getElem?_cons_zero,List.getElem?_cons_succ,Bool.not_true,Bool.not_false,decide_true,decide_false,↓zj,↓zk,↓zl,↓zm,↓zn,↓zo,↓zp,↓zq,↓zr,↓zt,↓zu,↓zv,zj,zk,zl,zm,zn,zo,zp,zq,zr,zt,zu,zv,↓zw,↓zx,↓zy,↓zz,↓z9,↓ya,↓yb,↓yc,↓yd,↓ye,↓yf,↓yg,↓yh,↓yi,↓yj,↓yk,↓yl,↓ym,↓yn,↓yo,↓yp,↓eC,↓yq,↓eB,↓yr,↓yt,↓yu,↓yw,↓yx,↓yy,↓yz,↓y5,↓y6,↓y8,↓y9,↓xa,↓xb,↓xc,↓xg,↓xh,↓xi,↓xj,↓xk,↓xl,↓xm,↓xn,↓xo,↓xp,↓xq,↓xr,↓xt,↓xu,↓xy,↓xz,↓x5,↓x6,↓x7,↓x8,↓x9,↓wa,↓wb,↓wc,↓wd,↓we,↓wf,↓wg,↓wh,↓wj,↓wl,↓wm,↓wn,↓wo,↓wp,↓wq,↓wt,↓wu,wv,ww,wx,wy,wz,w3,w4,↓x9,↓wa,↓w6,↓x8,↓w7,↓w8,↓w9,va,vb,↓vc,↓vd,↓vf,↓vg,↓vh,↓vi,↓vj,↓vk,↓vm,↓vn,↓vo,↓vp,↓vq,↓vt,↓vv,↓vw,↓vx,↓vy,↓vz,↓v0,↓v3,↓v4,↓v5,↓v7,↓v8,↓v9,↓ua,↓ub,↓uc,↓ud,↓ue,↓uf,↓ug,↓uh,ui,uj,uk,ul,um,uo,uq,ur,ut,uu,uv,uw,ux,uy,uz,u2,u3,u5,u6,u7,u8,Option.bind_some,u9,tj,tm,tq,tv,tw,tz,t3,t8,t9,sf,true_and,beq_self_eq_true,Bool.false_eq_true,c0,c1,Int.cast_ofNat_Int,Int.reduceEq,Int.reduceLT,Int.reduceLE,Int.reduceAdd,Int.reduceSub,↓reduceIte]
      by_cases e3 : 0 ≤ z
      · rw [decide_eq_true e3] at q ⊢
        try simp -dsimp only [↓za,↓zb,↓zc,↓zd,↓ze,↓zf,↓zg,zh,zi,List.map_cons,List.map_nil,List.length_cons,List.length_nil,List.replicate_succ,List.replicate_zero,List.cons_append,List.nil_append,Nat.reduceAdd,Nat.reduceSub,List.set_cons_zero,List.set_cons_succ,List.getElem?_cons_zero,List.getElem?_cons_succ,Bool.not_true,Bool.not_false,decide_true,decide_false,↓zj,↓zk,↓zl,↓zm,↓zn,↓zo,↓zp,↓zq,↓zr,↓zt,↓zu,↓zv,zj,zk,zl,zm,zn,zo,zp,zq,zr,zt,zu,zv,↓zw,↓zx,↓zy,↓zz,↓z9,↓ya,↓yb,↓yc,↓yd,↓ye,↓yf,↓yg,↓yh,↓yi,↓yj,↓yk,↓yl,↓ym,↓yn,↓yo,↓yp,↓eC,↓yq,↓eB,↓yr,↓yt,↓yu,↓yw,↓yx,↓yy,↓yz,↓y5,↓y6,↓y8,↓y9,↓xa,↓xb,↓xc,↓xg,↓xh,↓xi,↓xj,↓xk,↓xl,↓xm,↓xn,↓xo,↓xp,↓xq,↓xr,↓xt,↓xu,↓xy,↓xz,↓x5,↓x6,↓x7,↓x8,↓x9,↓wa,↓wb,↓wc,↓wd,↓we,↓wf,↓wg,↓wh,↓wj,↓wl,↓wm,↓wn,↓wo,↓wp,↓wq,↓wt,↓wu,wv,ww,wx,wy,wz,w3,w4,↓x9,↓wa,↓w6,↓x8,↓w7,↓w8,↓w9,va,vb,↓vc,↓vd,↓vf,↓vg,↓vh,↓vi,↓vj,↓vk,↓vm,↓vn,↓vo,↓vp,↓vq,↓vt,↓vv,↓vw,↓vx,↓vy,↓vz,↓v0,↓v3,↓v4,↓v5,↓v7,↓v8,↓v9,↓ua,↓ub,↓uc,↓ud,↓ue,↓uf,↓ug,↓uh,ui,uj,uk,ul,um,uo,uq,ur,ut,uu,uv,uw,ux,uy,uz,u2,u3,u5,u6,u7,u8,Option.bind_some,u9,tj,tm,tq,tv,tw,tz,t3,t8,t9,sf,true_and,beq_self_eq_true,Bool.false_eq_true,c0,c1,Int.cast_ofNat_Int,Int.reduceEq,Int.reduceLT,Int.reduceLE,Int.reduceAdd,Int.reduceSub,↓reduceIte]
        by_cases e4 : z < m
        · rw [decide_eq_true e4] at q ⊢
          try simp -dsimp only [↓za,↓zb,↓zc,↓zd,↓ze,↓zf,↓zg,zh,zi,List.map_cons,List.map_nil,List.length_cons,List.length_nil,List.replicate_succ,List.replicate_zero,List.cons_append,List.nil_append,Nat.reduceAdd,Nat.reduceSub,List.set_cons_zero,List.set_cons_succ,List.getElem?_cons_zero,List.getElem?_cons_succ,Bool.not_true,Bool.not_false,decide_true,decide_false,↓zj,↓zk,↓zl,↓zm,↓zn,↓zo,↓zp,↓zq,↓zr,↓zt,↓zu,↓zv,zj,zk,zl,zm,zn,zo,zp,zq,zr,zt,zu,zv,↓zw,↓zx,↓zy,↓zz,↓z9,↓ya,↓yb,↓yc,↓yd,↓ye,↓yf,↓yg,↓yh,↓yi,↓yj,↓yk,↓yl,↓ym,↓yn,↓yo,↓yp,↓eC,↓yq,↓eB,↓yr,↓yt,↓yu,↓yw,↓yx,↓yy,↓yz,↓y5,↓y6,↓y8,↓y9,↓xa,↓xb,↓xc,↓xg,↓xh,↓xi,↓xj,↓xk,↓xl,↓xm,↓xn,↓xo,↓xp,↓xq,↓xr,↓xt,↓xu,↓xy,↓xz,↓x5,↓x6,↓x7,↓x8,↓x9,↓wa,↓wb,↓wc,↓wd,↓we,↓wf,↓wg,↓wh,↓wj,↓wl,↓wm,↓wn,↓wo,↓wp,↓wq,↓wt,↓wu,wv,ww,wx,wy,wz,w3,w4,↓x9,↓wa,↓w6,↓x8,↓w7,↓w8,↓w9,va,vb,↓vc,↓vd,↓vf,↓vg,↓vh,↓vi,↓vj,↓vk,↓vm,↓vn,↓vo,↓vp,↓vq,↓vt,↓vv,↓vw,↓vx,↓vy,↓vz,↓v0,↓v3,↓v4,↓v5,↓v7,↓v8,↓v9,↓ua,↓ub,↓uc,↓ud,↓ue,↓uf,↓ug,↓uh,ui,uj,uk,ul,um,uo,uq,ur,ut,uu,uv,uw,ux,uy,uz,u2,u3,u5,u6,u7,u8,Option.bind_some,u9,tj,tm,tq,tv,tw,tz,t3,t8,t9,sf,true_and,beq_self_eq_true,Bool.false_eq_true,c0,c1,Int.cast_ofNat_Int,Int.reduceEq,Int.reduceLT,Int.reduceLE,Int.reduceAdd,Int.reduceSub,↓reduceIte]
          refine ⟨n, c, rfl, ?_⟩
          generalize areNum n c = b1 at q ⊢
          cases b1 with
          | false =>
            try simp -dsimp only [↓za,↓zb,↓zc,↓zd,↓ze,↓zf,↓zg,zh,zi,List.map_cons,List.map_nil,List.length_cons,List.length_nil,List.replicate_succ,List.replicate_zero,List.cons_append,List.nil_append,Nat.reduceAdd,Nat.reduceSub,List.set_cons_zero,List.set_cons_succ,List.getElem?_cons_zero,List.getElem?_cons_succ,Bool.not_true,Bool.not_false,decide_true,decide_false,↓zj,↓zk,↓zl,↓zm,↓zn,↓zo,↓zp,↓zq,↓zr,↓zt,↓zu,↓zv,zj,zk,zl,zm,zn,zo,zp,zq,zr,zt,zu,zv,↓zw,↓zx,↓zy,↓zz,↓z9,↓ya,↓yb,↓yc,↓yd,↓ye,↓yf,↓yg,↓yh,↓yi,↓yj,↓yk,↓yl,↓ym,↓yn,↓yo,↓yp,↓eC,↓yq,↓eB,↓yr,↓yt,↓yu,↓yw,↓yx,↓yy,↓yz,↓y5,↓y6,↓y8,↓y9,↓xa,↓xb,↓xc,↓xg,↓xh,↓xi,↓xj,↓xk,↓xl,↓xm,↓xn,↓xo,↓xp,↓xq,↓xr,↓xt,↓xu,↓xy,↓xz,↓x5,↓x6,↓x7,↓x8,↓x9,↓wa,↓wb,↓wc,↓wd,↓we,↓wf,↓wg,↓wh,↓wj,↓wl,↓wm,↓wn,↓wo,↓wp,↓wq,↓wt,↓wu,wv,ww,wx,wy,wz,w3,w4,↓x9,↓wa,↓w6,↓x8,↓w7,↓w8,↓w9,va,vb,↓vc,↓vd,↓vf,↓vg,↓vh,↓vi,↓vj,↓vk,↓vm,↓vn,↓vo,↓vp,↓vq,↓vt,↓vv,↓vw,↓vx,↓vy,↓vz,↓v0,↓v3,↓v4,↓v5,↓v7,↓v8,↓v9,↓ua,↓ub,↓uc,↓ud,↓ue,↓uf,↓ug,↓uh,ui,uj,uk,ul,um,uo,uq,ur,ut,uu,uv,uw,ux,uy,uz,u2,u3,u5,u6,u7,u8,Option.bind_some,u9,tj,tm,tq,tv,tw,tz,t3,t8,t9,sf,true_and,beq_self_eq_true,Bool.false_eq_true,c0,c1,Int.cast_ofNat_Int,Int.reduceEq,Int.reduceLT,Int.reduceLE,Int.reduceAdd,Int.reduceSub,↓reduceIte]
            exact q
          | true =>
            try simp -dsimp only [↓za,↓zb,↓zc,↓zd,↓ze,↓zf,↓zg,zh,zi,List.map_cons,List.map_nil,List.length_cons,List.length_nil,List.replicate_succ,List.replicate_zero,List.cons_append,List.nil_append,Nat.reduceAdd,Nat.reduceSub,List.set_cons_zero,List.set_cons_succ,List.getElem?_cons_zero,List.getElem?_cons_succ,Bool.not_true,Bool.not_false,decide_true,decide_false,↓zj,↓zk,↓zl,↓zm,↓zn,↓zo,↓zp,↓zq,↓zr,↓zt,↓zu,↓zv,zj,zk,zl,zm,zn,zo,zp,zq,zr,zt,zu,zv,↓zw,↓zx,↓zy,↓zz,↓z9,↓ya,↓yb,↓yc,↓yd,↓ye,↓yf,↓yg,↓yh,↓yi,↓yj,↓yk,↓yl,↓ym,↓yn,↓yo,↓yp,↓eC,↓yq,↓eB,↓yr,↓yt,↓yu,↓yw,↓yx,↓yy,↓yz,↓y5,↓y6,↓y8,↓y9,↓xa,↓xb,↓xc,↓xg,↓xh,↓xi,↓xj,↓xk,↓xl,↓xm,↓xn,↓xo,↓xp,↓xq,↓xr,↓xt,↓xu,↓xy,↓xz,↓x5,↓x6,↓x7,↓x8,↓x9,↓wa,↓wb,↓wc,↓wd,↓we,↓wf,↓wg,↓wh,↓wj,↓wl,↓wm,↓wn,↓wo,↓wp,↓wq,↓wt,↓wu,wv,ww,wx,wy,wz,w3,w4,↓x9,↓wa,↓w6,↓x8,↓w7,↓w8,↓w9,va,vb,↓vc,↓vd,↓vf,↓vg,↓vh,↓vi,↓vj,↓vk,↓vm,↓vn,↓vo,↓vp,↓vq,↓vt,↓vv,↓vw,↓vx,↓vy,↓vz,↓v0,↓v3,↓v4,↓v5,↓v7,↓v8,↓v9,↓ua,↓ub,↓uc,↓ud,↓ue,↓uf,↓ug,↓uh,ui,uj,uk,ul,um,uo,uq,ur,ut,uu,uv,uw,ux,uy,uz,u2,u3,u5,u6,u7,u8,Option.bind_some,u9,tj,tm,tq,tv,tw,tz,t3,t8,t9,sf,true_and,beq_self_eq_true,Bool.false_eq_true,c0,c1,Int.cast_ofNat_Int,Int.reduceEq,Int.reduceLT,Int.reduceLE,Int.reduceAdd,Int.reduceSub,↓reduceIte]
            refine ⟨g, c, rfl, ?_⟩
            generalize areNum g c = b2 at q ⊢
            cases b2 with
            | false =>
              try simp -dsimp only [↓za,↓zb,↓zc,↓zd,↓ze,↓zf,↓zg,zh,zi,List.map_cons,List.map_nil,List.length_cons,List.length_nil,List.replicate_succ,List.replicate_zero,List.cons_append,List.nil_append,Nat.reduceAdd,Nat.reduceSub,List.set_cons_zero,List.set_cons_succ,List.getElem?_cons_zero,List.getElem?_cons_succ,Bool.not_true,Bool.not_false,decide_true,decide_false,↓zj,↓zk,↓zl,↓zm,↓zn,↓zo,↓zp,↓zq,↓zr,↓zt,↓zu,↓zv,zj,zk,zl,zm,zn,zo,zp,zq,zr,zt,zu,zv,↓zw,↓zx,↓zy,↓zz,↓z9,↓ya,↓yb,↓yc,↓yd,↓ye,↓yf,↓yg,↓yh,↓yi,↓yj,↓yk,↓yl,↓ym,↓yn,↓yo,↓yp,↓eC,↓yq,↓eB,↓yr,↓yt,↓yu,↓yw,↓yx,↓yy,↓yz,↓y5,↓y6,↓y8,↓y9,↓xa,↓xb,↓xc,↓xg,↓xh,↓xi,↓xj,↓xk,↓xl,↓xm,↓xn,↓xo,↓xp,↓xq,↓xr,↓xt,↓xu,↓xy,↓xz,↓x5,↓x6,↓x7,↓x8,↓x9,↓wa,↓wb,↓wc,↓wd,↓we,↓wf,↓wg,↓wh,↓wj,↓wl,↓wm,↓wn,↓wo,↓wp,↓wq,↓wt,↓wu,wv,ww,wx,wy,wz,w3,w4,↓x9,↓wa,↓w6,↓x8,↓w7,↓w8,↓w9,va,vb,↓vc,↓vd,↓vf,↓vg,↓vh,↓vi,↓vj,↓vk,↓vm,↓vn,↓vo,↓vp,↓vq,↓vt,↓vv,↓vw,↓vx,↓vy,↓vz,↓v0,↓v3,↓v4,↓v5,↓v7,↓v8,↓v9,↓ua,↓ub,↓uc,↓ud,↓ue,↓uf,↓ug,↓uh,ui,uj,uk,ul,um,uo,uq,ur,ut,uu,uv,uw,ux,uy,uz,u2,u3,u5,u6,u7,u8,Option.bind_some,u9,tj,tm,tq,tv,tw,tz,t3,t8,t9,sf,true_and,beq_self_eq_true,Bool.false_eq_true,c0,c1,Int.cast_ofNat_Int,Int.reduceEq,Int.reduceLT,Int.reduceLE,Int.reduceAdd,Int.reduceSub,↓reduceIte]
              exact q
            | true =>
              try simp -dsimp only [↓za,↓zb,↓zc,↓zd,↓ze,↓zf,↓zg,zh,zi,List.map_cons,List.map_nil,List.length_cons,List.length_nil,List.replicate_succ,List.replicate_zero,List.cons_append,List.nil_append,Nat.reduceAdd,Nat.reduceSub,List.set_cons_zero,List.set_cons_succ,List.getElem?_cons_zero,List.getElem?_cons_succ,Bool.not_true,Bool.not_false,decide_true,decide_false,↓zj,↓zk,↓zl,↓zm,↓zn,↓zo,↓zp,↓zq,↓zr,↓zt,↓zu,↓zv,zj,zk,zl,zm,zn,zo,zp,zq,zr,zt,zu,zv,↓zw,↓zx,↓zy,↓zz,↓z9,↓ya,↓yb,↓yc,↓yd,↓ye,↓yf,↓yg,↓yh,↓yi,↓yj,↓yk,↓yl,↓ym,↓yn,↓yo,↓yp,↓eC,↓yq,↓eB,↓yr,↓yt,↓yu,↓yw,↓yx,↓yy,↓yz,↓y5,↓y6,↓y8,↓y9,↓xa,↓xb,↓xc,↓xg,↓xh,↓xi,↓xj,↓xk,↓xl,↓xm,↓xn,↓xo,↓xp,↓xq,↓xr,↓xt,↓xu,↓xy,↓xz,↓x5,↓x6,↓x7,↓x8,↓x9,↓wa,↓wb,↓wc,↓wd,↓we,↓wf,↓wg,↓wh,↓wj,↓wl,↓wm,↓wn,↓wo,↓wp,↓wq,↓wt,↓wu,wv,ww,wx,wy,wz,w3,w4,↓x9,↓wa,↓w6,↓x8,↓w7,↓w8,↓w9,va,vb,↓vc,↓vd,↓vf,↓vg,↓vh,↓vi,↓vj,↓vk,↓vm,↓vn,↓vo,↓vp,↓vq,↓vt,↓vv,↓vw,↓vx,↓vy,↓vz,↓v0,↓v3,↓v4,↓v5,↓v7,↓v8,↓v9,↓ua,↓ub,↓uc,↓ud,↓ue,↓uf,↓ug,↓uh,ui,uj,uk,ul,um,uo,uq,ur,ut,uu,uv,uw,ux,uy,uz,u2,u3,u5,u6,u7,u8,Option.bind_some,u9,tj,tm,tq,tv,tw,tz,t3,t8,t9,sf,true_and,beq_self_eq_true,Bool.false_eq_true,c0,c1,Int.cast_ofNat_Int,Int.reduceEq,Int.reduceLT,Int.reduceLE,Int.reduceAdd,Int.reduceSub,↓reduceIte, List.length_map]
              by_cases e5 : (p.length : Int) = c
              · rw [decide_eq_true e5] at q ⊢
                try simp -dsimp only [↓za,↓zb,↓zc,↓zd,↓ze,↓zf,↓zg,zh,zi,List.map_cons,List.map_nil,List.length_cons,List.length_nil,List.replicate_succ,List.replicate_zero,List.cons_append,List.nil_append,Nat.reduceAdd,Nat.reduceSub,List.set_cons_zero,List.set_cons_succ,List.getElem?_cons_zero,List.getElem?_cons_succ,Bool.not_true,Bool.not_false,decide_true,decide_false,↓zj,↓zk,↓zl,↓zm,↓zn,↓zo,↓zp,↓zq,↓zr,↓zt,↓zu,↓zv,zj,zk,zl,zm,zn,zo,zp,zq,zr,zt,zu,zv,↓zw,↓zx,↓zy,↓zz,↓z9,↓ya,↓yb,↓yc,↓yd,↓ye,↓yf,↓yg,↓yh,↓yi,↓yj,↓yk,↓yl,↓ym,↓yn,↓yo,↓yp,↓eC,↓yq,↓eB,↓yr,↓yt,↓yu,↓yw,↓yx,↓yy,↓yz,↓y5,↓y6,↓y8,↓y9,↓xa,↓xb,↓xc,↓xg,↓xh,↓xi,↓xj,↓xk,↓xl,↓xm,↓xn,↓xo,↓xp,↓xq,↓xr,↓xt,↓xu,↓xy,↓xz,↓x5,↓x6,↓x7,↓x8,↓x9,↓wa,↓wb,↓wc,↓wd,↓we,↓wf,↓wg,↓wh,↓wj,↓wl,↓wm,↓wn,↓wo,↓wp,↓wq,↓wt,↓wu,wv,ww,wx,wy,wz,w3,w4,↓x9,↓wa,↓w6,↓x8,↓w7,↓w8,↓w9,va,vb,↓vc,↓vd,↓vf,↓vg,↓vh,↓vi,↓vj,↓vk,↓vm,↓vn,↓vo,↓vp,↓vq,↓vt,↓vv,↓vw,↓vx,↓vy,↓vz,↓v0,↓v3,↓v4,↓v5,↓v7,↓v8,↓v9,↓ua,↓ub,↓uc,↓ud,↓ue,↓uf,↓ug,↓uh,ui,uj,uk,ul,um,uo,uq,ur,ut,uu,uv,uw,ux,uy,uz,u2,u3,u5,u6,u7,u8,Option.bind_some,u9,tj,tm,tq,tv,tw,tz,t3,t8,t9,sf,true_and,beq_self_eq_true,Bool.false_eq_true,c0,c1,Int.cast_ofNat_Int,Int.reduceEq,Int.reduceLT,Int.reduceLE,Int.reduceAdd,Int.reduceSub,↓reduceIte]
                refine genS_map (isPour c) (fun x _ => ⟨_, rfl, fun Q hq => ?_⟩) ?_
                · try simp -dsimp only [↓za,↓zb,↓zc,↓zd,↓ze,↓zf,↓zg,zh,zi,List.map_cons,List.map_nil,List.length_cons,List.length_nil,List.replicate_succ,List.replicate_zero,List.cons_append,List.nil_append,Nat.reduceAdd,Nat.reduceSub,List.set_cons_zero,List.set_cons_succ,List.getElem?_cons_zero,List.getElem?_cons_succ,Bool.not_true,Bool.not_false,decide_true,decide_false,↓zj,↓zk,↓zl,↓zm,↓zn,↓zo,↓zp,↓zq,↓zr,↓zt,↓zu,↓zv,zj,zk,zl,zm,zn,zo,zp,zq,zr,zt,zu,zv,↓zw,↓zx,↓zy,↓zz,↓z9,↓ya,↓yb,↓yc,↓yd,↓ye,↓yf,↓yg,↓yh,↓yi,↓yj,↓yk,↓yl,↓ym,↓yn,↓yo,↓yp,↓eC,↓yq,↓eB,↓yr,↓yt,↓yu,↓yw,↓yx,↓yy,↓yz,↓y5,↓y6,↓y8,↓y9,↓xa,↓xb,↓xc,↓xg,↓xh,↓xi,↓xj,↓xk,↓xl,↓xm,↓xn,↓xo,↓xp,↓xq,↓xr,↓xt,↓xu,↓xy,↓xz,↓x5,↓x6,↓x7,↓x8,↓x9,↓wa,↓wb,↓wc,↓wd,↓we,↓wf,↓wg,↓wh,↓wj,↓wl,↓wm,↓wn,↓wo,↓wp,↓wq,↓wt,↓wu,wv,ww,wx,wy,wz,w3,w4,↓x9,↓wa,↓w6,↓x8,↓w7,↓w8,↓w9,va,vb,↓vc,↓vd,↓vf,↓vg,↓vh,↓vi,↓vj,↓vk,↓vm,↓vn,↓vo,↓vp,↓vq,↓vt,↓vv,↓vw,↓vx,↓vy,↓vz,↓v0,↓v3,↓v4,↓v5,↓v7,↓v8,↓v9,↓ua,↓ub,↓uc,↓ud,↓ue,↓uf,↓ug,↓uh,ui,uj,uk,ul,um,uo,uq,ur,ut,uu,uv,uw,ux,uy,uz,u2,u3,u5,u6,u7,u8,Option.bind_some,u9,tj,tm,tq,tv,tw,tz,t3,t8,t9,sf,true_and,beq_self_eq_true,Bool.false_eq_true,c0,c1,Int.cast_ofNat_Int,Int.reduceEq,Int.reduceLT,Int.reduceLE,Int.reduceAdd,Int.reduceSub,↓reduceIte]
                  exact ⟨x, c, rfl, hq⟩
                · rw [all_map_id]
                  generalize p.all (isPour c) = b3 at q ⊢
                  cases b3 with
                  | false =>
                    try simp -dsimp only [↓za,↓zb,↓zc,↓zd,↓ze,↓zf,↓zg,zh,zi,List.map_cons,List.map_nil,List.length_cons,List.length_nil,List.replicate_succ,List.replicate_zero,List.cons_append,List.nil_append,Nat.reduceAdd,Nat.reduceSub,List.set_cons_zero,List.set_cons_succ,List.getElem?_cons_zero,List.getElem?_cons_succ,Bool.not_true,Bool.not_false,decide_true,decide_false,↓zj,↓zk,↓zl,↓zm,↓zn,↓zo,↓zp,↓zq,↓zr,↓zt,↓zu,↓zv,zj,zk,zl,zm,zn,zo,zp,zq,zr,zt,zu,zv,↓zw,↓zx,↓zy,↓zz,↓z9,↓ya,↓yb,↓yc,↓yd,↓ye,↓yf,↓yg,↓yh,↓yi,↓yj,↓yk,↓yl,↓ym,↓yn,↓yo,↓yp,↓eC,↓yq,↓eB,↓yr,↓yt,↓yu,↓yw,↓yx,↓yy,↓yz,↓y5,↓y6,↓y8,↓y9,↓xa,↓xb,↓xc,↓xg,↓xh,↓xi,↓xj,↓xk,↓xl,↓xm,↓xn,↓xo,↓xp,↓xq,↓xr,↓xt,↓xu,↓xy,↓xz,↓x5,↓x6,↓x7,↓x8,↓x9,↓wa,↓wb,↓wc,↓wd,↓we,↓wf,↓wg,↓wh,↓wj,↓wl,↓wm,↓wn,↓wo,↓wp,↓wq,↓wt,↓wu,wv,ww,wx,wy,wz,w3,w4,↓x9,↓wa,↓w6,↓x8,↓w7,↓w8,↓w9,va,vb,↓vc,↓vd,↓vf,↓vg,↓vh,↓vi,↓vj,↓vk,↓vm,↓vn,↓vo,↓vp,↓vq,↓vt,↓vv,↓vw,↓vx,↓vy,↓vz,↓v0,↓v3,↓v4,↓v5,↓v7,↓v8,↓v9,↓ua,↓ub,↓uc,↓ud,↓ue,↓uf,↓ug,↓uh,ui,uj,uk,ul,um,uo,uq,ur,ut,uu,uv,uw,ux,uy,uz,u2,u3,u5,u6,u7,u8,Option.bind_some,u9,tj,tm,tq,tv,tw,tz,t3,t8,t9,sf,true_and,beq_self_eq_true,Bool.false_eq_true,c0,c1,Int.cast_ofNat_Int,Int.reduceEq,Int.reduceLT,Int.reduceLE,Int.reduceAdd,Int.reduceSub,↓reduceIte]
                    exact q
                  | true =>
                    try simp -dsimp only [↓za,↓zb,↓zc,↓zd,↓ze,↓zf,↓zg,zh,zi,List.map_cons,List.map_nil,List.length_cons,List.length_nil,List.replicate_succ,List.replicate_zero,List.cons_append,List.nil_append,Nat.reduceAdd,Nat.reduceSub,List.set_cons_zero,List.set_cons_succ,List.getElem?_cons_zero,List.getElem?_cons_succ,Bool.not_true,Bool.not_false,decide_true,decide_false,↓zj,↓zk,↓zl,↓zm,↓zn,↓zo,↓zp,↓zq,↓zr,↓zt,↓zu,↓zv,zj,zk,zl,zm,zn,zo,zp,zq,zr,zt,zu,zv,↓zw,↓zx,↓zy,↓zz,↓z9,↓ya,↓yb,↓yc,↓yd,↓ye,↓yf,↓yg,↓yh,↓yi,↓yj,↓yk,↓yl,↓ym,↓yn,↓yo,↓yp,↓eC,↓yq,↓eB,↓yr,↓yt,↓yu,↓yw,↓yx,↓yy,↓yz,↓y5,↓y6,↓y8,↓y9,↓xa,↓xb,↓xc,↓xg,↓xh,↓xi,↓xj,↓xk,↓xl,↓xm,↓xn,↓xo,↓xp,↓xq,↓xr,↓xt,↓xu,↓xy,↓xz,↓x5,↓x6,↓x7,↓x8,↓x9,↓wa,↓wb,↓wc,↓wd,↓we,↓wf,↓wg,↓wh,↓wj,↓wl,↓wm,↓wn,↓wo,↓wp,↓wq,↓wt,↓wu,wv,ww,wx,wy,wz,w3,w4,↓x9,↓wa,↓w6,↓x8,↓w7,↓w8,↓w9,va,vb,↓vc,↓vd,↓vf,↓vg,↓vh,↓vi,↓vj,↓vk,↓vm,↓vn,↓vo,↓vp,↓vq,↓vt,↓vv,↓vw,↓vx,↓vy,↓vz,↓v0,↓v3,↓v4,↓v5,↓v7,↓v8,↓v9,↓ua,↓ub,↓uc,↓ud,↓ue,↓uf,↓ug,↓uh,ui,uj,uk,ul,um,uo,uq,ur,ut,uu,uv,uw,ux,uy,uz,u2,u3,u5,u6,u7,u8,Option.bind_some,u9,tj,tm,tq,tv,tw,tz,t3,t8,t9,sf,true_and,beq_self_eq_true,Bool.false_eq_true,c0,c1,Int.cast_ofNat_Int,Int.reduceEq,Int.reduceLT,Int.reduceLE,Int.reduceAdd,Int.reduceSub,↓reduceIte, List.length_map]
                    by_cases e6 : (cs.length : Int) = qq
                    · rw [decide_eq_true e6] at q ⊢
                      try simp -dsimp only [↓za,↓zb,↓zc,↓zd,↓ze,↓zf,↓zg,zh,zi,List.map_cons,List.map_nil,List.length_cons,List.length_nil,List.replicate_succ,List.replicate_zero,List.cons_append,List.nil_append,Nat.reduceAdd,Nat.reduceSub,List.set_cons_zero,List.set_cons_succ,List.getElem?_cons_zero,List.getElem?_cons_succ,Bool.not_true,Bool.not_false,decide_true,decide_false,↓zj,↓zk,↓zl,↓zm,↓zn,↓zo,↓zp,↓zq,↓zr,↓zt,↓zu,↓zv,zj,zk,zl,zm,zn,zo,zp,zq,zr,zt,zu,zv,↓zw,↓zx,↓zy,↓zz,↓z9,↓ya,↓yb,↓yc,↓yd,↓ye,↓yf,↓yg,↓yh,↓yi,↓yj,↓yk,↓yl,↓ym,↓yn,↓yo,↓yp,↓eC,↓yq,↓eB,↓yr,↓yt,↓yu,↓yw,↓yx,↓yy,↓yz,↓y5,↓y6,↓y8,↓y9,↓xa,↓xb,↓xc,↓xg,↓xh,↓xi,↓xj,↓xk,↓xl,↓xm,↓xn,↓xo,↓xp,↓xq,↓xr,↓xt,↓xu,↓xy,↓xz,↓x5,↓x6,↓x7,↓x8,↓x9,↓wa,↓wb,↓wc,↓wd,↓we,↓wf,↓wg,↓wh,↓wj,↓wl,↓wm,↓wn,↓wo,↓wp,↓wq,↓wt,↓wu,wv,ww,wx,wy,wz,w3,w4,↓x9,↓wa,↓w6,↓x8,↓w7,↓w8,↓w9,va,vb,↓vc,↓vd,↓vf,↓vg,↓vh,↓vi,↓vj,↓vk,↓vm,↓vn,↓vo,↓vp,↓vq,↓vt,↓vv,↓vw,↓vx,↓vy,↓vz,↓v0,↓v3,↓v4,↓v5,↓v7,↓v8,↓v9,↓ua,↓ub,↓uc,↓ud,↓ue,↓uf,↓ug,↓uh,ui,uj,uk,ul,um,uo,uq,ur,ut,uu,uv,uw,ux,uy,uz,u2,u3,u5,u6,u7,u8,Option.bind_some,u9,tj,tm,tq,tv,tw,tz,t3,t8,t9,sf,true_and,beq_self_eq_true,Bool.false_eq_true,c0,c1,Int.cast_ofNat_Int,Int.reduceEq,Int.reduceLT,Int.reduceLE,Int.reduceAdd,Int.reduceSub,↓reduceIte]
                      refine genS_map (isAct l) (fun x hx => ⟨_, rfl, fun Q hq => ?_⟩) ?_
                      · try simp -dsimp only [↓za,↓zb,↓zc,↓zd,↓ze,↓zf,↓zg,zh,zi,List.map_cons,List.map_nil,List.length_cons,List.length_nil,List.replicate_succ,List.replicate_zero,List.cons_append,List.nil_append,Nat.reduceAdd,Nat.reduceSub,List.set_cons_zero,List.set_cons_succ,List.getElem?_cons_zero,List.getElem?_cons_succ,Bool.not_true,Bool.not_false,decide_true,decide_false,↓zj,↓zk,↓zl,↓zm,↓zn,↓zo,↓zp,↓zq,↓zr,↓zt,↓zu,↓zv,zj,zk,zl,zm,zn,zo,zp,zq,zr,zt,zu,zv,↓zw,↓zx,↓zy,↓zz,↓z9,↓ya,↓yb,↓yc,↓yd,↓ye,↓yf,↓yg,↓yh,↓yi,↓yj,↓yk,↓yl,↓ym,↓yn,↓yo,↓yp,↓eC,↓yq,↓eB,↓yr,↓yt,↓yu,↓yw,↓yx,↓yy,↓yz,↓y5,↓y6,↓y8,↓y9,↓xa,↓xb,↓xc,↓xg,↓xh,↓xi,↓xj,↓xk,↓xl,↓xm,↓xn,↓xo,↓xp,↓xq,↓xr,↓xt,↓xu,↓xy,↓xz,↓x5,↓x6,↓x7,↓x8,↓x9,↓wa,↓wb,↓wc,↓wd,↓we,↓wf,↓wg,↓wh,↓wj,↓wl,↓wm,↓wn,↓wo,↓wp,↓wq,↓wt,↓wu,wv,ww,wx,wy,wz,w3,w4,↓x9,↓wa,↓w6,↓x8,↓w7,↓w8,↓w9,va,vb,↓vc,↓vd,↓vf,↓vg,↓vh,↓vi,↓vj,↓vk,↓vm,↓vn,↓vo,↓vp,↓vq,↓vt,↓vv,↓vw,↓vx,↓vy,↓vz,↓v0,↓v3,↓v4,↓v5,↓v7,↓v8,↓v9,↓ua,↓ub,↓uc,↓ud,↓ue,↓uf,↓ug,↓uh,ui,uj,uk,ul,um,uo,uq,ur,ut,uu,uv,uw,ux,uy,uz,u2,u3,u5,u6,u7,u8,Option.bind_some,u9,tj,tm,tq,tv,tw,tz,t3,t8,t9,sf,true_and,beq_self_eq_true,Bool.false_eq_true,c0,c1,Int.cast_ofNat_Int,Int.reduceEq,Int.reduceLT,Int.reduceLE,Int.reduceAdd,Int.reduceSub,↓reduceIte]
                        exact ⟨x, l, rfl, hr x hx, hq⟩
                      · rw [all_map_id]
                        exact q
                    · rw [decide_eq_false e6] at q ⊢
                      try simp -dsimp only [↓za,↓zb,↓zc,↓zd,↓ze,↓zf,↓zg,zh,zi,List.map_cons,List.map_nil,List.length_cons,List.length_nil,List.replicate_succ,List.replicate_zero,List.cons_append,List.nil_append,Nat.reduceAdd,Nat.reduceSub,List.set_cons_zero,List.set_cons_succ,List.getElem?_cons_zero,List.getElem?_cons_succ,Bool.not_true,Bool.not_false,decide_true,decide_false,↓zj,↓zk,↓zl,↓zm,↓zn,↓zo,↓zp,↓zq,↓zr,↓zt,↓zu,↓zv,zj,zk,zl,zm,zn,zo,zp,zq,zr,zt,zu,zv,↓zw,↓zx,↓zy,↓zz,↓z9,↓ya,↓yb,↓yc,↓yd,↓ye,↓yf,↓yg,↓yh,↓yi,↓yj,↓yk,↓yl,↓ym,↓yn,↓yo,↓yp,↓eC,↓yq,↓eB,↓yr,↓yt,↓yu,↓yw,↓yx,↓yy,↓yz,↓y5,↓y6,↓y8,↓y9,↓xa,↓xb,↓xc,↓xg,↓xh,↓xi,↓xj,↓xk,↓xl,↓xm,↓xn,↓xo,↓xp,↓xq,↓xr,↓xt,↓xu,↓xy,↓xz,↓x5,↓x6,↓x7,↓x8,↓x9,↓wa,↓wb,↓wc,↓wd,↓we,↓wf,↓wg,↓wh,↓wj,↓wl,↓wm,↓wn,↓wo,↓wp,↓wq,↓wt,↓wu,wv,ww,wx,wy,wz,w3,w4,↓x9,↓wa,↓w6,↓x8,↓w7,↓w8,↓w9,va,vb,↓vc,↓vd,↓vf,↓vg,↓vh,↓vi,↓vj,↓vk,↓vm,↓vn,↓vo,↓vp,↓vq,↓vt,↓vv,↓vw,↓vx,↓vy,↓vz,↓v0,↓v3,↓v4,↓v5,↓v7,↓v8,↓v9,↓ua,↓ub,↓uc,↓ud,↓ue,↓uf,↓ug,↓uh,ui,uj,uk,ul,um,uo,uq,ur,ut,uu,uv,uw,ux,uy,uz,u2,u3,u5,u6,u7,u8,Option.bind_some,u9,tj,tm,tq,tv,tw,tz,t3,t8,t9,sf,true_and,beq_self_eq_true,Bool.false_eq_true,c0,c1,Int.cast_ofNat_Int,Int.reduceEq,Int.reduceLT,Int.reduceLE,Int.reduceAdd,Int.reduceSub,↓reduceIte]
                      exact q
              · rw [decide_eq_false e5] at q ⊢
                try simp -dsimp only [↓za,↓zb,↓zc,↓zd,↓ze,↓zf,↓zg,zh,zi,List.map_cons,List.map_nil,List.length_cons,List.length_nil,List.replicate_succ,List.replicate_zero,List.cons_append,List.nil_append,Nat.reduceAdd,Nat.reduceSub,List.set_cons_zero,List.set_cons_succ,List.getElem?_cons_zero,List.getElem?_cons_succ,Bool.not_true,Bool.not_false,decide_true,decide_false,↓zj,↓zk,↓zl,↓zm,↓zn,↓zo,↓zp,↓zq,↓zr,↓zt,↓zu,↓zv,zj,zk,zl,zm,zn,zo,zp,zq,zr,zt,zu,zv,↓zw,↓zx,↓zy,↓zz,↓z9,↓ya,↓yb,↓yc,↓yd,↓ye,↓yf,↓yg,↓yh,↓yi,↓yj,↓yk,↓yl,↓ym,↓yn,↓yo,↓yp,↓eC,↓yq,↓eB,↓yr,↓yt,↓yu,↓yw,↓yx,↓yy,↓yz,↓y5,↓y6,↓y8,↓y9,↓xa,↓xb,↓xc,↓xg,↓xh,↓xi,↓xj,↓xk,↓xl,↓xm,↓xn,↓xo,↓xp,↓xq,↓xr,↓xt,↓xu,↓xy,↓xz,↓x5,↓x6,↓x7,↓x8,↓x9,↓wa,↓wb,↓wc,↓wd,↓we,↓wf,↓wg,↓wh,↓wj,↓wl,↓wm,↓wn,↓wo,↓wp,↓wq,↓wt,↓wu,wv,ww,wx,wy,wz,w3,w4,↓x9,↓wa,↓w6,↓x8,↓w7,↓w8,↓w9,va,vb,↓vc,↓vd,↓vf,↓vg,↓vh,↓vi,↓vj,↓vk,↓vm,↓vn,↓vo,↓vp,↓vq,↓vt,↓vv,↓vw,↓vx,↓vy,↓vz,↓v0,↓v3,↓v4,↓v5,↓v7,↓v8,↓v9,↓ua,↓ub,↓uc,↓ud,↓ue,↓uf,↓ug,↓uh,ui,uj,uk,ul,um,uo,uq,ur,ut,uu,uv,uw,ux,uy,uz,u2,u3,u5,u6,u7,u8,Option.bind_some,u9,tj,tm,tq,tv,tw,tz,t3,t8,t9,sf,true_and,beq_self_eq_true,Bool.false_eq_true,c0,c1,Int.cast_ofNat_Int,Int.reduceEq,Int.reduceLT,Int.reduceLE,Int.reduceAdd,Int.reduceSub,↓reduceIte]
                exact q
        · rw [decide_eq_false e4] at q ⊢
          try simp -dsimp only [↓za,↓zb,↓zc,↓zd,↓ze,↓zf,↓zg,zh,zi,List.map_cons,List.map_nil,List.length_cons,List.length_nil,List.replicate_succ,List.replicate_zero,List.cons_append,List.nil_append,Nat.reduceAdd,Nat.reduceSub,List.set_cons_zero,List.set_cons_succ,List.getElem?_cons_zero,List.getElem?_cons_succ,Bool.not_true,Bool.not_false,decide_true,decide_false,↓zj,↓zk,↓zl,↓zm,↓zn,↓zo,↓zp,↓zq,↓zr,↓zt,↓zu,↓zv,zj,zk,zl,zm,zn,zo,zp,zq,zr,zt,zu,zv,↓zw,↓zx,↓zy,↓zz,↓z9,↓ya,↓yb,↓yc,↓yd,↓ye,↓yf,↓yg,↓yh,↓yi,↓yj,↓yk,↓yl,↓ym,↓yn,↓yo,↓yp,↓eC,↓yq,↓eB,↓yr,↓yt,↓yu,↓yw,↓yx,↓yy,↓yz,↓y5,↓y6,↓y8,↓y9,↓xa,↓xb,↓xc,↓xg,↓xh,↓xi,↓xj,↓xk,↓xl,↓xm,↓xn,↓xo,↓xp,↓xq,↓xr,↓xt,↓xu,↓xy,↓xz,↓x5,↓x6,↓x7,↓x8,↓x9,↓wa,↓wb,↓wc,↓wd,↓we,↓wf,↓wg,↓wh,↓wj,↓wl,↓wm,↓wn,↓wo,↓wp,↓wq,↓wt,↓wu,wv,ww,wx,wy,wz,w3,w4,↓x9,↓wa,↓w6,↓x8,↓w7,↓w8,↓w9,va,vb,↓vc,↓vd,↓vf,↓vg,↓vh,↓vi,↓vj,↓vk,↓vm,↓vn,↓vo,↓vp,↓vq,↓vt,↓vv,↓vw,↓vx,↓vy,↓vz,↓v0,↓v3,↓v4,↓v5,↓v7,↓v8,↓v9,↓ua,↓ub,↓uc,↓ud,↓ue,↓uf,↓ug,↓uh,ui,uj,uk,ul,um,uo,uq,ur,ut,uu,uv,uw,ux,uy,uz,u2,u3,u5,u6,u7,u8,Option.bind_some,u9,tj,tm,tq,tv,tw,tz,t3,t8,t9,sf,true_and,beq_self_eq_true,Bool.false_eq_true,c0,c1,Int.cast_ofNat_Int,Int.reduceEq,Int.reduceLT,Int.reduceLE,Int.reduceAdd,Int.reduceSub,↓reduceIte]
          exact q
      · rw [decide_eq_false e3] at q ⊢
        try simp -dsimp only [↓za,↓zb,↓zc,↓zd,↓ze,↓zf,↓zg,zh,zi,List.map_cons,List.map_nil,List.length_cons,List.length_nil,List.replicate_succ,List.replicate_zero,List.cons_append,List.nil_append,Nat.reduceAdd,Nat.reduceSub,List.set_cons_zero,List.set_cons_succ,List.getElem?_cons_zero,List.getElem?_cons_succ,Bool.not_true,Bool.not_false,decide_true,decide_false,↓zj,↓zk,↓zl,↓zm,↓zn,↓zo,↓zp,↓zq,↓zr,↓zt,↓zu,↓zv,zj,zk,zl,zm,zn,zo,zp,zq,zr,zt,zu,zv,↓zw,↓zx,↓zy,↓zz,↓z9,↓ya,↓yb,↓yc,↓yd,↓ye,↓yf,↓yg,↓yh,↓yi,↓yj,↓yk,↓yl,↓ym,↓yn,↓yo,↓yp,↓eC,↓yq,↓eB,↓yr,↓yt,↓yu,↓yw,↓yx,↓yy,↓yz,↓y5,↓y6,↓y8,↓y9,↓xa,↓xb,↓xc,↓xg,↓xh,↓xi,↓xj,↓xk,↓xl,↓xm,↓xn,↓xo,↓xp,↓xq,↓xr,↓xt,↓xu,↓xy,↓xz,↓x5,↓x6,↓x7,↓x8,↓x9,↓wa,↓wb,↓wc,↓wd,↓we,↓wf,↓wg,↓wh,↓wj,↓wl,↓wm,↓wn,↓wo,↓wp,↓wq,↓wt,↓wu,wv,ww,wx,wy,wz,w3,w4,↓x9,↓wa,↓w6,↓x8,↓w7,↓w8,↓w9,va,vb,↓vc,↓vd,↓vf,↓vg,↓vh,↓vi,↓vj,↓vk,↓vm,↓vn,↓vo,↓vp,↓vq,↓vt,↓vv,↓vw,↓vx,↓vy,↓vz,↓v0,↓v3,↓v4,↓v5,↓v7,↓v8,↓v9,↓ua,↓ub,↓uc,↓ud,↓ue,↓uf,↓ug,↓uh,ui,uj,uk,ul,um,uo,uq,ur,ut,uu,uv,uw,ux,uy,uz,u2,u3,u5,u6,u7,u8,Option.bind_some,u9,tj,tm,tq,tv,tw,tz,t3,t8,t9,sf,true_and,beq_self_eq_true,Bool.false_eq_true,c0,c1,Int.cast_ofNat_Int,Int.reduceEq,Int.reduceLT,Int.reduceLE,Int.reduceAdd,Int.reduceSub,↓reduceIte]
        exact q
    · rw [decide_eq_false e2] at q ⊢
      try simp -dsimp only [↓za,↓zb,↓zc,↓zd,↓ze,↓zf,↓zg,zh,zi,List.map_cons,List.map_nil,List.length_cons,List.length_nil,List.replicate_succ,List.replicate_zero,List.cons_append,List.nil_append,Nat.reduceAdd,Nat.reduceSub,List.set_cons_zero,List.set_cons_succ,List.getElem?_cons_zero,List.getElem?_cons_succ,Bool.not_true,Bool.not_false,decide_true,decide_false,↓zj,↓zk,↓zl,↓zm,↓zn,↓zo,↓zp,↓zq,↓zr,↓zt,↓zu,↓zv,zj,zk,zl,zm,zn,zo,zp,zq,zr,zt,zu,zv,↓zw,↓zx,↓zy,↓zz,↓z9,↓ya,↓yb,↓yc,↓yd,↓ye,↓yf,↓yg,↓yh,↓yi,↓yj,↓yk,↓yl,↓ym,↓yn,↓yo,↓yp,↓eC,↓yq,↓eB,↓yr,↓yt,↓yu,↓yw,↓yx,↓yy,↓yz,↓y5,↓y6,↓y8,↓y9,↓xa,↓xb,↓xc,↓xg,↓xh,↓xi,↓xj,↓xk,↓xl,↓xm,↓xn,↓xo,↓xp,↓xq,↓xr,↓xt,↓xu,↓xy,↓xz,↓x5,↓x6,↓x7,↓x8,↓x9,↓wa,↓wb,↓wc,↓wd,↓we,↓wf,↓wg,↓wh,↓wj,↓wl,↓wm,↓wn,↓wo,↓wp,↓wq,↓wt,↓wu,wv,ww,wx,wy,wz,w3,w4,↓x9,↓wa,↓w6,↓x8,↓w7,↓w8,↓w9,va,vb,↓vc,↓vd,↓vf,↓vg,↓vh,↓vi,↓vj,↓vk,↓vm,↓vn,↓vo,↓vp,↓vq,↓vt,↓vv,↓vw,↓vx,↓vy,↓vz,↓v0,↓v3,↓v4,↓v5,↓v7,↓v8,↓v9,↓ua,↓ub,↓uc,↓ud,↓ue,↓uf,↓ug,↓uh,ui,uj,uk,ul,um,uo,uq,ur,ut,uu,uv,uw,ux,uy,uz,u2,u3,u5,u6,u7,u8,Option.bind_some,u9,tj,tm,tq,tv,tw,tz,t3,t8,t9,sf,true_and,beq_self_eq_true,Bool.false_eq_true,c0,c1,Int.cast_ofNat_Int,Int.reduceEq,Int.reduceLT,Int.reduceLE,Int.reduceAdd,Int.reduceSub,↓reduceIte]
      exact q
  · rw [decide_eq_false e1] at q ⊢
    try simp -dsimp only [↓za,↓zb,↓zc,↓zd,↓ze,↓zf,↓zg,zh,zi,List.map_cons,List.map_nil,List.length_cons,List.length_nil,List.replicate_succ,List.replicate_zero,List.cons_append,List.nil_append,Nat.reduceAdd,Nat.reduceSub,List.set_cons_zero,List.set_cons_succ,List.getElem?_cons_zero,List.getElem?_cons_succ,Bool.not_true,Bool.not_false,decide_true,decide_false,↓zj,↓zk,↓zl,↓zm,↓zn,↓zo,↓zp,↓zq,↓zr,↓zt,↓zu,↓zv,zj,zk,zl,zm,zn,zo,zp,zq,zr,zt,zu,zv,↓zw,↓zx,↓zy,↓zz,↓z9,↓ya,↓yb,↓yc,↓yd,↓ye,↓yf,↓yg,↓yh,↓yi,↓yj,↓yk,↓yl,↓ym,↓yn,↓yo,↓yp,↓eC,↓yq,↓eB,↓yr,↓yt,↓yu,↓yw,↓yx,↓yy,↓yz,↓y5,↓y6,↓y8,↓y9,↓xa,↓xb,↓xc,↓xg,↓xh,↓xi,↓xj,↓xk,↓xl,↓xm,↓xn,↓xo,↓xp,↓xq,↓xr,↓xt,↓xu,↓xy,↓xz,↓x5,↓x6,↓x7,↓x8,↓x9,↓wa,↓wb,↓wc,↓wd,↓we,↓wf,↓wg,↓wh,↓wj,↓wl,↓wm,↓wn,↓wo,↓wp,↓wq,↓wt,↓wu,wv,ww,wx,wy,wz,w3,w4,↓x9,↓wa,↓w6,↓x8,↓w7,↓w8,↓w9,va,vb,↓vc,↓vd,↓vf,↓vg,↓vh,↓vi,↓vj,↓vk,↓vm,↓vn,↓vo,↓vp,↓vq,↓vt,↓vv,↓vw,↓vx,↓vy,↓vz,↓v0,↓v3,↓v4,↓v5,↓v7,↓v8,↓v9,↓ua,↓ub,↓uc,↓ud,↓ue,↓uf,↓ug,↓uh,ui,uj,uk,ul,um,uo,uq,ur,ut,uu,uv,uw,ux,uy,uz,u2,u3,u5,u6,u7,u8,Option.bind_some,u9,tj,tm,tq,tv,tw,tz,t3,t8,t9,sf,true_and,beq_self_eq_true,Bool.false_eq_true,c0,c1,Int.cast_ofNat_Int,Int.reduceEq,Int.reduceLT,Int.reduceLE,Int.reduceAdd,Int.reduceSub,↓reduceIte]
    exact q
theorem b_faultYt (m : RM) (M : Mu) (Q : D → Mu → Prop) (xw : XW) (hm : m.ok) (q : Q (faultD m) M) : zh N_fault (f_fault S_is_ruleX) [.tup [.int m.m, .int m.c, .int m.q, .int m.l, .tup (m.r.map rrD)]] M Q xw := by
  have q : Q (faultD m) (mres M M) := by rw [mres_self]; exact q
  obtain ⟨m, c, qq, l, rs⟩ := m
  unfold faultD at q
  dsimp only at q
  simp only [zh, bodyL, zi, N_fault, List.map_cons, List.map_nil, List.length_cons, List.length_nil, List.replicate_succ, List.replicate_zero, List.cons_append, List.nil_append, Nat.reduceAdd, Nat.reduceSub]
  unfold f_fault
  try simp -dsimp only [↓za,↓zb,↓zc,↓zd,↓ze,↓zf,↓zg,zh,zi,List.map_cons,List.map_nil,List.length_cons,List.length_nil,List.replicate_succ,List.replicate_zero,List.cons_append,List.nil_append,Nat.reduceAdd,Nat.reduceSub,List.set_cons_zero,List.set_cons_succ,List.getElem?_cons_zero,List.getElem?_cons_succ,Bool.not_true,Bool.not_false,decide_true,decide_false,↓zj,↓zk,↓zl,↓zm,↓zn,↓zo,↓zp,↓zq,↓zr,↓zt,↓zu,↓zv,zj,zk,zl,zm,zn,zo,zp,zq,zr,zt,zu,zv,↓zw,↓zx,↓zy,↓zz,↓z9,↓ya,↓yb,↓yc,↓yd,↓ye,↓yf,↓yg,↓yh,↓yi,↓yj,↓yk,↓yl,↓ym,↓yn,↓yo,↓yp,↓eC,↓yq,↓eB,↓yr,↓yt,↓yu,↓yw,↓yx,↓yy,↓yz,↓y5,↓y6,↓y8,↓y9,↓xa,↓xb,↓xc,↓xg,↓xh,↓xi,↓xj,↓xk,↓xl,↓xm,↓xn,↓xo,↓xp,↓xq,↓xr,↓xt,↓xu,↓xy,↓xz,↓x5,↓x6,↓x7,↓x8,↓x9,↓wa,↓wb,↓wc,↓wd,↓we,↓wf,↓wg,↓wh,↓wj,↓wl,↓wm,↓wn,↓wo,↓wp,↓wq,↓wt,↓wu,wv,ww,wx,wy,wz,w3,w4,↓x9,↓wa,↓w6,↓x8,↓w7,↓w8,↓w9,va,vb,↓vc,↓vd,↓vf,↓vg,↓vh,↓vi,↓vj,↓vk,↓vm,↓vn,↓vo,↓vp,↓vq,↓vt,↓vv,↓vw,↓vx,↓vy,↓vz,↓v0,↓v3,↓v4,↓v5,↓v7,↓v8,↓v9,↓ua,↓ub,↓uc,↓ud,↓ue,↓uf,↓ug,↓uh,ui,uj,uk,ul,um,uo,uq,ur,ut,uu,uv,uw,ux,uy,uz,u2,u3,u5,u6,u7,u8,Option.bind_some,u9,tj,tm,tq,tv,tw,tz,t3,t8,t9,sf,true_and,beq_self_eq_true,Bool.false_eq_true,c0,c1,Int.cast_ofNat_Int,Int.reduceEq,Int.reduceLT,Int.reduceLE,Int.reduceAdd,Int.reduceSub,↓reduceIte]
  by_cases e1 : 1 ≤ m ∧ m ≤ 6
  · rw [if_neg (not_not_intro e1)] at q
    rw [decide_eq_true e1.1]
    try simp -dsimp only [↓za,↓zb,↓zc,↓zd,↓ze,↓zf,↓zg,zh,zi,List.map_cons,List.map_nil,List.length_cons,List.length_nil,List.replicate_succ,List.replicate_zero,List.cons_append,List.nil_append,Nat.reduceAdd,Nat.reduceSub,List.set_cons_zero,List.set_cons_succ,List.getElem?_cons_zero,List.getElem?_cons_succ,Bool.not_true,Bool.not_false,decide_true,decide_false,↓zj,↓zk,↓zl,↓zm,↓zn,↓zo,↓zp,↓zq,↓zr,↓zt,↓zu,↓zv,zj,zk,zl,zm,zn,zo,zp,zq,zr,zt,zu,zv,↓zw,↓zx,↓zy,↓zz,↓z9,↓ya,↓yb,↓yc,↓yd,↓ye,↓yf,↓yg,↓yh,↓yi,↓yj,↓yk,↓yl,↓ym,↓yn,↓yo,↓yp,↓eC,↓yq,↓eB,↓yr,↓yt,↓yu,↓yw,↓yx,↓yy,↓yz,↓y5,↓y6,↓y8,↓y9,↓xa,↓xb,↓xc,↓xg,↓xh,↓xi,↓xj,↓xk,↓xl,↓xm,↓xn,↓xo,↓xp,↓xq,↓xr,↓xt,↓xu,↓xy,↓xz,↓x5,↓x6,↓x7,↓x8,↓x9,↓wa,↓wb,↓wc,↓wd,↓we,↓wf,↓wg,↓wh,↓wj,↓wl,↓wm,↓wn,↓wo,↓wp,↓wq,↓wt,↓wu,wv,ww,wx,wy,wz,w3,w4,↓x9,↓wa,↓w6,↓x8,↓w7,↓w8,↓w9,va,vb,↓vc,↓vd,↓vf,↓vg,↓vh,↓vi,↓vj,↓vk,↓vm,↓vn,↓vo,↓vp,↓vq,↓vt,↓vv,↓vw,↓vx,↓vy,↓vz,↓v0,↓v3,↓v4,↓v5,↓v7,↓v8,↓v9,↓ua,↓ub,↓uc,↓ud,↓ue,↓uf,↓ug,↓uh,ui,uj,uk,ul,um,uo,uq,ur,ut,uu,uv,uw,ux,uy,uz,u2,u3,u5,u6,u7,u8,Option.bind_some,u9,tj,tm,tq,tv,tw,tz,t3,t8,t9,sf,true_and,beq_self_eq_true,Bool.false_eq_true,c0,c1,Int.cast_ofNat_Int,Int.reduceEq,Int.reduceLT,Int.reduceLE,Int.reduceAdd,Int.reduceSub,↓reduceIte]
    rw [decide_eq_true e1.2]
    try simp -dsimp only [↓za,↓zb,↓zc,↓zd,↓ze,↓zf,↓zg,zh,zi,List.map_cons,List.map_nil,List.length_cons,List.length_nil,List.replicate_succ,List.replicate_zero,List.cons_append,List.nil_append,Nat.reduceAdd,Nat.reduceSub,List.set_cons_zero,List.set_cons_succ,List.getElem?_cons_zero,List.getElem?_cons_succ,Bool.not_true,Bool.not_false,decide_true,decide_false,↓zj,↓zk,↓zl,↓zm,↓zn,↓zo,↓zp,↓zq,↓zr,↓zt,↓zu,↓zv,zj,zk,zl,zm,zn,zo,zp,zq,zr,zt,zu,zv,↓zw,↓zx,↓zy,↓zz,↓z9,↓ya,↓yb,↓yc,↓yd,↓ye,↓yf,↓yg,↓yh,↓yi,↓yj,↓yk,↓yl,↓ym,↓yn,↓yo,↓yp,↓eC,↓yq,↓eB,↓yr,↓yt,↓yu,↓yw,↓yx,↓yy,↓yz,↓y5,↓y6,↓y8,↓y9,↓xa,↓xb,↓xc,↓xg,↓xh,↓xi,↓xj,↓xk,↓xl,↓xm,↓xn,↓xo,↓xp,↓xq,↓xr,↓xt,↓xu,↓xy,↓xz,↓x5,↓x6,↓x7,↓x8,↓x9,↓wa,↓wb,↓wc,↓wd,↓we,↓wf,↓wg,↓wh,↓wj,↓wl,↓wm,↓wn,↓wo,↓wp,↓wq,↓wt,↓wu,wv,ww,wx,wy,wz,w3,w4,↓x9,↓wa,↓w6,↓x8,↓w7,↓w8,↓w9,va,vb,↓vc,↓vd,↓vf,↓vg,↓vh,↓vi,↓vj,↓vk,↓vm,↓vn,↓vo,↓vp,↓vq,↓vt,↓vv,↓vw,↓vx,↓vy,↓vz,↓v0,↓v3,↓v4,↓v5,↓v7,↓v8,↓v9,↓ua,↓ub,↓uc,↓ud,↓ue,↓uf,↓ug,↓uh,ui,uj,uk,ul,um,uo,uq,ur,ut,uu,uv,uw,ux,uy,uz,u2,u3,u5,u6,u7,u8,Option.bind_some,u9,tj,tm,tq,tv,tw,tz,t3,t8,t9,sf,true_and,beq_self_eq_true,Bool.false_eq_true,c0,c1,Int.cast_ofNat_Int,Int.reduceEq,Int.reduceLT,Int.reduceLE,Int.reduceAdd,Int.reduceSub,↓reduceIte]
    by_cases e2 : 0 ≤ c ∧ c ≤ 4
    · rw [if_neg (not_not_intro e2)] at q
      rw [decide_eq_true e2.1]
      try simp -dsimp only [↓za,↓zb,↓zc,↓zd,↓ze,↓zf,↓zg,zh,zi,List.map_cons,List.map_nil,List.length_cons,List.length_nil,List.replicate_succ,List.replicate_zero,List.cons_append,List.nil_append,Nat.reduceAdd,Nat.reduceSub,List.set_cons_zero,List.set_cons_succ,List.getElem?_cons_zero,List.getElem?_cons_succ,Bool.not_true,Bool.not_false,decide_true,decide_false,↓zj,↓zk,↓zl,↓zm,↓zn,↓zo,↓zp,↓zq,↓zr,↓zt,↓zu,↓zv,zj,zk,zl,zm,zn,zo,zp,zq,zr,zt,zu,zv,↓zw,↓zx,↓zy,↓zz,↓z9,↓ya,↓yb,↓yc,↓yd,↓ye,↓yf,↓yg,↓yh,↓yi,↓yj,↓yk,↓yl,↓ym,↓yn,↓yo,↓yp,↓eC,↓yq,↓eB,↓yr,↓yt,↓yu,↓yw,↓yx,↓yy,↓yz,↓y5,↓y6,↓y8,↓y9,↓xa,↓xb,↓xc,↓xg,↓xh,↓xi,↓xj,↓xk,↓xl,↓xm,↓xn,↓xo,↓xp,↓xq,↓xr,↓xt,↓xu,↓xy,↓xz,↓x5,↓x6,↓x7,↓x8,↓x9,↓wa,↓wb,↓wc,↓wd,↓we,↓wf,↓wg,↓wh,↓wj,↓wl,↓wm,↓wn,↓wo,↓wp,↓wq,↓wt,↓wu,wv,ww,wx,wy,wz,w3,w4,↓x9,↓wa,↓w6,↓x8,↓w7,↓w8,↓w9,va,vb,↓vc,↓vd,↓vf,↓vg,↓vh,↓vi,↓vj,↓vk,↓vm,↓vn,↓vo,↓vp,↓vq,↓vt,↓vv,↓vw,↓vx,↓vy,↓vz,↓v0,↓v3,↓v4,↓v5,↓v7,↓v8,↓v9,↓ua,↓ub,↓uc,↓ud,↓ue,↓uf,↓ug,↓uh,ui,uj,uk,ul,um,uo,uq,ur,ut,uu,uv,uw,ux,uy,uz,u2,u3,u5,u6,u7,u8,Option.bind_some,u9,tj,tm,tq,tv,tw,tz,t3,t8,t9,sf,true_and,beq_self_eq_true,Bool.false_eq_true,c0,c1,Int.cast_ofNat_Int,Int.reduceEq,Int.reduceLT,Int.reduceLE,Int.reduceAdd,Int.reduceSub,↓reduceIte]
      rw [decide_eq_true e2.2]
      try simp -dsimp only [↓za,↓zb,↓zc,↓zd,↓ze,↓zf,↓zg,zh,zi,List.map_cons,List.map_nil,List.length_cons,List.length_nil,List.replicate_succ,List.replicate_zero,List.cons_append,List.nil_append,Nat.reduceAdd,Nat.reduceSub,List.set_cons_zero,List.set_cons_succ,List.getElem?_cons_zero,List.getElem?_cons_succ,Bool.not_true,Bool.not_false,decide_true,decide_false,↓zj,↓zk,↓zl,↓zm,↓zn,↓zo,↓zp,↓zq,↓zr,↓zt,↓zu,↓zv,zj,zk,zl,zm,zn,zo,zp,zq,zr,zt,zu,zv,↓zw,↓zx,↓zy,↓zz,↓z9,↓ya,↓yb,↓yc,↓yd,↓ye,↓yf,↓yg,↓yh,↓yi,↓yj,↓yk,↓yl,↓ym,↓yn,↓yo,↓yp,↓eC,↓yq,↓eB,↓yr,↓yt,↓yu,↓yw,↓yx,↓yy,↓yz,↓y5,↓y6,↓y8,↓y9,↓xa,↓xb,↓xc,↓xg,↓xh,↓xi,↓xj,↓xk,↓xl,↓xm,↓xn,↓xo,↓xp,↓xq,↓xr,↓xt,↓xu,↓xy,↓xz,↓x5,↓x6,↓x7,↓x8,↓x9,↓wa,↓wb,↓wc,↓wd,↓we,↓wf,↓wg,↓wh,↓wj,↓wl,↓wm,↓wn,↓wo,↓wp,↓wq,↓wt,↓wu,wv,ww,wx,wy,wz,w3,w4,↓x9,↓wa,↓w6,↓x8,↓w7,↓w8,↓w9,va,vb,↓vc,↓vd,↓vf,↓vg,↓vh,↓vi,↓vj,↓vk,↓vm,↓vn,↓vo,↓vp,↓vq,↓vt,↓vv,↓vw,↓vx,↓vy,↓vz,↓v0,↓v3,↓v4,↓v5,↓v7,↓v8,↓v9,↓ua,↓ub,↓uc,↓ud,↓ue,↓uf,↓ug,↓uh,ui,uj,uk,ul,um,uo,uq,ur,ut,uu,uv,uw,ux,uy,uz,u2,u3,u5,u6,u7,u8,Option.bind_some,u9,tj,tm,tq,tv,tw,tz,t3,t8,t9,sf,true_and,beq_self_eq_true,Bool.false_eq_true,c0,c1,Int.cast_ofNat_Int,Int.reduceEq,Int.reduceLT,Int.reduceLE,Int.reduceAdd,Int.reduceSub,↓reduceIte]
      by_cases e3 : 0 ≤ qq ∧ qq ≤ 2
      · rw [if_neg (not_not_intro e3)] at q
        rw [decide_eq_true e3.1]
        try simp -dsimp only [↓za,↓zb,↓zc,↓zd,↓ze,↓zf,↓zg,zh,zi,List.map_cons,List.map_nil,List.length_cons,List.length_nil,List.replicate_succ,List.replicate_zero,List.cons_append,List.nil_append,Nat.reduceAdd,Nat.reduceSub,List.set_cons_zero,List.set_cons_succ,List.getElem?_cons_zero,List.getElem?_cons_succ,Bool.not_true,Bool.not_false,decide_true,decide_false,↓zj,↓zk,↓zl,↓zm,↓zn,↓zo,↓zp,↓zq,↓zr,↓zt,↓zu,↓zv,zj,zk,zl,zm,zn,zo,zp,zq,zr,zt,zu,zv,↓zw,↓zx,↓zy,↓zz,↓z9,↓ya,↓yb,↓yc,↓yd,↓ye,↓yf,↓yg,↓yh,↓yi,↓yj,↓yk,↓yl,↓ym,↓yn,↓yo,↓yp,↓eC,↓yq,↓eB,↓yr,↓yt,↓yu,↓yw,↓yx,↓yy,↓yz,↓y5,↓y6,↓y8,↓y9,↓xa,↓xb,↓xc,↓xg,↓xh,↓xi,↓xj,↓xk,↓xl,↓xm,↓xn,↓xo,↓xp,↓xq,↓xr,↓xt,↓xu,↓xy,↓xz,↓x5,↓x6,↓x7,↓x8,↓x9,↓wa,↓wb,↓wc,↓wd,↓we,↓wf,↓wg,↓wh,↓wj,↓wl,↓wm,↓wn,↓wo,↓wp,↓wq,↓wt,↓wu,wv,ww,wx,wy,wz,w3,w4,↓x9,↓wa,↓w6,↓x8,↓w7,↓w8,↓w9,va,vb,↓vc,↓vd,↓vf,↓vg,↓vh,↓vi,↓vj,↓vk,↓vm,↓vn,↓vo,↓vp,↓vq,↓vt,↓vv,↓vw,↓vx,↓vy,↓vz,↓v0,↓v3,↓v4,↓v5,↓v7,↓v8,↓v9,↓ua,↓ub,↓uc,↓ud,↓ue,↓uf,↓ug,↓uh,ui,uj,uk,ul,um,uo,uq,ur,ut,uu,uv,uw,ux,uy,uz,u2,u3,u5,u6,u7,u8,Option.bind_some,u9,tj,tm,tq,tv,tw,tz,t3,t8,t9,sf,true_and,beq_self_eq_true,Bool.false_eq_true,c0,c1,Int.cast_ofNat_Int,Int.reduceEq,Int.reduceLT,Int.reduceLE,Int.reduceAdd,Int.reduceSub,↓reduceIte]
        rw [decide_eq_true e3.2]
        try simp -dsimp only [↓za,↓zb,↓zc,↓zd,↓ze,↓zf,↓zg,zh,zi,List.map_cons,List.map_nil,List.length_cons,List.length_nil,List.replicate_succ,List.replicate_zero,List.cons_append,List.nil_append,Nat.reduceAdd,Nat.reduceSub,List.set_cons_zero,List.set_cons_succ,List.getElem?_cons_zero,List.getElem?_cons_succ,Bool.not_true,Bool.not_false,decide_true,decide_false,↓zj,↓zk,↓zl,↓zm,↓zn,↓zo,↓zp,↓zq,↓zr,↓zt,↓zu,↓zv,zj,zk,zl,zm,zn,zo,zp,zq,zr,zt,zu,zv,↓zw,↓zx,↓zy,↓zz,↓z9,↓ya,↓yb,↓yc,↓yd,↓ye,↓yf,↓yg,↓yh,↓yi,↓yj,↓yk,↓yl,↓ym,↓yn,↓yo,↓yp,↓eC,↓yq,↓eB,↓yr,↓yt,↓yu,↓yw,↓yx,↓yy,↓yz,↓y5,↓y6,↓y8,↓y9,↓xa,↓xb,↓xc,↓xg,↓xh,↓xi,↓xj,↓xk,↓xl,↓xm,↓xn,↓xo,↓xp,↓xq,↓xr,↓xt,↓xu,↓xy,↓xz,↓x5,↓x6,↓x7,↓x8,↓x9,↓wa,↓wb,↓wc,↓wd,↓we,↓wf,↓wg,↓wh,↓wj,↓wl,↓wm,↓wn,↓wo,↓wp,↓wq,↓wt,↓wu,wv,ww,wx,wy,wz,w3,w4,↓x9,↓wa,↓w6,↓x8,↓w7,↓w8,↓w9,va,vb,↓vc,↓vd,↓vf,↓vg,↓vh,↓vi,↓vj,↓vk,↓vm,↓vn,↓vo,↓vp,↓vq,↓vt,↓vv,↓vw,↓vx,↓vy,↓vz,↓v0,↓v3,↓v4,↓v5,↓v7,↓v8,↓v9,↓ua,↓ub,↓uc,↓ud,↓ue,↓uf,↓ug,↓uh,ui,uj,uk,ul,um,uo,uq,ur,ut,uu,uv,uw,ux,uy,uz,u2,u3,u5,u6,u7,u8,Option.bind_some,u9,tj,tm,tq,tv,tw,tz,t3,t8,t9,sf,true_and,beq_self_eq_true,Bool.false_eq_true,c0,c1,Int.cast_ofNat_Int,Int.reduceEq,Int.reduceLT,Int.reduceLE,Int.reduceAdd,Int.reduceSub,↓reduceIte]
        by_cases e4 : 0 ≤ l ∧ l ≤ 3
        · rw [if_neg (not_not_intro e4)] at q
          rw [decide_eq_true e4.1]
          try simp -dsimp only [↓za,↓zb,↓zc,↓zd,↓ze,↓zf,↓zg,zh,zi,List.map_cons,List.map_nil,List.length_cons,List.length_nil,List.replicate_succ,List.replicate_zero,List.cons_append,List.nil_append,Nat.reduceAdd,Nat.reduceSub,List.set_cons_zero,List.set_cons_succ,List.getElem?_cons_zero,List.getElem?_cons_succ,Bool.not_true,Bool.not_false,decide_true,decide_false,↓zj,↓zk,↓zl,↓zm,↓zn,↓zo,↓zp,↓zq,↓zr,↓zt,↓zu,↓zv,zj,zk,zl,zm,zn,zo,zp,zq,zr,zt,zu,zv,↓zw,↓zx,↓zy,↓zz,↓z9,↓ya,↓yb,↓yc,↓yd,↓ye,↓yf,↓yg,↓yh,↓yi,↓yj,↓yk,↓yl,↓ym,↓yn,↓yo,↓yp,↓eC,↓yq,↓eB,↓yr,↓yt,↓yu,↓yw,↓yx,↓yy,↓yz,↓y5,↓y6,↓y8,↓y9,↓xa,↓xb,↓xc,↓xg,↓xh,↓xi,↓xj,↓xk,↓xl,↓xm,↓xn,↓xo,↓xp,↓xq,↓xr,↓xt,↓xu,↓xy,↓xz,↓x5,↓x6,↓x7,↓x8,↓x9,↓wa,↓wb,↓wc,↓wd,↓we,↓wf,↓wg,↓wh,↓wj,↓wl,↓wm,↓wn,↓wo,↓wp,↓wq,↓wt,↓wu,wv,ww,wx,wy,wz,w3,w4,↓x9,↓wa,↓w6,↓x8,↓w7,↓w8,↓w9,va,vb,↓vc,↓vd,↓vf,↓vg,↓vh,↓vi,↓vj,↓vk,↓vm,↓vn,↓vo,↓vp,↓vq,↓vt,↓vv,↓vw,↓vx,↓vy,↓vz,↓v0,↓v3,↓v4,↓v5,↓v7,↓v8,↓v9,↓ua,↓ub,↓uc,↓ud,↓ue,↓uf,↓ug,↓uh,ui,uj,uk,ul,um,uo,uq,ur,ut,uu,uv,uw,ux,uy,uz,u2,u3,u5,u6,u7,u8,Option.bind_some,u9,tj,tm,tq,tv,tw,tz,t3,t8,t9,sf,true_and,beq_self_eq_true,Bool.false_eq_true,c0,c1,Int.cast_ofNat_Int,Int.reduceEq,Int.reduceLT,Int.reduceLE,Int.reduceAdd,Int.reduceSub,↓reduceIte]
          rw [decide_eq_true e4.2]
          try simp -dsimp only [↓za,↓zb,↓zc,↓zd,↓ze,↓zf,↓zg,zh,zi,List.map_cons,List.map_nil,List.length_cons,List.length_nil,List.replicate_succ,List.replicate_zero,List.cons_append,List.nil_append,Nat.reduceAdd,Nat.reduceSub,List.set_cons_zero,List.set_cons_succ,List.getElem?_cons_zero,List.getElem?_cons_succ,Bool.not_true,Bool.not_false,decide_true,decide_false,↓zj,↓zk,↓zl,↓zm,↓zn,↓zo,↓zp,↓zq,↓zr,↓zt,↓zu,↓zv,zj,zk,zl,zm,zn,zo,zp,zq,zr,zt,zu,zv,↓zw,↓zx,↓zy,↓zz,↓z9,↓ya,↓yb,↓yc,↓yd,↓ye,↓yf,↓yg,↓yh,↓yi,↓yj,↓yk,↓yl,↓ym,↓yn,↓yo,↓yp,↓eC,↓yq,↓eB,↓yr,↓yt,↓yu,↓yw,↓yx,↓yy,↓yz,↓y5,↓y6,↓y8,↓y9,↓xa,↓xb,↓xc,↓xg,↓xh,↓xi,↓xj,↓xk,↓xl,↓xm,↓xn,↓xo,↓xp,↓xq,↓xr,↓xt,↓xu,↓xy,↓xz,↓x5,↓x6,↓x7,↓x8,↓x9,↓wa,↓wb,↓wc,↓wd,↓we,↓wf,↓wg,↓wh,↓wj,↓wl,↓wm,↓wn,↓wo,↓wp,↓wq,↓wt,↓wu,wv,ww,wx,wy,wz,w3,w4,↓x9,↓wa,↓w6,↓x8,↓w7,↓w8,↓w9,va,vb,↓vc,↓vd,↓vf,↓vg,↓vh,↓vi,↓vj,↓vk,↓vm,↓vn,↓vo,↓vp,↓vq,↓vt,↓vv,↓vw,↓vx,↓vy,↓vz,↓v0,↓v3,↓v4,↓v5,↓v7,↓v8,↓v9,↓ua,↓ub,↓uc,↓ud,↓ue,↓uf,↓ug,↓uh,ui,uj,uk,ul,um,uo,uq,ur,ut,uu,uv,uw,ux,uy,uz,u2,u3,u5,u6,u7,u8,Option.bind_some,u9,tj,tm,tq,tv,tw,tz,t3,t8,t9,sf,true_and,beq_self_eq_true,Bool.false_eq_true,c0,c1,Int.cast_ofNat_Int,Int.reduceEq,Int.reduceLT,Int.reduceLE,Int.reduceAdd,Int.reduceSub,↓reduceIte, List.length_map]
          by_cases e5 : 20 < rs.length
          · rw [if_pos e5] at q
            have e5' : (20 : Int) < (rs.length : Int) := by omega
            rw [decide_eq_true e5']
            try simp -dsimp only [↓za,↓zb,↓zc,↓zd,↓ze,↓zf,↓zg,zh,zi,List.map_cons,List.map_nil,List.length_cons,List.length_nil,List.replicate_succ,List.replicate_zero,List.cons_append,List.nil_append,Nat.reduceAdd,Nat.reduceSub,List.set_cons_zero,List.set_cons_succ,List.getElem?_cons_zero,List.getElem?_cons_succ,Bool.not_true,Bool.not_false,decide_true,decide_false,↓zj,↓zk,↓zl,↓zm,↓zn,↓zo,↓zp,↓zq,↓zr,↓zt,↓zu,↓zv,zj,zk,zl,zm,zn,zo,zp,zq,zr,zt,zu,zv,↓zw,↓zx,↓zy,↓zz,↓z9,↓ya,↓yb,↓yc,↓yd,↓ye,↓yf,↓yg,↓yh,↓yi,↓yj,↓yk,↓yl,↓ym,↓yn,↓yo,↓yp,↓eC,↓yq,↓eB,↓yr,↓yt,↓yu,↓yw,↓yx,↓yy,↓yz,↓y5,↓y6,↓y8,↓y9,↓xa,↓xb,↓xc,↓xg,↓xh,↓xi,↓xj,↓xk,↓xl,↓xm,↓xn,↓xo,↓xp,↓xq,↓xr,↓xt,↓xu,↓xy,↓xz,↓x5,↓x6,↓x7,↓x8,↓x9,↓wa,↓wb,↓wc,↓wd,↓we,↓wf,↓wg,↓wh,↓wj,↓wl,↓wm,↓wn,↓wo,↓wp,↓wq,↓wt,↓wu,wv,ww,wx,wy,wz,w3,w4,↓x9,↓wa,↓w6,↓x8,↓w7,↓w8,↓w9,va,vb,↓vc,↓vd,↓vf,↓vg,↓vh,↓vi,↓vj,↓vk,↓vm,↓vn,↓vo,↓vp,↓vq,↓vt,↓vv,↓vw,↓vx,↓vy,↓vz,↓v0,↓v3,↓v4,↓v5,↓v7,↓v8,↓v9,↓ua,↓ub,↓uc,↓ud,↓ue,↓uf,↓ug,↓uh,ui,uj,uk,ul,um,uo,uq,ur,ut,uu,uv,uw,ux,uy,uz,u2,u3,u5,u6,u7,u8,Option.bind_some,u9,tj,tm,tq,tv,tw,tz,t3,t8,t9,sf,true_and,beq_self_eq_true,Bool.false_eq_true,c0,c1,Int.cast_ofNat_Int,Int.reduceEq,Int.reduceLT,Int.reduceLE,Int.reduceAdd,Int.reduceSub,↓reduceIte]
            exact ⟨by decide, q⟩
          · rw [if_neg e5] at q
            have e5' : ¬ (20 : Int) < (rs.length : Int) := by omega
            rw [decide_eq_false e5']
            try simp -dsimp only [↓za,↓zb,↓zc,↓zd,↓ze,↓zf,↓zg,zh,zi,List.map_cons,List.map_nil,List.length_cons,List.length_nil,List.replicate_succ,List.replicate_zero,List.cons_append,List.nil_append,Nat.reduceAdd,Nat.reduceSub,List.set_cons_zero,List.set_cons_succ,List.getElem?_cons_zero,List.getElem?_cons_succ,Bool.not_true,Bool.not_false,decide_true,decide_false,↓zj,↓zk,↓zl,↓zm,↓zn,↓zo,↓zp,↓zq,↓zr,↓zt,↓zu,↓zv,zj,zk,zl,zm,zn,zo,zp,zq,zr,zt,zu,zv,↓zw,↓zx,↓zy,↓zz,↓z9,↓ya,↓yb,↓yc,↓yd,↓ye,↓yf,↓yg,↓yh,↓yi,↓yj,↓yk,↓yl,↓ym,↓yn,↓yo,↓yp,↓eC,↓yq,↓eB,↓yr,↓yt,↓yu,↓yw,↓yx,↓yy,↓yz,↓y5,↓y6,↓y8,↓y9,↓xa,↓xb,↓xc,↓xg,↓xh,↓xi,↓xj,↓xk,↓xl,↓xm,↓xn,↓xo,↓xp,↓xq,↓xr,↓xt,↓xu,↓xy,↓xz,↓x5,↓x6,↓x7,↓x8,↓x9,↓wa,↓wb,↓wc,↓wd,↓we,↓wf,↓wg,↓wh,↓wj,↓wl,↓wm,↓wn,↓wo,↓wp,↓wq,↓wt,↓wu,wv,ww,wx,wy,wz,w3,w4,↓x9,↓wa,↓w6,↓x8,↓w7,↓w8,↓w9,va,vb,↓vc,↓vd,↓vf,↓vg,↓vh,↓vi,↓vj,↓vk,↓vm,↓vn,↓vo,↓vp,↓vq,↓vt,↓vv,↓vw,↓vx,↓vy,↓vz,↓v0,↓v3,↓v4,↓v5,↓v7,↓v8,↓v9,↓ua,↓ub,↓uc,↓ud,↓ue,↓uf,↓ug,↓uh,ui,uj,uk,ul,um,uo,uq,ur,ut,uu,uv,uw,ux,uy,uz,u2,u3,u5,u6,u7,u8,Option.bind_some,u9,tj,tm,tq,tv,tw,tz,t3,t8,t9,sf,true_and,beq_self_eq_true,Bool.false_eq_true,c0,c1,Int.cast_ofNat_Int,Int.reduceEq,Int.reduceLT,Int.reduceLE,Int.reduceAdd,Int.reduceSub,↓reduceIte]
            refine forS_en (fun k ρ M' => M = M' ∧ (∃ o6 o7, ρ = [some (.tup [.int m, .int c, .int qq, .int l, .tup (rs.map rrD)]), some (.int m), some (.int c), some (.int qq), some (.int l), some (.tup (rs.map rrD)), o6, o7]) ∧ ∀ j r, j < k → rs[j]? = some r → isRule ⟨m, c, qq, l, rs⟩ r = true) ⟨rfl, ⟨_, _, rfl⟩, fun j r hj => absurd hj (Nat.not_lt_zero _)⟩ ?_ ?_
            · rintro k x ρ M' hk ⟨rfl, ⟨o6, o7, rfl⟩, hf⟩ nn cc hn1 hc1
              try simp -dsimp only [↓za,↓zb,↓zc,↓zd,↓ze,↓zf,↓zg,zh,zi,List.map_cons,List.map_nil,List.length_cons,List.length_nil,List.replicate_succ,List.replicate_zero,List.cons_append,List.nil_append,Nat.reduceAdd,Nat.reduceSub,List.set_cons_zero,List.set_cons_succ,List.getElem?_cons_zero,List.getElem?_cons_succ,Bool.not_true,Bool.not_false,decide_true,decide_false,↓zj,↓zk,↓zl,↓zm,↓zn,↓zo,↓zp,↓zq,↓zr,↓zt,↓zu,↓zv,zj,zk,zl,zm,zn,zo,zp,zq,zr,zt,zu,zv,↓zw,↓zx,↓zy,↓zz,↓z9,↓ya,↓yb,↓yc,↓yd,↓ye,↓yf,↓yg,↓yh,↓yi,↓yj,↓yk,↓yl,↓ym,↓yn,↓yo,↓yp,↓eC,↓yq,↓eB,↓yr,↓yt,↓yu,↓yw,↓yx,↓yy,↓yz,↓y5,↓y6,↓y8,↓y9,↓xa,↓xb,↓xc,↓xg,↓xh,↓xi,↓xj,↓xk,↓xl,↓xm,↓xn,↓xo,↓xp,↓xq,↓xr,↓xt,↓xu,↓xy,↓xz,↓x5,↓x6,↓x7,↓x8,↓x9,↓wa,↓wb,↓wc,↓wd,↓we,↓wf,↓wg,↓wh,↓wj,↓wl,↓wm,↓wn,↓wo,↓wp,↓wq,↓wt,↓wu,wv,ww,wx,wy,wz,w3,w4,↓x9,↓wa,↓w6,↓x8,↓w7,↓w8,↓w9,va,vb,↓vc,↓vd,↓vf,↓vg,↓vh,↓vi,↓vj,↓vk,↓vm,↓vn,↓vo,↓vp,↓vq,↓vt,↓vv,↓vw,↓vx,↓vy,↓vz,↓v0,↓v3,↓v4,↓v5,↓v7,↓v8,↓v9,↓ua,↓ub,↓uc,↓ud,↓ue,↓uf,↓ug,↓uh,ui,uj,uk,ul,um,uo,uq,ur,ut,uu,uv,uw,ux,uy,uz,u2,u3,u5,u6,u7,u8,Option.bind_some,u9,tj,tm,tq,tv,tw,tz,t3,t8,t9,sf,true_and,beq_self_eq_true,Bool.false_eq_true,c0,c1,Int.cast_ofNat_Int,Int.reduceEq,Int.reduceLT,Int.reduceLE,Int.reduceAdd,Int.reduceSub,↓reduceIte]
              refine ⟨⟨m, c, qq, l, rs⟩, x, _, rfl, hm x (List.mem_of_getElem? hk), ?_⟩
              cases hx : isRule ⟨m, c, qq, l, rs⟩ x with
              | true =>
                try simp -dsimp only [↓za,↓zb,↓zc,↓zd,↓ze,↓zf,↓zg,zh,zi,List.map_cons,List.map_nil,List.length_cons,List.length_nil,List.replicate_succ,List.replicate_zero,List.cons_append,List.nil_append,Nat.reduceAdd,Nat.reduceSub,List.set_cons_zero,List.set_cons_succ,List.getElem?_cons_zero,List.getElem?_cons_succ,Bool.not_true,Bool.not_false,decide_true,decide_false,↓zj,↓zk,↓zl,↓zm,↓zn,↓zo,↓zp,↓zq,↓zr,↓zt,↓zu,↓zv,zj,zk,zl,zm,zn,zo,zp,zq,zr,zt,zu,zv,↓zw,↓zx,↓zy,↓zz,↓z9,↓ya,↓yb,↓yc,↓yd,↓ye,↓yf,↓yg,↓yh,↓yi,↓yj,↓yk,↓yl,↓ym,↓yn,↓yo,↓yp,↓eC,↓yq,↓eB,↓yr,↓yt,↓yu,↓yw,↓yx,↓yy,↓yz,↓y5,↓y6,↓y8,↓y9,↓xa,↓xb,↓xc,↓xg,↓xh,↓xi,↓xj,↓xk,↓xl,↓xm,↓xn,↓xo,↓xp,↓xq,↓xr,↓xt,↓xu,↓xy,↓xz,↓x5,↓x6,↓x7,↓x8,↓x9,↓wa,↓wb,↓wc,↓wd,↓we,↓wf,↓wg,↓wh,↓wj,↓wl,↓wm,↓wn,↓wo,↓wp,↓wq,↓wt,↓wu,wv,ww,wx,wy,wz,w3,w4,↓x9,↓wa,↓w6,↓x8,↓w7,↓w8,↓w9,va,vb,↓vc,↓vd,↓vf,↓vg,↓vh,↓vi,↓vj,↓vk,↓vm,↓vn,↓vo,↓vp,↓vq,↓vt,↓vv,↓vw,↓vx,↓vy,↓vz,↓v0,↓v3,↓v4,↓v5,↓v7,↓v8,↓v9,↓ua,↓ub,↓uc,↓ud,↓ue,↓uf,↓ug,↓uh,ui,uj,uk,ul,um,uo,uq,ur,ut,uu,uv,uw,ux,uy,uz,u2,u3,u5,u6,u7,u8,Option.bind_some,u9,tj,tm,tq,tv,tw,tz,t3,t8,t9,sf,true_and,beq_self_eq_true,Bool.false_eq_true,c0,c1,Int.cast_ofNat_Int,Int.reduceEq,Int.reduceLT,Int.reduceLE,Int.reduceAdd,Int.reduceSub,↓reduceIte]
                refine hn1 _ _ ⟨rfl, ⟨_, _, rfl⟩, fun j r hj hr => ?_⟩
                by_cases e : j = k
                · rw [e, hk] at hr
                  cases hr
                  exact hx
                · exact hf j r (by omega) hr
              | false =>
                try simp -dsimp only [↓za,↓zb,↓zc,↓zd,↓ze,↓zf,↓zg,zh,zi,List.map_cons,List.map_nil,List.length_cons,List.length_nil,List.replicate_succ,List.replicate_zero,List.cons_append,List.nil_append,Nat.reduceAdd,Nat.reduceSub,List.set_cons_zero,List.set_cons_succ,List.getElem?_cons_zero,List.getElem?_cons_succ,Bool.not_true,Bool.not_false,decide_true,decide_false,↓zj,↓zk,↓zl,↓zm,↓zn,↓zo,↓zp,↓zq,↓zr,↓zt,↓zu,↓zv,zj,zk,zl,zm,zn,zo,zp,zq,zr,zt,zu,zv,↓zw,↓zx,↓zy,↓zz,↓z9,↓ya,↓yb,↓yc,↓yd,↓ye,↓yf,↓yg,↓yh,↓yi,↓yj,↓yk,↓yl,↓ym,↓yn,↓yo,↓yp,↓eC,↓yq,↓eB,↓yr,↓yt,↓yu,↓yw,↓yx,↓yy,↓yz,↓y5,↓y6,↓y8,↓y9,↓xa,↓xb,↓xc,↓xg,↓xh,↓xi,↓xj,↓xk,↓xl,↓xm,↓xn,↓xo,↓xp,↓xq,↓xr,↓xt,↓xu,↓xy,↓xz,↓x5,↓x6,↓x7,↓x8,↓x9,↓wa,↓wb,↓wc,↓wd,↓we,↓wf,↓wg,↓wh,↓wj,↓wl,↓wm,↓wn,↓wo,↓wp,↓wq,↓wt,↓wu,wv,ww,wx,wy,wz,w3,w4,↓x9,↓wa,↓w6,↓x8,↓w7,↓w8,↓w9,va,vb,↓vc,↓vd,↓vf,↓vg,↓vh,↓vi,↓vj,↓vk,↓vm,↓vn,↓vo,↓vp,↓vq,↓vt,↓vv,↓vw,↓vx,↓vy,↓vz,↓v0,↓v3,↓v4,↓v5,↓v7,↓v8,↓v9,↓ua,↓ub,↓uc,↓ud,↓ue,↓uf,↓ug,↓uh,ui,uj,uk,ul,um,uo,uq,ur,ut,uu,uv,uw,ux,uy,uz,u2,u3,u5,u6,u7,u8,Option.bind_some,u9,tj,tm,tq,tv,tw,tz,t3,t8,t9,sf,true_and,beq_self_eq_true,Bool.false_eq_true,c0,c1,Int.cast_ofNat_Int,Int.reduceEq,Int.reduceLT,Int.reduceLE,Int.reduceAdd,Int.reduceSub,↓reduceIte]
                rw [bad_one hf hk hx] at q
                exact ⟨by decide, q⟩
            · rintro ρ M' ⟨rfl, ⟨o6, o7, rfl⟩, hf⟩
              try simp -dsimp only [↓za,↓zb,↓zc,↓zd,↓ze,↓zf,↓zg,zh,zi,List.map_cons,List.map_nil,List.length_cons,List.length_nil,List.replicate_succ,List.replicate_zero,List.cons_append,List.nil_append,Nat.reduceAdd,Nat.reduceSub,List.set_cons_zero,List.set_cons_succ,List.getElem?_cons_zero,List.getElem?_cons_succ,Bool.not_true,Bool.not_false,decide_true,decide_false,↓zj,↓zk,↓zl,↓zm,↓zn,↓zo,↓zp,↓zq,↓zr,↓zt,↓zu,↓zv,zj,zk,zl,zm,zn,zo,zp,zq,zr,zt,zu,zv,↓zw,↓zx,↓zy,↓zz,↓z9,↓ya,↓yb,↓yc,↓yd,↓ye,↓yf,↓yg,↓yh,↓yi,↓yj,↓yk,↓yl,↓ym,↓yn,↓yo,↓yp,↓eC,↓yq,↓eB,↓yr,↓yt,↓yu,↓yw,↓yx,↓yy,↓yz,↓y5,↓y6,↓y8,↓y9,↓xa,↓xb,↓xc,↓xg,↓xh,↓xi,↓xj,↓xk,↓xl,↓xm,↓xn,↓xo,↓xp,↓xq,↓xr,↓xt,↓xu,↓xy,↓xz,↓x5,↓x6,↓x7,↓x8,↓x9,↓wa,↓wb,↓wc,↓wd,↓we,↓wf,↓wg,↓wh,↓wj,↓wl,↓wm,↓wn,↓wo,↓wp,↓wq,↓wt,↓wu,wv,ww,wx,wy,wz,w3,w4,↓x9,↓wa,↓w6,↓x8,↓w7,↓w8,↓w9,va,vb,↓vc,↓vd,↓vf,↓vg,↓vh,↓vi,↓vj,↓vk,↓vm,↓vn,↓vo,↓vp,↓vq,↓vt,↓vv,↓vw,↓vx,↓vy,↓vz,↓v0,↓v3,↓v4,↓v5,↓v7,↓v8,↓v9,↓ua,↓ub,↓uc,↓ud,↓ue,↓uf,↓ug,↓uh,ui,uj,uk,ul,um,uo,uq,ur,ut,uu,uv,uw,ux,uy,uz,u2,u3,u5,u6,u7,u8,Option.bind_some,u9,tj,tm,tq,tv,tw,tz,t3,t8,t9,sf,true_and,beq_self_eq_true,Bool.false_eq_true,c0,c1,Int.cast_ofNat_Int,Int.reduceEq,Int.reduceLT,Int.reduceLE,Int.reduceAdd,Int.reduceSub,↓reduceIte]
              rw [bad_none hf] at q
              exact q
        · rw [if_pos e4] at q
          by_cases e : 0 ≤ l
          · rw [decide_eq_true e]
            try simp -dsimp only [↓za,↓zb,↓zc,↓zd,↓ze,↓zf,↓zg,zh,zi,List.map_cons,List.map_nil,List.length_cons,List.length_nil,List.replicate_succ,List.replicate_zero,List.cons_append,List.nil_append,Nat.reduceAdd,Nat.reduceSub,List.set_cons_zero,List.set_cons_succ,List.getElem?_cons_zero,List.getElem?_cons_succ,Bool.not_true,Bool.not_false,decide_true,decide_false,↓zj,↓zk,↓zl,↓zm,↓zn,↓zo,↓zp,↓zq,↓zr,↓zt,↓zu,↓zv,zj,zk,zl,zm,zn,zo,zp,zq,zr,zt,zu,zv,↓zw,↓zx,↓zy,↓zz,↓z9,↓ya,↓yb,↓yc,↓yd,↓ye,↓yf,↓yg,↓yh,↓yi,↓yj,↓yk,↓yl,↓ym,↓yn,↓yo,↓yp,↓eC,↓yq,↓eB,↓yr,↓yt,↓yu,↓yw,↓yx,↓yy,↓yz,↓y5,↓y6,↓y8,↓y9,↓xa,↓xb,↓xc,↓xg,↓xh,↓xi,↓xj,↓xk,↓xl,↓xm,↓xn,↓xo,↓xp,↓xq,↓xr,↓xt,↓xu,↓xy,↓xz,↓x5,↓x6,↓x7,↓x8,↓x9,↓wa,↓wb,↓wc,↓wd,↓we,↓wf,↓wg,↓wh,↓wj,↓wl,↓wm,↓wn,↓wo,↓wp,↓wq,↓wt,↓wu,wv,ww,wx,wy,wz,w3,w4,↓x9,↓wa,↓w6,↓x8,↓w7,↓w8,↓w9,va,vb,↓vc,↓vd,↓vf,↓vg,↓vh,↓vi,↓vj,↓vk,↓vm,↓vn,↓vo,↓vp,↓vq,↓vt,↓vv,↓vw,↓vx,↓vy,↓vz,↓v0,↓v3,↓v4,↓v5,↓v7,↓v8,↓v9,↓ua,↓ub,↓uc,↓ud,↓ue,↓uf,↓ug,↓uh,ui,uj,uk,ul,um,uo,uq,ur,ut,uu,uv,uw,ux,uy,uz,u2,u3,u5,u6,u7,u8,Option.bind_some,u9,tj,tm,tq,tv,tw,tz,t3,t8,t9,sf,true_and,beq_self_eq_true,Bool.false_eq_true,c0,c1,Int.cast_ofNat_Int,Int.reduceEq,Int.reduceLT,Int.reduceLE,Int.reduceAdd,Int.reduceSub,↓reduceIte]
            rw [decide_eq_false fun z => e4 ⟨e, z⟩]
            try simp -dsimp only [↓za,↓zb,↓zc,↓zd,↓ze,↓zf,↓zg,zh,zi,List.map_cons,List.map_nil,List.length_cons,List.length_nil,List.replicate_succ,List.replicate_zero,List.cons_append,List.nil_append,Nat.reduceAdd,Nat.reduceSub,List.set_cons_zero,List.set_cons_succ,List.getElem?_cons_zero,List.getElem?_cons_succ,Bool.not_true,Bool.not_false,decide_true,decide_false,↓zj,↓zk,↓zl,↓zm,↓zn,↓zo,↓zp,↓zq,↓zr,↓zt,↓zu,↓zv,zj,zk,zl,zm,zn,zo,zp,zq,zr,zt,zu,zv,↓zw,↓zx,↓zy,↓zz,↓z9,↓ya,↓yb,↓yc,↓yd,↓ye,↓yf,↓yg,↓yh,↓yi,↓yj,↓yk,↓yl,↓ym,↓yn,↓yo,↓yp,↓eC,↓yq,↓eB,↓yr,↓yt,↓yu,↓yw,↓yx,↓yy,↓yz,↓y5,↓y6,↓y8,↓y9,↓xa,↓xb,↓xc,↓xg,↓xh,↓xi,↓xj,↓xk,↓xl,↓xm,↓xn,↓xo,↓xp,↓xq,↓xr,↓xt,↓xu,↓xy,↓xz,↓x5,↓x6,↓x7,↓x8,↓x9,↓wa,↓wb,↓wc,↓wd,↓we,↓wf,↓wg,↓wh,↓wj,↓wl,↓wm,↓wn,↓wo,↓wp,↓wq,↓wt,↓wu,wv,ww,wx,wy,wz,w3,w4,↓x9,↓wa,↓w6,↓x8,↓w7,↓w8,↓w9,va,vb,↓vc,↓vd,↓vf,↓vg,↓vh,↓vi,↓vj,↓vk,↓vm,↓vn,↓vo,↓vp,↓vq,↓vt,↓vv,↓vw,↓vx,↓vy,↓vz,↓v0,↓v3,↓v4,↓v5,↓v7,↓v8,↓v9,↓ua,↓ub,↓uc,↓ud,↓ue,↓uf,↓ug,↓uh,ui,uj,uk,ul,um,uo,uq,ur,ut,uu,uv,uw,ux,uy,uz,u2,u3,u5,u6,u7,u8,Option.bind_some,u9,tj,tm,tq,tv,tw,tz,t3,t8,t9,sf,true_and,beq_self_eq_true,Bool.false_eq_true,c0,c1,Int.cast_ofNat_Int,Int.reduceEq,Int.reduceLT,Int.reduceLE,Int.reduceAdd,Int.reduceSub,↓reduceIte]
            exact ⟨by decide, q⟩
          · rw [decide_eq_false e]
            try simp -dsimp only [↓za,↓zb,↓zc,↓zd,↓ze,↓zf,↓zg,zh,zi,List.map_cons,List.map_nil,List.length_cons,List.length_nil,List.replicate_succ,List.replicate_zero,List.cons_append,List.nil_append,Nat.reduceAdd,Nat.reduceSub,List.set_cons_zero,List.set_cons_succ,List.getElem?_cons_zero,List.getElem?_cons_succ,Bool.not_true,Bool.not_false,decide_true,decide_false,↓zj,↓zk,↓zl,↓zm,↓zn,↓zo,↓zp,↓zq,↓zr,↓zt,↓zu,↓zv,zj,zk,zl,zm,zn,zo,zp,zq,zr,zt,zu,zv,↓zw,↓zx,↓zy,↓zz,↓z9,↓ya,↓yb,↓yc,↓yd,↓ye,↓yf,↓yg,↓yh,↓yi,↓yj,↓yk,↓yl,↓ym,↓yn,↓yo,↓yp,↓eC,↓yq,↓eB,↓yr,↓yt,↓yu,↓yw,↓yx,↓yy,↓yz,↓y5,↓y6,↓y8,↓y9,↓xa,↓xb,↓xc,↓xg,↓xh,↓xi,↓xj,↓xk,↓xl,↓xm,↓xn,↓xo,↓xp,↓xq,↓xr,↓xt,↓xu,↓xy,↓xz,↓x5,↓x6,↓x7,↓x8,↓x9,↓wa,↓wb,↓wc,↓wd,↓we,↓wf,↓wg,↓wh,↓wj,↓wl,↓wm,↓wn,↓wo,↓wp,↓wq,↓wt,↓wu,wv,ww,wx,wy,wz,w3,w4,↓x9,↓wa,↓w6,↓x8,↓w7,↓w8,↓w9,va,vb,↓vc,↓vd,↓vf,↓vg,↓vh,↓vi,↓vj,↓vk,↓vm,↓vn,↓vo,↓vp,↓vq,↓vt,↓vv,↓vw,↓vx,↓vy,↓vz,↓v0,↓v3,↓v4,↓v5,↓v7,↓v8,↓v9,↓ua,↓ub,↓uc,↓ud,↓ue,↓uf,↓ug,↓uh,ui,uj,uk,ul,um,uo,uq,ur,ut,uu,uv,uw,ux,uy,uz,u2,u3,u5,u6,u7,u8,Option.bind_some,u9,tj,tm,tq,tv,tw,tz,t3,t8,t9,sf,true_and,beq_self_eq_true,Bool.false_eq_true,c0,c1,Int.cast_ofNat_Int,Int.reduceEq,Int.reduceLT,Int.reduceLE,Int.reduceAdd,Int.reduceSub,↓reduceIte]
            exact ⟨by decide, q⟩
      · rw [if_pos e3] at q
        by_cases e : 0 ≤ qq
        · rw [decide_eq_true e]
          try simp -dsimp only [↓za,↓zb,↓zc,↓zd,↓ze,↓zf,↓zg,zh,zi,List.map_cons,List.map_nil,List.length_cons,List.length_nil,List.replicate_succ,List.replicate_zero,List.cons_append,List.nil_append,Nat.reduceAdd,Nat.reduceSub,List.set_cons_zero,List.set_cons_succ,List.getElem?_cons_zero,List.getElem?_cons_succ,Bool.not_true,Bool.not_false,decide_true,decide_false,↓zj,↓zk,↓zl,↓zm,↓zn,↓zo,↓zp,↓zq,↓zr,↓zt,↓zu,↓zv,zj,zk,zl,zm,zn,zo,zp,zq,zr,zt,zu,zv,↓zw,↓zx,↓zy,↓zz,↓z9,↓ya,↓yb,↓yc,↓yd,↓ye,↓yf,↓yg,↓yh,↓yi,↓yj,↓yk,↓yl,↓ym,↓yn,↓yo,↓yp,↓eC,↓yq,↓eB,↓yr,↓yt,↓yu,↓yw,↓yx,↓yy,↓yz,↓y5,↓y6,↓y8,↓y9,↓xa,↓xb,↓xc,↓xg,↓xh,↓xi,↓xj,↓xk,↓xl,↓xm,↓xn,↓xo,↓xp,↓xq,↓xr,↓xt,↓xu,↓xy,↓xz,↓x5,↓x6,↓x7,↓x8,↓x9,↓wa,↓wb,↓wc,↓wd,↓we,↓wf,↓wg,↓wh,↓wj,↓wl,↓wm,↓wn,↓wo,↓wp,↓wq,↓wt,↓wu,wv,ww,wx,wy,wz,w3,w4,↓x9,↓wa,↓w6,↓x8,↓w7,↓w8,↓w9,va,vb,↓vc,↓vd,↓vf,↓vg,↓vh,↓vi,↓vj,↓vk,↓vm,↓vn,↓vo,↓vp,↓vq,↓vt,↓vv,↓vw,↓vx,↓vy,↓vz,↓v0,↓v3,↓v4,↓v5,↓v7,↓v8,↓v9,↓ua,↓ub,↓uc,↓ud,↓ue,↓uf,↓ug,↓uh,ui,uj,uk,ul,um,uo,uq,ur,ut,uu,uv,uw,ux,uy,uz,u2,u3,u5,u6,u7,u8,Option.bind_some,u9,tj,tm,tq,tv,tw,tz,t3,t8,t9,sf,true_and,beq_self_eq_true,Bool.false_eq_true,c0,c1,Int.cast_ofNat_Int,Int.reduceEq,Int.reduceLT,Int.reduceLE,Int.reduceAdd,Int.reduceSub,↓reduceIte]
          rw [decide_eq_false fun z => e3 ⟨e, z⟩]
          try simp -dsimp only [↓za,↓zb,↓zc,↓zd,↓ze,↓zf,↓zg,zh,zi,List.map_cons,List.map_nil,List.length_cons,List.length_nil,List.replicate_succ,List.replicate_zero,List.cons_append,List.nil_append,Nat.reduceAdd,Nat.reduceSub,List.set_cons_zero,List.set_cons_succ,List.getElem?_cons_zero,List.getElem?_cons_succ,Bool.not_true,Bool.not_false,decide_true,decide_false,↓zj,↓zk,↓zl,↓zm,↓zn,↓zo,↓zp,↓zq,↓zr,↓zt,↓zu,↓zv,zj,zk,zl,zm,zn,zo,zp,zq,zr,zt,zu,zv,↓zw,↓zx,↓zy,↓zz,↓z9,↓ya,↓yb,↓yc,↓yd,↓ye,↓yf,↓yg,↓yh,↓yi,↓yj,↓yk,↓yl,↓ym,↓yn,↓yo,↓yp,↓eC,↓yq,↓eB,↓yr,↓yt,↓yu,↓yw,↓yx,↓yy,↓yz,↓y5,↓y6,↓y8,↓y9,↓xa,↓xb,↓xc,↓xg,↓xh,↓xi,↓xj,↓xk,↓xl,↓xm,↓xn,↓xo,↓xp,↓xq,↓xr,↓xt,↓xu,↓xy,↓xz,↓x5,↓x6,↓x7,↓x8,↓x9,↓wa,↓wb,↓wc,↓wd,↓we,↓wf,↓wg,↓wh,↓wj,↓wl,↓wm,↓wn,↓wo,↓wp,↓wq,↓wt,↓wu,wv,ww,wx,wy,wz,w3,w4,↓x9,↓wa,↓w6,↓x8,↓w7,↓w8,↓w9,va,vb,↓vc,↓vd,↓vf,↓vg,↓vh,↓vi,↓vj,↓vk,↓vm,↓vn,↓vo,↓vp,↓vq,↓vt,↓vv,↓vw,↓vx,↓vy,↓vz,↓v0,↓v3,↓v4,↓v5,↓v7,↓v8,↓v9,↓ua,↓ub,↓uc,↓ud,↓ue,↓uf,↓ug,↓uh,ui,uj,uk,ul,um,uo,uq,ur,ut,uu,uv,uw,ux,uy,uz,u2,u3,u5,u6,u7,u8,Option.bind_some,u9,tj,tm,tq,tv,tw,tz,t3,t8,t9,sf,true_and,beq_self_eq_true,Bool.false_eq_true,c0,c1,Int.cast_ofNat_Int,Int.reduceEq,Int.reduceLT,Int.reduceLE,Int.reduceAdd,Int.reduceSub,↓reduceIte]
          exact ⟨by decide, q⟩
        · rw [decide_eq_false e]
          try simp -dsimp only [↓za,↓zb,↓zc,↓zd,↓ze,↓zf,↓zg,zh,zi,List.map_cons,List.map_nil,List.length_cons,List.length_nil,List.replicate_succ,List.replicate_zero,List.cons_append,List.nil_append,Nat.reduceAdd,Nat.reduceSub,List.set_cons_zero,List.set_cons_succ,List.getElem?_cons_zero,List.getElem?_cons_succ,Bool.not_true,Bool.not_false,decide_true,decide_false,↓zj,↓zk,↓zl,↓zm,↓zn,↓zo,↓zp,↓zq,↓zr,↓zt,↓zu,↓zv,zj,zk,zl,zm,zn,zo,zp,zq,zr,zt,zu,zv,↓zw,↓zx,↓zy,↓zz,↓z9,↓ya,↓yb,↓yc,↓yd,↓ye,↓yf,↓yg,↓yh,↓yi,↓yj,↓yk,↓yl,↓ym,↓yn,↓yo,↓yp,↓eC,↓yq,↓eB,↓yr,↓yt,↓yu,↓yw,↓yx,↓yy,↓yz,↓y5,↓y6,↓y8,↓y9,↓xa,↓xb,↓xc,↓xg,↓xh,↓xi,↓xj,↓xk,↓xl,↓xm,↓xn,↓xo,↓xp,↓xq,↓xr,↓xt,↓xu,↓xy,↓xz,↓x5,↓x6,↓x7,↓x8,↓x9,↓wa,↓wb,↓wc,↓wd,↓we,↓wf,↓wg,↓wh,↓wj,↓wl,↓wm,↓wn,↓wo,↓wp,↓wq,↓wt,↓wu,wv,ww,wx,wy,wz,w3,w4,↓x9,↓wa,↓w6,↓x8,↓w7,↓w8,↓w9,va,vb,↓vc,↓vd,↓vf,↓vg,↓vh,↓vi,↓vj,↓vk,↓vm,↓vn,↓vo,↓vp,↓vq,↓vt,↓vv,↓vw,↓vx,↓vy,↓vz,↓v0,↓v3,↓v4,↓v5,↓v7,↓v8,↓v9,↓ua,↓ub,↓uc,↓ud,↓ue,↓uf,↓ug,↓uh,ui,uj,uk,ul,um,uo,uq,ur,ut,uu,uv,uw,ux,uy,uz,u2,u3,u5,u6,u7,u8,Option.bind_some,u9,tj,tm,tq,tv,tw,tz,t3,t8,t9,sf,true_and,beq_self_eq_true,Bool.false_eq_true,c0,c1,Int.cast_ofNat_Int,Int.reduceEq,Int.reduceLT,Int.reduceLE,Int.reduceAdd,Int.reduceSub,↓reduceIte]
          exact ⟨by decide, q⟩
    · rw [if_pos e2] at q
      by_cases e : 0 ≤ c
      · rw [decide_eq_true e]
        try simp -dsimp only [↓za,↓zb,↓zc,↓zd,↓ze,↓zf,↓zg,zh,zi,List.map_cons,List.map_nil,List.length_cons,List.length_nil,List.replicate_succ,List.replicate_zero,List.cons_append,List.nil_append,Nat.reduceAdd,Nat.reduceSub,List.set_cons_zero,List.set_cons_succ,List.getElem?_cons_zero,List.getElem?_cons_succ,Bool.not_true,Bool.not_false,decide_true,decide_false,↓zj,↓zk,↓zl,↓zm,↓zn,↓zo,↓zp,↓zq,↓zr,↓zt,↓zu,↓zv,zj,zk,zl,zm,zn,zo,zp,zq,zr,zt,zu,zv,↓zw,↓zx,↓zy,↓zz,↓z9,↓ya,↓yb,↓yc,↓yd,↓ye,↓yf,↓yg,↓yh,↓yi,↓yj,↓yk,↓yl,↓ym,↓yn,↓yo,↓yp,↓eC,↓yq,↓eB,↓yr,↓yt,↓yu,↓yw,↓yx,↓yy,↓yz,↓y5,↓y6,↓y8,↓y9,↓xa,↓xb,↓xc,↓xg,↓xh,↓xi,↓xj,↓xk,↓xl,↓xm,↓xn,↓xo,↓xp,↓xq,↓xr,↓xt,↓xu,↓xy,↓xz,↓x5,↓x6,↓x7,↓x8,↓x9,↓wa,↓wb,↓wc,↓wd,↓we,↓wf,↓wg,↓wh,↓wj,↓wl,↓wm,↓wn,↓wo,↓wp,↓wq,↓wt,↓wu,wv,ww,wx,wy,wz,w3,w4,↓x9,↓wa,↓w6,↓x8,↓w7,↓w8,↓w9,va,vb,↓vc,↓vd,↓vf,↓vg,↓vh,↓vi,↓vj,↓vk,↓vm,↓vn,↓vo,↓vp,↓vq,↓vt,↓vv,↓vw,↓vx,↓vy,↓vz,↓v0,↓v3,↓v4,↓v5,↓v7,↓v8,↓v9,↓ua,↓ub,↓uc,↓ud,↓ue,↓uf,↓ug,↓uh,ui,uj,uk,ul,um,uo,uq,ur,ut,uu,uv,uw,ux,uy,uz,u2,u3,u5,u6,u7,u8,Option.bind_some,u9,tj,tm,tq,tv,tw,tz,t3,t8,t9,sf,true_and,beq_self_eq_true,Bool.false_eq_true,c0,c1,Int.cast_ofNat_Int,Int.reduceEq,Int.reduceLT,Int.reduceLE,Int.reduceAdd,Int.reduceSub,↓reduceIte]
        rw [decide_eq_false fun z => e2 ⟨e, z⟩]
        try simp -dsimp only [↓za,↓zb,↓zc,↓zd,↓ze,↓zf,↓zg,zh,zi,List.map_cons,List.map_nil,List.length_cons,List.length_nil,List.replicate_succ,List.replicate_zero,List.cons_append,List.nil_append,Nat.reduceAdd,Nat.reduceSub,List.set_cons_zero,List.set_cons_succ,List.getElem?_cons_zero,List.getElem?_cons_succ,Bool.not_true,Bool.not_false,decide_true,decide_false,↓zj,↓zk,↓zl,↓zm,↓zn,↓zo,↓zp,↓zq,↓zr,↓zt,↓zu,↓zv,zj,zk,zl,zm,zn,zo,zp,zq,zr,zt,zu,zv,↓zw,↓zx,↓zy,↓zz,↓z9,↓ya,↓yb,↓yc,↓yd,↓ye,↓yf,↓yg,↓yh,↓yi,↓yj,↓yk,↓yl,↓ym,↓yn,↓yo,↓yp,↓eC,↓yq,↓eB,↓yr,↓yt,↓yu,↓yw,↓yx,↓yy,↓yz,↓y5,↓y6,↓y8,↓y9,↓xa,↓xb,↓xc,↓xg,↓xh,↓xi,↓xj,↓xk,↓xl,↓xm,↓xn,↓xo,↓xp,↓xq,↓xr,↓xt,↓xu,↓xy,↓xz,↓x5,↓x6,↓x7,↓x8,↓x9,↓wa,↓wb,↓wc,↓wd,↓we,↓wf,↓wg,↓wh,↓wj,↓wl,↓wm,↓wn,↓wo,↓wp,↓wq,↓wt,↓wu,wv,ww,wx,wy,wz,w3,w4,↓x9,↓wa,↓w6,↓x8,↓w7,↓w8,↓w9,va,vb,↓vc,↓vd,↓vf,↓vg,↓vh,↓vi,↓vj,↓vk,↓vm,↓vn,↓vo,↓vp,↓vq,↓vt,↓vv,↓vw,↓vx,↓vy,↓vz,↓v0,↓v3,↓v4,↓v5,↓v7,↓v8,↓v9,↓ua,↓ub,↓uc,↓ud,↓ue,↓uf,↓ug,↓uh,ui,uj,uk,ul,um,uo,uq,ur,ut,uu,uv,uw,ux,uy,uz,u2,u3,u5,u6,u7,u8,Option.bind_some,u9,tj,tm,tq,tv,tw,tz,t3,t8,t9,sf,true_and,beq_self_eq_true,Bool.false_eq_true,c0,c1,Int.cast_ofNat_Int,Int.reduceEq,Int.reduceLT,Int.reduceLE,Int.reduceAdd,Int.reduceSub,↓reduceIte]
        exact ⟨by decide, q⟩
      · rw [decide_eq_false e]
        try simp -dsimp only [↓za,↓zb,↓zc,↓zd,↓ze,↓zf,↓zg,zh,zi,List.map_cons,List.map_nil,List.length_cons,List.length_nil,List.replicate_succ,List.replicate_zero,List.cons_append,List.nil_append,Nat.reduceAdd,Nat.reduceSub,List.set_cons_zero,List.set_cons_succ,List.getElem?_cons_zero,List.getElem?_cons_succ,Bool.not_true,Bool.not_false,decide_true,decide_false,↓zj,↓zk,↓zl,↓zm,↓zn,↓zo,↓zp,↓zq,↓zr,↓zt,↓zu,↓zv,zj,zk,zl,zm,zn,zo,zp,zq,zr,zt,zu,zv,↓zw,↓zx,↓zy,↓zz,↓z9,↓ya,↓yb,↓yc,↓yd,↓ye,↓yf,↓yg,↓yh,↓yi,↓yj,↓yk,↓yl,↓ym,↓yn,↓yo,↓yp,↓eC,↓yq,↓eB,↓yr,↓yt,↓yu,↓yw,↓yx,↓yy,↓yz,↓y5,↓y6,↓y8,↓y9,↓xa,↓xb,↓xc,↓xg,↓xh,↓xi,↓xj,↓xk,↓xl,↓xm,↓xn,↓xo,↓xp,↓xq,↓xr,↓xt,↓xu,↓xy,↓xz,↓x5,↓x6,↓x7,↓x8,↓x9,↓wa,↓wb,↓wc,↓wd,↓we,↓wf,↓wg,↓wh,↓wj,↓wl,↓wm,↓wn,↓wo,↓wp,↓wq,↓wt,↓wu,wv,ww,wx,wy,wz,w3,w4,↓x9,↓wa,↓w6,↓x8,↓w7,↓w8,↓w9,va,vb,↓vc,↓vd,↓vf,↓vg,↓vh,↓vi,↓vj,↓vk,↓vm,↓vn,↓vo,↓vp,↓vq,↓vt,↓vv,↓vw,↓vx,↓vy,↓vz,↓v0,↓v3,↓v4,↓v5,↓v7,↓v8,↓v9,↓ua,↓ub,↓uc,↓ud,↓ue,↓uf,↓ug,↓uh,ui,uj,uk,ul,um,uo,uq,ur,ut,uu,uv,uw,ux,uy,uz,u2,u3,u5,u6,u7,u8,Option.bind_some,u9,tj,tm,tq,tv,tw,tz,t3,t8,t9,sf,true_and,beq_self_eq_true,Bool.false_eq_true,c0,c1,Int.cast_ofNat_Int,Int.reduceEq,Int.reduceLT,Int.reduceLE,Int.reduceAdd,Int.reduceSub,↓reduceIte]
        exact ⟨by decide, q⟩
  · rw [if_pos e1] at q
    by_cases e : 1 ≤ m
    · rw [decide_eq_true e]
      try simp -dsimp only [↓za,↓zb,↓zc,↓zd,↓ze,↓zf,↓zg,zh,zi,List.map_cons,List.map_nil,List.length_cons,List.length_nil,List.replicate_succ,List.replicate_zero,List.cons_append,List.nil_append,Nat.reduceAdd,Nat.reduceSub,List.set_cons_zero,List.set_cons_succ,List.getElem?_cons_zero,List.getElem?_cons_succ,Bool.not_true,Bool.not_false,decide_true,decide_false,↓zj,↓zk,↓zl,↓zm,↓zn,↓zo,↓zp,↓zq,↓zr,↓zt,↓zu,↓zv,zj,zk,zl,zm,zn,zo,zp,zq,zr,zt,zu,zv,↓zw,↓zx,↓zy,↓zz,↓z9,↓ya,↓yb,↓yc,↓yd,↓ye,↓yf,↓yg,↓yh,↓yi,↓yj,↓yk,↓yl,↓ym,↓yn,↓yo,↓yp,↓eC,↓yq,↓eB,↓yr,↓yt,↓yu,↓yw,↓yx,↓yy,↓yz,↓y5,↓y6,↓y8,↓y9,↓xa,↓xb,↓xc,↓xg,↓xh,↓xi,↓xj,↓xk,↓xl,↓xm,↓xn,↓xo,↓xp,↓xq,↓xr,↓xt,↓xu,↓xy,↓xz,↓x5,↓x6,↓x7,↓x8,↓x9,↓wa,↓wb,↓wc,↓wd,↓we,↓wf,↓wg,↓wh,↓wj,↓wl,↓wm,↓wn,↓wo,↓wp,↓wq,↓wt,↓wu,wv,ww,wx,wy,wz,w3,w4,↓x9,↓wa,↓w6,↓x8,↓w7,↓w8,↓w9,va,vb,↓vc,↓vd,↓vf,↓vg,↓vh,↓vi,↓vj,↓vk,↓vm,↓vn,↓vo,↓vp,↓vq,↓vt,↓vv,↓vw,↓vx,↓vy,↓vz,↓v0,↓v3,↓v4,↓v5,↓v7,↓v8,↓v9,↓ua,↓ub,↓uc,↓ud,↓ue,↓uf,↓ug,↓uh,ui,uj,uk,ul,um,uo,uq,ur,ut,uu,uv,uw,ux,uy,uz,u2,u3,u5,u6,u7,u8,Option.bind_some,u9,tj,tm,tq,tv,tw,tz,t3,t8,t9,sf,true_and,beq_self_eq_true,Bool.false_eq_true,c0,c1,Int.cast_ofNat_Int,Int.reduceEq,Int.reduceLT,Int.reduceLE,Int.reduceAdd,Int.reduceSub,↓reduceIte]
      rw [decide_eq_false fun z => e1 ⟨e, z⟩]
      try simp -dsimp only [↓za,↓zb,↓zc,↓zd,↓ze,↓zf,↓zg,zh,zi,List.map_cons,List.map_nil,List.length_cons,List.length_nil,List.replicate_succ,List.replicate_zero,List.cons_append,List.nil_append,Nat.reduceAdd,Nat.reduceSub,List.set_cons_zero,List.set_cons_succ,List.getElem?_cons_zero,List.getElem?_cons_succ,Bool.not_true,Bool.not_false,decide_true,decide_false,↓zj,↓zk,↓zl,↓zm,↓zn,↓zo,↓zp,↓zq,↓zr,↓zt,↓zu,↓zv,zj,zk,zl,zm,zn,zo,zp,zq,zr,zt,zu,zv,↓zw,↓zx,↓zy,↓zz,↓z9,↓ya,↓yb,↓yc,↓yd,↓ye,↓yf,↓yg,↓yh,↓yi,↓yj,↓yk,↓yl,↓ym,↓yn,↓yo,↓yp,↓eC,↓yq,↓eB,↓yr,↓yt,↓yu,↓yw,↓yx,↓yy,↓yz,↓y5,↓y6,↓y8,↓y9,↓xa,↓xb,↓xc,↓xg,↓xh,↓xi,↓xj,↓xk,↓xl,↓xm,↓xn,↓xo,↓xp,↓xq,↓xr,↓xt,↓xu,↓xy,↓xz,↓x5,↓x6,↓x7,↓x8,↓x9,↓wa,↓wb,↓wc,↓wd,↓we,↓wf,↓wg,↓wh,↓wj,↓wl,↓wm,↓wn,↓wo,↓wp,↓wq,↓wt,↓wu,wv,ww,wx,wy,wz,w3,w4,↓x9,↓wa,↓w6,↓x8,↓w7,↓w8,↓w9,va,vb,↓vc,↓vd,↓vf,↓vg,↓vh,↓vi,↓vj,↓vk,↓vm,↓vn,↓vo,↓vp,↓vq,↓vt,↓vv,↓vw,↓vx,↓vy,↓vz,↓v0,↓v3,↓v4,↓v5,↓v7,↓v8,↓v9,↓ua,↓ub,↓uc,↓ud,↓ue,↓uf,↓ug,↓uh,ui,uj,uk,ul,um,uo,uq,ur,ut,uu,uv,uw,ux,uy,uz,u2,u3,u5,u6,u7,u8,Option.bind_some,u9,tj,tm,tq,tv,tw,tz,t3,t8,t9,sf,true_and,beq_self_eq_true,Bool.false_eq_true,c0,c1,Int.cast_ofNat_Int,Int.reduceEq,Int.reduceLT,Int.reduceLE,Int.reduceAdd,Int.reduceSub,↓reduceIte]
      exact ⟨by decide, q⟩
    · rw [decide_eq_false e]
      try simp -dsimp only [↓za,↓zb,↓zc,↓zd,↓ze,↓zf,↓zg,zh,zi,List.map_cons,List.map_nil,List.length_cons,List.length_nil,List.replicate_succ,List.replicate_zero,List.cons_append,List.nil_append,Nat.reduceAdd,Nat.reduceSub,List.set_cons_zero,List.set_cons_succ,List.getElem?_cons_zero,List.getElem?_cons_succ,Bool.not_true,Bool.not_false,decide_true,decide_false,↓zj,↓zk,↓zl,↓zm,↓zn,↓zo,↓zp,↓zq,↓zr,↓zt,↓zu,↓zv,zj,zk,zl,zm,zn,zo,zp,zq,zr,zt,zu,zv,↓zw,↓zx,↓zy,↓zz,↓z9,↓ya,↓yb,↓yc,↓yd,↓ye,↓yf,↓yg,↓yh,↓yi,↓yj,↓yk,↓yl,↓ym,↓yn,↓yo,↓yp,↓eC,↓yq,↓eB,↓yr,↓yt,↓yu,↓yw,↓yx,↓yy,↓yz,↓y5,↓y6,↓y8,↓y9,↓xa,↓xb,↓xc,↓xg,↓xh,↓xi,↓xj,↓xk,↓xl,↓xm,↓xn,↓xo,↓xp,↓xq,↓xr,↓xt,↓xu,↓xy,↓xz,↓x5,↓x6,↓x7,↓x8,↓x9,↓wa,↓wb,↓wc,↓wd,↓we,↓wf,↓wg,↓wh,↓wj,↓wl,↓wm,↓wn,↓wo,↓wp,↓wq,↓wt,↓wu,wv,ww,wx,wy,wz,w3,w4,↓x9,↓wa,↓w6,↓x8,↓w7,↓w8,↓w9,va,vb,↓vc,↓vd,↓vf,↓vg,↓vh,↓vi,↓vj,↓vk,↓vm,↓vn,↓vo,↓vp,↓vq,↓vt,↓vv,↓vw,↓vx,↓vy,↓vz,↓v0,↓v3,↓v4,↓v5,↓v7,↓v8,↓v9,↓ua,↓ub,↓uc,↓ud,↓ue,↓uf,↓ug,↓uh,ui,uj,uk,ul,um,uo,uq,ur,ut,uu,uv,uw,ux,uy,uz,u2,u3,u5,u6,u7,u8,Option.bind_some,u9,tj,tm,tq,tv,tw,tz,t3,t8,t9,sf,true_and,beq_self_eq_true,Bool.false_eq_true,c0,c1,Int.cast_ofNat_Int,Int.reduceEq,Int.reduceLT,Int.reduceLE,Int.reduceAdd,Int.reduceSub,↓reduceIte]
      exact ⟨by decide, q⟩
theorem b_faultYl (m : RM) (M : Mu) (Q : D → Mu → Prop) (xw : XW) (hm : m.ok) (q : Q (faultD m) M) : zh N_fault (f_fault S_is_ruleX) [.tup [.int m.m, .int m.c, .int m.q, .int m.l, .lst (m.r.map rrD)]] M Q xw := by
  have q : Q (faultD m) (mres M M) := by rw [mres_self]; exact q
  obtain ⟨m, c, qq, l, rs⟩ := m
  unfold faultD at q
  dsimp only at q
  simp only [zh, bodyL, zi, N_fault, List.map_cons, List.map_nil, List.length_cons, List.length_nil, List.replicate_succ, List.replicate_zero, List.cons_append, List.nil_append, Nat.reduceAdd, Nat.reduceSub]
  unfold f_fault
  try simp -dsimp only [↓za,↓zb,↓zc,↓zd,↓ze,↓zf,↓zg,zh,zi,List.map_cons,List.map_nil,List.length_cons,List.length_nil,List.replicate_succ,List.replicate_zero,List.cons_append,List.nil_append,Nat.reduceAdd,Nat.reduceSub,List.set_cons_zero,List.set_cons_succ,List.getElem?_cons_zero,List.getElem?_cons_succ,Bool.not_true,Bool.not_false,decide_true,decide_false,↓zj,↓zk,↓zl,↓zm,↓zn,↓zo,↓zp,↓zq,↓zr,↓zt,↓zu,↓zv,zj,zk,zl,zm,zn,zo,zp,zq,zr,zt,zu,zv,↓zw,↓zx,↓zy,↓zz,↓z9,↓ya,↓yb,↓yc,↓yd,↓ye,↓yf,↓yg,↓yh,↓yi,↓yj,↓yk,↓yl,↓ym,↓yn,↓yo,↓yp,↓eC,↓yq,↓eB,↓yr,↓yt,↓yu,↓yw,↓yx,↓yy,↓yz,↓y5,↓y6,↓y8,↓y9,↓xa,↓xb,↓xc,↓xg,↓xh,↓xi,↓xj,↓xk,↓xl,↓xm,↓xn,↓xo,↓xp,↓xq,↓xr,↓xt,↓xu,↓xy,↓xz,↓x5,↓x6,↓x7,↓x8,↓x9,↓wa,↓wb,↓wc,↓wd,↓we,↓wf,↓wg,↓wh,↓wj,↓wl,↓wm,↓wn,↓wo,↓wp,↓wq,↓wt,↓wu,wv,ww,wx,wy,wz,w3,w4,↓x9,↓wa,↓w6,↓x8,↓w7,↓w8,↓w9,va,vb,↓vc,↓vd,↓vf,↓vg,↓vh,↓vi,↓vj,↓vk,↓vm,↓vn,↓vo,↓vp,↓vq,↓vt,↓vv,↓vw,↓vx,↓vy,↓vz,↓v0,↓v3,↓v4,↓v5,↓v7,↓v8,↓v9,↓ua,↓ub,↓uc,↓ud,↓ue,↓uf,↓ug,↓uh,ui,uj,uk,ul,um,uo,uq,ur,ut,uu,uv,uw,ux,uy,uz,u2,u3,u5,u6,u7,u8,Option.bind_some,u9,tj,tm,tq,tv,tw,tz,t3,t8,t9,sf,true_and,beq_self_eq_true,Bool.false_eq_true,c0,c1,Int.cast_ofNat_Int,Int.reduceEq,Int.reduceLT,Int.reduceLE,Int.reduceAdd,Int.reduceSub,↓reduceIte]
  by_cases e1 : 1 ≤ m ∧ m ≤ 6
  · rw [if_neg (not_not_intro e1)] at q
    rw [decide_eq_true e1.1]
    try simp -dsimp only [↓za,↓zb,↓zc,↓zd,↓ze,↓zf,↓zg,zh,zi,List.map_cons,List.map_nil,List.length_cons,List.length_nil,List.replicate_succ,List.replicate_zero,List.cons_append,List.nil_append,Nat.reduceAdd,Nat.reduceSub,List.set_cons_zero,List.set_cons_succ,List.getElem?_cons_zero,List.getElem?_cons_succ,Bool.not_true,Bool.not_false,decide_true,decide_false,↓zj,↓zk,↓zl,↓zm,↓zn,↓zo,↓zp,↓zq,↓zr,↓zt,↓zu,↓zv,zj,zk,zl,zm,zn,zo,zp,zq,zr,zt,zu,zv,↓zw,↓zx,↓zy,↓zz,↓z9,↓ya,↓yb,↓yc,↓yd,↓ye,↓yf,↓yg,↓yh,↓yi,↓yj,↓yk,↓yl,↓ym,↓yn,↓yo,↓yp,↓eC,↓yq,↓eB,↓yr,↓yt,↓yu,↓yw,↓yx,↓yy,↓yz,↓y5,↓y6,↓y8,↓y9,↓xa,↓xb,↓xc,↓xg,↓xh,↓xi,↓xj,↓xk,↓xl,↓xm,↓xn,↓xo,↓xp,↓xq,↓xr,↓xt,↓xu,↓xy,↓xz,↓x5,↓x6,↓x7,↓x8,↓x9,↓wa,↓wb,↓wc,↓wd,↓we,↓wf,↓wg,↓wh,↓wj,↓wl,↓wm,↓wn,↓wo,↓wp,↓wq,↓wt,↓wu,wv,ww,wx,wy,wz,w3,w4,↓x9,↓wa,↓w6,↓x8,↓w7,↓w8,↓w9,va,vb,↓vc,↓vd,↓vf,↓vg,↓vh,↓vi,↓vj,↓vk,↓vm,↓vn,↓vo,↓vp,↓vq,↓vt,↓vv,↓vw,↓vx,↓vy,↓vz,↓v0,↓v3,↓v4,↓v5,↓v7,↓v8,↓v9,↓ua,↓ub,↓uc,↓ud,↓ue,↓uf,↓ug,↓uh,ui,uj,uk,ul,um,uo,uq,ur,ut,uu,uv,uw,ux,uy,uz,u2,u3,u5,u6,u7,u8,Option.bind_some,u9,tj,tm,tq,tv,tw,tz,t3,t8,t9,sf,true_and,beq_self_eq_true,Bool.false_eq_true,c0,c1,Int.cast_ofNat_Int,Int.reduceEq,Int.reduceLT,Int.reduceLE,Int.reduceAdd,Int.reduceSub,↓reduceIte]
    rw [decide_eq_true e1.2]
    try simp -dsimp only [↓za,↓zb,↓zc,↓zd,↓ze,↓zf,↓zg,zh,zi,List.map_cons,List.map_nil,List.length_cons,List.length_nil,List.replicate_succ,List.replicate_zero,List.cons_append,List.nil_append,Nat.reduceAdd,Nat.reduceSub,List.set_cons_zero,List.set_cons_succ,List.getElem?_cons_zero,List.getElem?_cons_succ,Bool.not_true,Bool.not_false,decide_true,decide_false,↓zj,↓zk,↓zl,↓zm,↓zn,↓zo,↓zp,↓zq,↓zr,↓zt,↓zu,↓zv,zj,zk,zl,zm,zn,zo,zp,zq,zr,zt,zu,zv,↓zw,↓zx,↓zy,↓zz,↓z9,↓ya,↓yb,↓yc,↓yd,↓ye,↓yf,↓yg,↓yh,↓yi,↓yj,↓yk,↓yl,↓ym,↓yn,↓yo,↓yp,↓eC,↓yq,↓eB,↓yr,↓yt,↓yu,↓yw,↓yx,↓yy,↓yz,↓y5,↓y6,↓y8,↓y9,↓xa,↓xb,↓xc,↓xg,↓xh,↓xi,↓xj,↓xk,↓xl,↓xm,↓xn,↓xo,↓xp,↓xq,↓xr,↓xt,↓xu,↓xy,↓xz,↓x5,↓x6,↓x7,↓x8,↓x9,↓wa,↓wb,↓wc,↓wd,↓we,↓wf,↓wg,↓wh,↓wj,↓wl,↓wm,↓wn,↓wo,↓wp,↓wq,↓wt,↓wu,wv,ww,wx,wy,wz,w3,w4,↓x9,↓wa,↓w6,↓x8,↓w7,↓w8,↓w9,va,vb,↓vc,↓vd,↓vf,↓vg,↓vh,↓vi,↓vj,↓vk,↓vm,↓vn,↓vo,↓vp,↓vq,↓vt,↓vv,↓vw,↓vx,↓vy,↓vz,↓v0,↓v3,↓v4,↓v5,↓v7,↓v8,↓v9,↓ua,↓ub,↓uc,↓ud,↓ue,↓uf,↓ug,↓uh,ui,uj,uk,ul,um,uo,uq,ur,ut,uu,uv,uw,ux,uy,uz,u2,u3,u5,u6,u7,u8,Option.bind_some,u9,tj,tm,tq,tv,tw,tz,t3,t8,t9,sf,true_and,beq_self_eq_true,Bool.false_eq_true,c0,c1,Int.cast_ofNat_Int,Int.reduceEq,Int.reduceLT,Int.reduceLE,Int.reduceAdd,Int.reduceSub,↓reduceIte]
    by_cases e2 : 0 ≤ c ∧ c ≤ 4
    · rw [if_neg (not_not_intro e2)] at q
      rw [decide_eq_true e2.1]
      try simp -dsimp only [↓za,↓zb,↓zc,↓zd,↓ze,↓zf,↓zg,zh,zi,List.map_cons,List.map_nil,List.length_cons,List.length_nil,List.replicate_succ,List.replicate_zero,List.cons_append,List.nil_append,Nat.reduceAdd,Nat.reduceSub,List.set_cons_zero,List.set_cons_succ,List.getElem?_cons_zero,List.getElem?_cons_succ,Bool.not_true,Bool.not_false,decide_true,decide_false,↓zj,↓zk,↓zl,↓zm,↓zn,↓zo,↓zp,↓zq,↓zr,↓zt,↓zu,↓zv,zj,zk,zl,zm,zn,zo,zp,zq,zr,zt,zu,zv,↓zw,↓zx,↓zy,↓zz,↓z9,↓ya,↓yb,↓yc,↓yd,↓ye,↓yf,↓yg,↓yh,↓yi,↓yj,↓yk,↓yl,↓ym,↓yn,↓yo,↓yp,↓eC,↓yq,↓eB,↓yr,↓yt,↓yu,↓yw,↓yx,↓yy,↓yz,↓y5,↓y6,↓y8,↓y9,↓xa,↓xb,↓xc,↓xg,↓xh,↓xi,↓xj,↓xk,↓xl,↓xm,↓xn,↓xo,↓xp,↓xq,↓xr,↓xt,↓xu,↓xy,↓xz,↓x5,↓x6,↓x7,↓x8,↓x9,↓wa,↓wb,↓wc,↓wd,↓we,↓wf,↓wg,↓wh,↓wj,↓wl,↓wm,↓wn,↓wo,↓wp,↓wq,↓wt,↓wu,wv,ww,wx,wy,wz,w3,w4,↓x9,↓wa,↓w6,↓x8,↓w7,↓w8,↓w9,va,vb,↓vc,↓vd,↓vf,↓vg,↓vh,↓vi,↓vj,↓vk,↓vm,↓vn,↓vo,↓vp,↓vq,↓vt,↓vv,↓vw,↓vx,↓vy,↓vz,↓v0,↓v3,↓v4,↓v5,↓v7,↓v8,↓v9,↓ua,↓ub,↓uc,↓ud,↓ue,↓uf,↓ug,↓uh,ui,uj,uk,ul,um,uo,uq,ur,ut,uu,uv,uw,ux,uy,uz,u2,u3,u5,u6,u7,u8,Option.bind_some,u9,tj,tm,tq,tv,tw,tz,t3,t8,t9,sf,true_and,beq_self_eq_true,Bool.false_eq_true,c0,c1,Int.cast_ofNat_Int,Int.reduceEq,Int.reduceLT,Int.reduceLE,Int.reduceAdd,Int.reduceSub,↓reduceIte]
      rw [decide_eq_true e2.2]
      try simp -dsimp only [↓za,↓zb,↓zc,↓zd,↓ze,↓zf,↓zg,zh,zi,List.map_cons,List.map_nil,List.length_cons,List.length_nil,List.replicate_succ,List.replicate_zero,List.cons_append,List.nil_append,Nat.reduceAdd,Nat.reduceSub,List.set_cons_zero,List.set_cons_succ,List.getElem?_cons_zero,List.getElem?_cons_succ,Bool.not_true,Bool.not_false,decide_true,decide_false,↓zj,↓zk,↓zl,↓zm,↓zn,↓zo,↓zp,↓zq,↓zr,↓zt,↓zu,↓zv,zj,zk,zl,zm,zn,zo,zp,zq,zr,zt,zu,zv,↓zw,↓zx,↓zy,↓zz,↓z9,↓ya,↓yb,↓yc,↓yd,↓ye,↓yf,↓yg,↓yh,↓yi,↓yj,↓yk,↓yl,↓ym,↓yn,↓yo,↓yp,↓eC,↓yq,↓eB,↓yr,↓yt,↓yu,↓yw,↓yx,↓yy,↓yz,↓y5,↓y6,↓y8,↓y9,↓xa,↓xb,↓xc,↓xg,↓xh,↓xi,↓xj,↓xk,↓xl,↓xm,↓xn,↓xo,↓xp,↓xq,↓xr,↓xt,↓xu,↓xy,↓xz,↓x5,↓x6,↓x7,↓x8,↓x9,↓wa,↓wb,↓wc,↓wd,↓we,↓wf,↓wg,↓wh,↓wj,↓wl,↓wm,↓wn,↓wo,↓wp,↓wq,↓wt,↓wu,wv,ww,wx,wy,wz,w3,w4,↓x9,↓wa,↓w6,↓x8,↓w7,↓w8,↓w9,va,vb,↓vc,↓vd,↓vf,↓vg,↓vh,↓vi,↓vj,↓vk,↓vm,↓vn,↓vo,↓vp,↓vq,↓vt,↓vv,↓vw,↓vx,↓vy,↓vz,↓v0,↓v3,↓v4,↓v5,↓v7,↓v8,↓v9,↓ua,↓ub,↓uc,↓ud,↓ue,↓uf,↓ug,↓uh,ui,uj,uk,ul,um,uo,uq,ur,ut,uu,uv,uw,ux,uy,uz,u2,u3,u5,u6,u7,u8,Option.bind_some,u9,tj,tm,tq,tv,tw,tz,t3,t8,t9,sf,true_and,beq_self_eq_true,Bool.false_eq_true,c0,c1,Int.cast_ofNat_Int,Int.reduceEq,Int.reduceLT,Int.reduceLE,Int.reduceAdd,Int.reduceSub,↓reduceIte]
      by_cases e3 : 0 ≤ qq ∧ qq ≤ 2
      · rw [if_neg (not_not_intro e3)] at q
        rw [decide_eq_true e3.1]
        try simp -dsimp only [↓za,↓zb,↓zc,↓zd,↓ze,↓zf,↓zg,zh,zi,List.map_cons,List.map_nil,List.length_cons,List.length_nil,List.replicate_succ,List.replicate_zero,List.cons_append,List.nil_append,Nat.reduceAdd,Nat.reduceSub,List.set_cons_zero,List.set_cons_succ,List.getElem?_cons_zero,List.getElem?_cons_succ,Bool.not_true,Bool.not_false,decide_true,decide_false,↓zj,↓zk,↓zl,↓zm,↓zn,↓zo,↓zp,↓zq,↓zr,↓zt,↓zu,↓zv,zj,zk,zl,zm,zn,zo,zp,zq,zr,zt,zu,zv,↓zw,↓zx,↓zy,↓zz,↓z9,↓ya,↓yb,↓yc,↓yd,↓ye,↓yf,↓yg,↓yh,↓yi,↓yj,↓yk,↓yl,↓ym,↓yn,↓yo,↓yp,↓eC,↓yq,↓eB,↓yr,↓yt,↓yu,↓yw,↓yx,↓yy,↓yz,↓y5,↓y6,↓y8,↓y9,↓xa,↓xb,↓xc,↓xg,↓xh,↓xi,↓xj,↓xk,↓xl,↓xm,↓xn,↓xo,↓xp,↓xq,↓xr,↓xt,↓xu,↓xy,↓xz,↓x5,↓x6,↓x7,↓x8,↓x9,↓wa,↓wb,↓wc,↓wd,↓we,↓wf,↓wg,↓wh,↓wj,↓wl,↓wm,↓wn,↓wo,↓wp,↓wq,↓wt,↓wu,wv,ww,wx,wy,wz,w3,w4,↓x9,↓wa,↓w6,↓x8,↓w7,↓w8,↓w9,va,vb,↓vc,↓vd,↓vf,↓vg,↓vh,↓vi,↓vj,↓vk,↓vm,↓vn,↓vo,↓vp,↓vq,↓vt,↓vv,↓vw,↓vx,↓vy,↓vz,↓v0,↓v3,↓v4,↓v5,↓v7,↓v8,↓v9,↓ua,↓ub,↓uc,↓ud,↓ue,↓uf,↓ug,↓uh,ui,uj,uk,ul,um,uo,uq,ur,ut,uu,uv,uw,ux,uy,uz,u2,u3,u5,u6,u7,u8,Option.bind_some,u9,tj,tm,tq,tv,tw,tz,t3,t8,t9,sf,true_and,beq_self_eq_true,Bool.false_eq_true,c0,c1,Int.cast_ofNat_Int,Int.reduceEq,Int.reduceLT,Int.reduceLE,Int.reduceAdd,Int.reduceSub,↓reduceIte]
        rw [decide_eq_true e3.2]
        try simp -dsimp only [↓za,↓zb,↓zc,↓zd,↓ze,↓zf,↓zg,zh,zi,List.map_cons,List.map_nil,List.length_cons,List.length_nil,List.replicate_succ,List.replicate_zero,List.cons_append,List.nil_append,Nat.reduceAdd,Nat.reduceSub,List.set_cons_zero,List.set_cons_succ,List.getElem?_cons_zero,List.getElem?_cons_succ,Bool.not_true,Bool.not_false,decide_true,decide_false,↓zj,↓zk,↓zl,↓zm,↓zn,↓zo,↓zp,↓zq,↓zr,↓zt,↓zu,↓zv,zj,zk,zl,zm,zn,zo,zp,zq,zr,zt,zu,zv,↓zw,↓zx,↓zy,↓zz,↓z9,↓ya,↓yb,↓yc,↓yd,↓ye,↓yf,↓yg,↓yh,↓yi,↓yj,↓yk,↓yl,↓ym,↓yn,↓yo,↓yp,↓eC,↓yq,↓eB,↓yr,↓yt,↓yu,↓yw,↓yx,↓yy,↓yz,↓y5,↓y6,↓y8,↓y9,↓xa,↓xb,↓xc,↓xg,↓xh,↓xi,↓xj,↓xk,↓xl,↓xm,↓xn,↓xo,↓xp,↓xq,↓xr,↓xt,↓xu,↓xy,↓xz,↓x5,↓x6,↓x7,↓x8,↓x9,↓wa,↓wb,↓wc,↓wd,↓we,↓wf,↓wg,↓wh,↓wj,↓wl,↓wm,↓wn,↓wo,↓wp,↓wq,↓wt,↓wu,wv,ww,wx,wy,wz,w3,w4,↓x9,↓wa,↓w6,↓x8,↓w7,↓w8,↓w9,va,vb,↓vc,↓vd,↓vf,↓vg,↓vh,↓vi,↓vj,↓vk,↓vm,↓vn,↓vo,↓vp,↓vq,↓vt,↓vv,↓vw,↓vx,↓vy,↓vz,↓v0,↓v3,↓v4,↓v5,↓v7,↓v8,↓v9,↓ua,↓ub,↓uc,↓ud,↓ue,↓uf,↓ug,↓uh,ui,uj,uk,ul,um,uo,uq,ur,ut,uu,uv,uw,ux,uy,uz,u2,u3,u5,u6,u7,u8,Option.bind_some,u9,tj,tm,tq,tv,tw,tz,t3,t8,t9,sf,true_and,beq_self_eq_true,Bool.false_eq_true,c0,c1,Int.cast_ofNat_Int,Int.reduceEq,Int.reduceLT,Int.reduceLE,Int.reduceAdd,Int.reduceSub,↓reduceIte]
        by_cases e4 : 0 ≤ l ∧ l ≤ 3
        · rw [if_neg (not_not_intro e4)] at q
          rw [decide_eq_true e4.1]
          try simp -dsimp only [↓za,↓zb,↓zc,↓zd,↓ze,↓zf,↓zg,zh,zi,List.map_cons,List.map_nil,List.length_cons,List.length_nil,List.replicate_succ,List.replicate_zero,List.cons_append,List.nil_append,Nat.reduceAdd,Nat.reduceSub,List.set_cons_zero,List.set_cons_succ,List.getElem?_cons_zero,List.getElem?_cons_succ,Bool.not_true,Bool.not_false,decide_true,decide_false,↓zj,↓zk,↓zl,↓zm,↓zn,↓zo,↓zp,↓zq,↓zr,↓zt,↓zu,↓zv,zj,zk,zl,zm,zn,zo,zp,zq,zr,zt,zu,zv,↓zw,↓zx,↓zy,↓zz,↓z9,↓ya,↓yb,↓yc,↓yd,↓ye,↓yf,↓yg,↓yh,↓yi,↓yj,↓yk,↓yl,↓ym,↓yn,↓yo,↓yp,↓eC,↓yq,↓eB,↓yr,↓yt,↓yu,↓yw,↓yx,↓yy,↓yz,↓y5,↓y6,↓y8,↓y9,↓xa,↓xb,↓xc,↓xg,↓xh,↓xi,↓xj,↓xk,↓xl,↓xm,↓xn,↓xo,↓xp,↓xq,↓xr,↓xt,↓xu,↓xy,↓xz,↓x5,↓x6,↓x7,↓x8,↓x9,↓wa,↓wb,↓wc,↓wd,↓we,↓wf,↓wg,↓wh,↓wj,↓wl,↓wm,↓wn,↓wo,↓wp,↓wq,↓wt,↓wu,wv,ww,wx,wy,wz,w3,w4,↓x9,↓wa,↓w6,↓x8,↓w7,↓w8,↓w9,va,vb,↓vc,↓vd,↓vf,↓vg,↓vh,↓vi,↓vj,↓vk,↓vm,↓vn,↓vo,↓vp,↓vq,↓vt,↓vv,↓vw,↓vx,↓vy,↓vz,↓v0,↓v3,↓v4,↓v5,↓v7,↓v8,↓v9,↓ua,↓ub,↓uc,↓ud,↓ue,↓uf,↓ug,↓uh,ui,uj,uk,ul,um,uo,uq,ur,ut,uu,uv,uw,ux,uy,uz,u2,u3,u5,u6,u7,u8,Option.bind_some,u9,tj,tm,tq,tv,tw,tz,t3,t8,t9,sf,true_and,beq_self_eq_true,Bool.false_eq_true,c0,c1,Int.cast_ofNat_Int,Int.reduceEq,Int.reduceLT,Int.reduceLE,Int.reduceAdd,Int.reduceSub,↓reduceIte]
          rw [decide_eq_true e4.2]
          try simp -dsimp only [↓za,↓zb,↓zc,↓zd,↓ze,↓zf,↓zg,zh,zi,List.map_cons,List.map_nil,List.length_cons,List.length_nil,List.replicate_succ,List.replicate_zero,List.cons_append,List.nil_append,Nat.reduceAdd,Nat.reduceSub,List.set_cons_zero,List.set_cons_succ,List.getElem?_cons_zero,List.getElem?_cons_succ,Bool.not_true,Bool.not_false,decide_true,decide_false,↓zj,↓zk,↓zl,↓zm,↓zn,↓zo,↓zp,↓zq,↓zr,↓zt,↓zu,↓zv,zj,zk,zl,zm,zn,zo,zp,zq,zr,zt,zu,zv,↓zw,↓zx,↓zy,↓zz,↓z9,↓ya,↓yb,↓yc,↓yd,↓ye,↓yf,↓yg,↓yh,↓yi,↓yj,↓yk,↓yl,↓ym,↓yn,↓yo,↓yp,↓eC,↓yq,↓eB,↓yr,↓yt,↓yu,↓yw,↓yx,↓yy,↓yz,↓y5,↓y6,↓y8,↓y9,↓xa,↓xb,↓xc,↓xg,↓xh,↓xi,↓xj,↓xk,↓xl,↓xm,↓xn,↓xo,↓xp,↓xq,↓xr,↓xt,↓xu,↓xy,↓xz,↓x5,↓x6,↓x7,↓x8,↓x9,↓wa,↓wb,↓wc,↓wd,↓we,↓wf,↓wg,↓wh,↓wj,↓wl,↓wm,↓wn,↓wo,↓wp,↓wq,↓wt,↓wu,wv,ww,wx,wy,wz,w3,w4,↓x9,↓wa,↓w6,↓x8,↓w7,↓w8,↓w9,va,vb,↓vc,↓vd,↓vf,↓vg,↓vh,↓vi,↓vj,↓vk,↓vm,↓vn,↓vo,↓vp,↓vq,↓vt,↓vv,↓vw,↓vx,↓vy,↓vz,↓v0,↓v3,↓v4,↓v5,↓v7,↓v8,↓v9,↓ua,↓ub,↓uc,↓ud,↓ue,↓uf,↓ug,↓uh,ui,uj,uk,ul,um,uo,uq,ur,ut,uu,uv,uw,ux,uy,uz,u2,u3,u5,u6,u7,u8,Option.bind_some,u9,tj,tm,tq,tv,tw,tz,t3,t8,t9,sf,true_and,beq_self_eq_true,Bool.false_eq_true,c0,c1,Int.cast_ofNat_Int,Int.reduceEq,Int.reduceLT,Int.reduceLE,Int.reduceAdd,Int.reduceSub,↓reduceIte, List.length_map]
          by_cases e5 : 20 < rs.length
          · rw [if_pos e5] at q
            have e5' : (20 : Int) < (rs.length : Int) := by omega
            rw [decide_eq_true e5']
            try simp -dsimp only [↓za,↓zb,↓zc,↓zd,↓ze,↓zf,↓zg,zh,zi,List.map_cons,List.map_nil,List.length_cons,List.length_nil,List.replicate_succ,List.replicate_zero,List.cons_append,List.nil_append,Nat.reduceAdd,Nat.reduceSub,List.set_cons_zero,List.set_cons_succ,List.getElem?_cons_zero,List.getElem?_cons_succ,Bool.not_true,Bool.not_false,decide_true,decide_false,↓zj,↓zk,↓zl,↓zm,↓zn,↓zo,↓zp,↓zq,↓zr,↓zt,↓zu,↓zv,zj,zk,zl,zm,zn,zo,zp,zq,zr,zt,zu,zv,↓zw,↓zx,↓zy,↓zz,↓z9,↓ya,↓yb,↓yc,↓yd,↓ye,↓yf,↓yg,↓yh,↓yi,↓yj,↓yk,↓yl,↓ym,↓yn,↓yo,↓yp,↓eC,↓yq,↓eB,↓yr,↓yt,↓yu,↓yw,↓yx,↓yy,↓yz,↓y5,↓y6,↓y8,↓y9,↓xa,↓xb,↓xc,↓xg,↓xh,↓xi,↓xj,↓xk,↓xl,↓xm,↓xn,↓xo,↓xp,↓xq,↓xr,↓xt,↓xu,↓xy,↓xz,↓x5,↓x6,↓x7,↓x8,↓x9,↓wa,↓wb,↓wc,↓wd,↓we,↓wf,↓wg,↓wh,↓wj,↓wl,↓wm,↓wn,↓wo,↓wp,↓wq,↓wt,↓wu,wv,ww,wx,wy,wz,w3,w4,↓x9,↓wa,↓w6,↓x8,↓w7,↓w8,↓w9,va,vb,↓vc,↓vd,↓vf,↓vg,↓vh,↓vi,↓vj,↓vk,↓vm,↓vn,↓vo,↓vp,↓vq,↓vt,↓vv,↓vw,↓vx,↓vy,↓vz,↓v0,↓v3,↓v4,↓v5,↓v7,↓v8,↓v9,↓ua,↓ub,↓uc,↓ud,↓ue,↓uf,↓ug,↓uh,ui,uj,uk,ul,um,uo,uq,ur,ut,uu,uv,uw,ux,uy,uz,u2,u3,u5,u6,u7,u8,Option.bind_some,u9,tj,tm,tq,tv,tw,tz,t3,t8,t9,sf,true_and,beq_self_eq_true,Bool.false_eq_true,c0,c1,Int.cast_ofNat_Int,Int.reduceEq,Int.reduceLT,Int.reduceLE,Int.reduceAdd,Int.reduceSub,↓reduceIte]
            exact ⟨by decide, q⟩
          · rw [if_neg e5] at q
            have e5' : ¬ (20 : Int) < (rs.length : Int) := by omega
            rw [decide_eq_false e5']
            try simp -dsimp only [↓za,↓zb,↓zc,↓zd,↓ze,↓zf,↓zg,zh,zi,List.map_cons,List.map_nil,List.length_cons,List.length_nil,List.replicate_succ,List.replicate_zero,List.cons_append,List.nil_append,Nat.reduceAdd,Nat.reduceSub,List.set_cons_zero,List.set_cons_succ,List.getElem?_cons_zero,List.getElem?_cons_succ,Bool.not_true,Bool.not_false,decide_true,decide_false,↓zj,↓zk,↓zl,↓zm,↓zn,↓zo,↓zp,↓zq,↓zr,↓zt,↓zu,↓zv,zj,zk,zl,zm,zn,zo,zp,zq,zr,zt,zu,zv,↓zw,↓zx,↓zy,↓zz,↓z9,↓ya,↓yb,↓yc,↓yd,↓ye,↓yf,↓yg,↓yh,↓yi,↓yj,↓yk,↓yl,↓ym,↓yn,↓yo,↓yp,↓eC,↓yq,↓eB,↓yr,↓yt,↓yu,↓yw,↓yx,↓yy,↓yz,↓y5,↓y6,↓y8,↓y9,↓xa,↓xb,↓xc,↓xg,↓xh,↓xi,↓xj,↓xk,↓xl,↓xm,↓xn,↓xo,↓xp,↓xq,↓xr,↓xt,↓xu,↓xy,↓xz,↓x5,↓x6,↓x7,↓x8,↓x9,↓wa,↓wb,↓wc,↓wd,↓we,↓wf,↓wg,↓wh,↓wj,↓wl,↓wm,↓wn,↓wo,↓wp,↓wq,↓wt,↓wu,wv,ww,wx,wy,wz,w3,w4,↓x9,↓wa,↓w6,↓x8,↓w7,↓w8,↓w9,va,vb,↓vc,↓vd,↓vf,↓vg,↓vh,↓vi,↓vj,↓vk,↓vm,↓vn,↓vo,↓vp,↓vq,↓vt,↓vv,↓vw,↓vx,↓vy,↓vz,↓v0,↓v3,↓v4,↓v5,↓v7,↓v8,↓v9,↓ua,↓ub,↓uc,↓ud,↓ue,↓uf,↓ug,↓uh,ui,uj,uk,ul,um,uo,uq,ur,ut,uu,uv,uw,ux,uy,uz,u2,u3,u5,u6,u7,u8,Option.bind_some,u9,tj,tm,tq,tv,tw,tz,t3,t8,t9,sf,true_and,beq_self_eq_true,Bool.false_eq_true,c0,c1,Int.cast_ofNat_Int,Int.reduceEq,Int.reduceLT,Int.reduceLE,Int.reduceAdd,Int.reduceSub,↓reduceIte]
            refine forS_en (fun k ρ M' => M = M' ∧ (∃ o6 o7, ρ = [some (.tup [.int m, .int c, .int qq, .int l, .lst (rs.map rrD)]), some (.int m), some (.int c), some (.int qq), some (.int l), some (.lst (rs.map rrD)), o6, o7]) ∧ ∀ j r, j < k → rs[j]? = some r → isRule ⟨m, c, qq, l, rs⟩ r = true) ⟨rfl, ⟨_, _, rfl⟩, fun j r hj => absurd hj (Nat.not_lt_zero _)⟩ ?_ ?_
            · rintro k x ρ M' hk ⟨rfl, ⟨o6, o7, rfl⟩, hf⟩ nn cc hn1 hc1
              try simp -dsimp only [↓za,↓zb,↓zc,↓zd,↓ze,↓zf,↓zg,zh,zi,List.map_cons,List.map_nil,List.length_cons,List.length_nil,List.replicate_succ,List.replicate_zero,List.cons_append,List.nil_append,Nat.reduceAdd,Nat.reduceSub,List.set_cons_zero,List.set_cons_succ,List.getElem?_cons_zero,List.getElem?_cons_succ,Bool.not_true,Bool.not_false,decide_true,decide_false,↓zj,↓zk,↓zl,↓zm,↓zn,↓zo,↓zp,↓zq,↓zr,↓zt,↓zu,↓zv,zj,zk,zl,zm,zn,zo,zp,zq,zr,zt,zu,zv,↓zw,↓zx,↓zy,↓zz,↓z9,↓ya,↓yb,↓yc,↓yd,↓ye,↓yf,↓yg,↓yh,↓yi,↓yj,↓yk,↓yl,↓ym,↓yn,↓yo,↓yp,↓eC,↓yq,↓eB,↓yr,↓yt,↓yu,↓yw,↓yx,↓yy,↓yz,↓y5,↓y6,↓y8,↓y9,↓xa,↓xb,↓xc,↓xg,↓xh,↓xi,↓xj,↓xk,↓xl,↓xm,↓xn,↓xo,↓xp,↓xq,↓xr,↓xt,↓xu,↓xy,↓xz,↓x5,↓x6,↓x7,↓x8,↓x9,↓wa,↓wb,↓wc,↓wd,↓we,↓wf,↓wg,↓wh,↓wj,↓wl,↓wm,↓wn,↓wo,↓wp,↓wq,↓wt,↓wu,wv,ww,wx,wy,wz,w3,w4,↓x9,↓wa,↓w6,↓x8,↓w7,↓w8,↓w9,va,vb,↓vc,↓vd,↓vf,↓vg,↓vh,↓vi,↓vj,↓vk,↓vm,↓vn,↓vo,↓vp,↓vq,↓vt,↓vv,↓vw,↓vx,↓vy,↓vz,↓v0,↓v3,↓v4,↓v5,↓v7,↓v8,↓v9,↓ua,↓ub,↓uc,↓ud,↓ue,↓uf,↓ug,↓uh,ui,uj,uk,ul,um,uo,uq,ur,ut,uu,uv,uw,ux,uy,uz,u2,u3,u5,u6,u7,u8,Option.bind_some,u9,tj,tm,tq,tv,tw,tz,t3,t8,t9,sf,true_and,beq_self_eq_true,Bool.false_eq_true,c0,c1,Int.cast_ofNat_Int,Int.reduceEq,Int.reduceLT,Int.reduceLE,Int.reduceAdd,Int.reduceSub,↓reduceIte]
              refine ⟨⟨m, c, qq, l, rs⟩, x, _, rfl, hm x (List.mem_of_getElem? hk), ?_⟩
              cases hx : isRule ⟨m, c, qq, l, rs⟩ x with
              | true =>
                try simp -dsimp only [↓za,↓zb,↓zc,↓zd,↓ze,↓zf,↓zg,zh,zi,List.map_cons,List.map_nil,List.length_cons,List.length_nil,List.replicate_succ,List.replicate_zero,List.cons_append,List.nil_append,Nat.reduceAdd,Nat.reduceSub,List.set_cons_zero,List.set_cons_succ,List.getElem?_cons_zero,List.getElem?_cons_succ,Bool.not_true,Bool.not_false,decide_true,decide_false,↓zj,↓zk,↓zl,↓zm,↓zn,↓zo,↓zp,↓zq,↓zr,↓zt,↓zu,↓zv,zj,zk,zl,zm,zn,zo,zp,zq,zr,zt,zu,zv,↓zw,↓zx,↓zy,↓zz,↓z9,↓ya,↓yb,↓yc,↓yd,↓ye,↓yf,↓yg,↓yh,↓yi,↓yj,↓yk,↓yl,↓ym,↓yn,↓yo,↓yp,↓eC,↓yq,↓eB,↓yr,↓yt,↓yu,↓yw,↓yx,↓yy,↓yz,↓y5,↓y6,↓y8,↓y9,↓xa,↓xb,↓xc,↓xg,↓xh,↓xi,↓xj,↓xk,↓xl,↓xm,↓xn,↓xo,↓xp,↓xq,↓xr,↓xt,↓xu,↓xy,↓xz,↓x5,↓x6,↓x7,↓x8,↓x9,↓wa,↓wb,↓wc,↓wd,↓we,↓wf,↓wg,↓wh,↓wj,↓wl,↓wm,↓wn,↓wo,↓wp,↓wq,↓wt,↓wu,wv,ww,wx,wy,wz,w3,w4,↓x9,↓wa,↓w6,↓x8,↓w7,↓w8,↓w9,va,vb,↓vc,↓vd,↓vf,↓vg,↓vh,↓vi,↓vj,↓vk,↓vm,↓vn,↓vo,↓vp,↓vq,↓vt,↓vv,↓vw,↓vx,↓vy,↓vz,↓v0,↓v3,↓v4,↓v5,↓v7,↓v8,↓v9,↓ua,↓ub,↓uc,↓ud,↓ue,↓uf,↓ug,↓uh,ui,uj,uk,ul,um,uo,uq,ur,ut,uu,uv,uw,ux,uy,uz,u2,u3,u5,u6,u7,u8,Option.bind_some,u9,tj,tm,tq,tv,tw,tz,t3,t8,t9,sf,true_and,beq_self_eq_true,Bool.false_eq_true,c0,c1,Int.cast_ofNat_Int,Int.reduceEq,Int.reduceLT,Int.reduceLE,Int.reduceAdd,Int.reduceSub,↓reduceIte]
                refine hn1 _ _ ⟨rfl, ⟨_, _, rfl⟩, fun j r hj hr => ?_⟩
                by_cases e : j = k
                · rw [e, hk] at hr
                  cases hr
                  exact hx
                · exact hf j r (by omega) hr
              | false =>
                try simp -dsimp only [↓za,↓zb,↓zc,↓zd,↓ze,↓zf,↓zg,zh,zi,List.map_cons,List.map_nil,List.length_cons,List.length_nil,List.replicate_succ,List.replicate_zero,List.cons_append,List.nil_append,Nat.reduceAdd,Nat.reduceSub,List.set_cons_zero,List.set_cons_succ,List.getElem?_cons_zero,List.getElem?_cons_succ,Bool.not_true,Bool.not_false,decide_true,decide_false,↓zj,↓zk,↓zl,↓zm,↓zn,↓zo,↓zp,↓zq,↓zr,↓zt,↓zu,↓zv,zj,zk,zl,zm,zn,zo,zp,zq,zr,zt,zu,zv,↓zw,↓zx,↓zy,↓zz,↓z9,↓ya,↓yb,↓yc,↓yd,↓ye,↓yf,↓yg,↓yh,↓yi,↓yj,↓yk,↓yl,↓ym,↓yn,↓yo,↓yp,↓eC,↓yq,↓eB,↓yr,↓yt,↓yu,↓yw,↓yx,↓yy,↓yz,↓y5,↓y6,↓y8,↓y9,↓xa,↓xb,↓xc,↓xg,↓xh,↓xi,↓xj,↓xk,↓xl,↓xm,↓xn,↓xo,↓xp,↓xq,↓xr,↓xt,↓xu,↓xy,↓xz,↓x5,↓x6,↓x7,↓x8,↓x9,↓wa,↓wb,↓wc,↓wd,↓we,↓wf,↓wg,↓wh,↓wj,↓wl,↓wm,↓wn,↓wo,↓wp,↓wq,↓wt,↓wu,wv,ww,wx,wy,wz,w3,w4,↓x9,↓wa,↓w6,↓x8,↓w7,↓w8,↓w9,va,vb,↓vc,↓vd,↓vf,↓vg,↓vh,↓vi,↓vj,↓vk,↓vm,↓vn,↓vo,↓vp,↓vq,↓vt,↓vv,↓vw,↓vx,↓vy,↓vz,↓v0,↓v3,↓v4,↓v5,↓v7,↓v8,↓v9,↓ua,↓ub,↓uc,↓ud,↓ue,↓uf,↓ug,↓uh,ui,uj,uk,ul,um,uo,uq,ur,ut,uu,uv,uw,ux,uy,uz,u2,u3,u5,u6,u7,u8,Option.bind_some,u9,tj,tm,tq,tv,tw,tz,t3,t8,t9,sf,true_and,beq_self_eq_true,Bool.false_eq_true,c0,c1,Int.cast_ofNat_Int,Int.reduceEq,Int.reduceLT,Int.reduceLE,Int.reduceAdd,Int.reduceSub,↓reduceIte]
                rw [bad_one hf hk hx] at q
                exact ⟨by decide, q⟩
            · rintro ρ M' ⟨rfl, ⟨o6, o7, rfl⟩, hf⟩
              try simp -dsimp only [↓za,↓zb,↓zc,↓zd,↓ze,↓zf,↓zg,zh,zi,List.map_cons,List.map_nil,List.length_cons,List.length_nil,List.replicate_succ,List.replicate_zero,List.cons_append,List.nil_append,Nat.reduceAdd,Nat.reduceSub,List.set_cons_zero,List.set_cons_succ,List.getElem?_cons_zero,List.getElem?_cons_succ,Bool.not_true,Bool.not_false,decide_true,decide_false,↓zj,↓zk,↓zl,↓zm,↓zn,↓zo,↓zp,↓zq,↓zr,↓zt,↓zu,↓zv,zj,zk,zl,zm,zn,zo,zp,zq,zr,zt,zu,zv,↓zw,↓zx,↓zy,↓zz,↓z9,↓ya,↓yb,↓yc,↓yd,↓ye,↓yf,↓yg,↓yh,↓yi,↓yj,↓yk,↓yl,↓ym,↓yn,↓yo,↓yp,↓eC,↓yq,↓eB,↓yr,↓yt,↓yu,↓yw,↓yx,↓yy,↓yz,↓y5,↓y6,↓y8,↓y9,↓xa,↓xb,↓xc,↓xg,↓xh,↓xi,↓xj,↓xk,↓xl,↓xm,↓xn,↓xo,↓xp,↓xq,↓xr,↓xt,↓xu,↓xy,↓xz,↓x5,↓x6,↓x7,↓x8,↓x9,↓wa,↓wb,↓wc,↓wd,↓we,↓wf,↓wg,↓wh,↓wj,↓wl,↓wm,↓wn,↓wo,↓wp,↓wq,↓wt,↓wu,wv,ww,wx,wy,wz,w3,w4,↓x9,↓wa,↓w6,↓x8,↓w7,↓w8,↓w9,va,vb,↓vc,↓vd,↓vf,↓vg,↓vh,↓vi,↓vj,↓vk,↓vm,↓vn,↓vo,↓vp,↓vq,↓vt,↓vv,↓vw,↓vx,↓vy,↓vz,↓v0,↓v3,↓v4,↓v5,↓v7,↓v8,↓v9,↓ua,↓ub,↓uc,↓ud,↓ue,↓uf,↓ug,↓uh,ui,uj,uk,ul,um,uo,uq,ur,ut,uu,uv,uw,ux,uy,uz,u2,u3,u5,u6,u7,u8,Option.bind_some,u9,tj,tm,tq,tv,tw,tz,t3,t8,t9,sf,true_and,beq_self_eq_true,Bool.false_eq_true,c0,c1,Int.cast_ofNat_Int,Int.reduceEq,Int.reduceLT,Int.reduceLE,Int.reduceAdd,Int.reduceSub,↓reduceIte]
              rw [bad_none hf] at q
              exact q
        · rw [if_pos e4] at q
          by_cases e : 0 ≤ l
          · rw [decide_eq_true e]
            try simp -dsimp only [↓za,↓zb,↓zc,↓zd,↓ze,↓zf,↓zg,zh,zi,List.map_cons,List.map_nil,List.length_cons,List.length_nil,List.replicate_succ,List.replicate_zero,List.cons_append,List.nil_append,Nat.reduceAdd,Nat.reduceSub,List.set_cons_zero,List.set_cons_succ,List.getElem?_cons_zero,List.getElem?_cons_succ,Bool.not_true,Bool.not_false,decide_true,decide_false,↓zj,↓zk,↓zl,↓zm,↓zn,↓zo,↓zp,↓zq,↓zr,↓zt,↓zu,↓zv,zj,zk,zl,zm,zn,zo,zp,zq,zr,zt,zu,zv,↓zw,↓zx,↓zy,↓zz,↓z9,↓ya,↓yb,↓yc,↓yd,↓ye,↓yf,↓yg,↓yh,↓yi,↓yj,↓yk,↓yl,↓ym,↓yn,↓yo,↓yp,↓eC,↓yq,↓eB,↓yr,↓yt,↓yu,↓yw,↓yx,↓yy,↓yz,↓y5,↓y6,↓y8,↓y9,↓xa,↓xb,↓xc,↓xg,↓xh,↓xi,↓xj,↓xk,↓xl,↓xm,↓xn,↓xo,↓xp,↓xq,↓xr,↓xt,↓xu,↓xy,↓xz,↓x5,↓x6,↓x7,↓x8,↓x9,↓wa,↓wb,↓wc,↓wd,↓we,↓wf,↓wg,↓wh,↓wj,↓wl,↓wm,↓wn,↓wo,↓wp,↓wq,↓wt,↓wu,wv,ww,wx,wy,wz,w3,w4,↓x9,↓wa,↓w6,↓x8,↓w7,↓w8,↓w9,va,vb,↓vc,↓vd,↓vf,↓vg,↓vh,↓vi,↓vj,↓vk,↓vm,↓vn,↓vo,↓vp,↓vq,↓vt,↓vv,↓vw,↓vx,↓vy,↓vz,↓v0,↓v3,↓v4,↓v5,↓v7,↓v8,↓v9,↓ua,↓ub,↓uc,↓ud,↓ue,↓uf,↓ug,↓uh,ui,uj,uk,ul,um,uo,uq,ur,ut,uu,uv,uw,ux,uy,uz,u2,u3,u5,u6,u7,u8,Option.bind_some,u9,tj,tm,tq,tv,tw,tz,t3,t8,t9,sf,true_and,beq_self_eq_true,Bool.false_eq_true,c0,c1,Int.cast_ofNat_Int,Int.reduceEq,Int.reduceLT,Int.reduceLE,Int.reduceAdd,Int.reduceSub,↓reduceIte]
            rw [decide_eq_false fun z => e4 ⟨e, z⟩]
            try simp -dsimp only [↓za,↓zb,↓zc,↓zd,↓ze,↓zf,↓zg,zh,zi,List.map_cons,List.map_nil,List.length_cons,List.length_nil,List.replicate_succ,List.replicate_zero,List.cons_append,List.nil_append,Nat.reduceAdd,Nat.reduceSub,List.set_cons_zero,List.set_cons_succ,List.getElem?_cons_zero,List.getElem?_cons_succ,Bool.not_true,Bool.not_false,decide_true,decide_false,↓zj,↓zk,↓zl,↓zm,↓zn,↓zo,↓zp,↓zq,↓zr,↓zt,↓zu,↓zv,zj,zk,zl,zm,zn,zo,zp,zq,zr,zt,zu,zv,↓zw,↓zx,↓zy,↓zz,↓z9,↓ya,↓yb,↓yc,↓yd,↓ye,↓yf,↓yg,↓yh,↓yi,↓yj,↓yk,↓yl,↓ym,↓yn,↓yo,↓yp,↓eC,↓yq,↓eB,↓yr,↓yt,↓yu,↓yw,↓yx,↓yy,↓yz,↓y5,↓y6,↓y8,↓y9,↓xa,↓xb,↓xc,↓xg,↓xh,↓xi,↓xj,↓xk,↓xl,↓xm,↓xn,↓xo,↓xp,↓xq,↓xr,↓xt,↓xu,↓xy,↓xz,↓x5,↓x6,↓x7,↓x8,↓x9,↓wa,↓wb,↓wc,↓wd,↓we,↓wf,↓wg,↓wh,↓wj,↓wl,↓wm,↓wn,↓wo,↓wp,↓wq,↓wt,↓wu,wv,ww,wx,wy,wz,w3,w4,↓x9,↓wa,↓w6,↓x8,↓w7,↓w8,↓w9,va,vb,↓vc,↓vd,↓vf,↓vg,↓vh,↓vi,↓vj,↓vk,↓vm,↓vn,↓vo,↓vp,↓vq,↓vt,↓vv,↓vw,↓vx,↓vy,↓vz,↓v0,↓v3,↓v4,↓v5,↓v7,↓v8,↓v9,↓ua,↓ub,↓uc,↓ud,↓ue,↓uf,↓ug,↓uh,ui,uj,uk,ul,um,uo,uq,ur,ut,uu,uv,uw,ux,uy,uz,u2,u3,u5,u6,u7,u8,Option.bind_some,u9,tj,tm,tq,tv,tw,tz,t3,t8,t9,sf,true_and,beq_self_eq_true,Bool.false_eq_true,c0,c1,Int.cast_ofNat_Int,Int.reduceEq,Int.reduceLT,Int.reduceLE,Int.reduceAdd,Int.reduceSub,↓reduceIte]
            exact ⟨by decide, q⟩
          · rw [decide_eq_false e]
            try simp -dsimp only [↓za,↓zb,↓zc,↓zd,↓ze,↓zf,↓zg,zh,zi,List.map_cons,List.map_nil,List.length_cons,List.length_nil,List.replicate_succ,List.replicate_zero,List.cons_append,List.nil_append,Nat.reduceAdd,Nat.reduceSub,List.set_cons_zero,List.set_cons_succ,List.getElem?_cons_zero,List.getElem?_cons_succ,Bool.not_true,Bool.not_false,decide_true,decide_false,↓zj,↓zk,↓zl,↓zm,↓zn,↓zo,↓zp,↓zq,↓zr,↓zt,↓zu,↓zv,zj,zk,zl,zm,zn,zo,zp,zq,zr,zt,zu,zv,↓zw,↓zx,↓zy,↓zz,↓z9,↓ya,↓yb,↓yc,↓yd,↓ye,↓yf,↓yg,↓yh,↓yi,↓yj,↓yk,↓yl,↓ym,↓yn,↓yo,↓yp,↓eC,↓yq,↓eB,↓yr,↓yt,↓yu,↓yw,↓yx,↓yy,↓yz,↓y5,↓y6,↓y8,↓y9,↓xa,↓xb,↓xc,↓xg,↓xh,↓xi,↓xj,↓xk,↓xl,↓xm,↓xn,↓xo,↓xp,↓xq,↓xr,↓xt,↓xu,↓xy,↓xz,↓x5,↓x6,↓x7,↓x8,↓x9,↓wa,↓wb,↓wc,↓wd,↓we,↓wf,↓wg,↓wh,↓wj,↓wl,↓wm,↓wn,↓wo,↓wp,↓wq,↓wt,↓wu,wv,ww,wx,wy,wz,w3,w4,↓x9,↓wa,↓w6,↓x8,↓w7,↓w8,↓w9,va,vb,↓vc,↓vd,↓vf,↓vg,↓vh,↓vi,↓vj,↓vk,↓vm,↓vn,↓vo,↓vp,↓vq,↓vt,↓vv,↓vw,↓vx,↓vy,↓vz,↓v0,↓v3,↓v4,↓v5,↓v7,↓v8,↓v9,↓ua,↓ub,↓uc,↓ud,↓ue,↓uf,↓ug,↓uh,ui,uj,uk,ul,um,uo,uq,ur,ut,uu,uv,uw,ux,uy,uz,u2,u3,u5,u6,u7,u8,Option.bind_some,u9,tj,tm,tq,tv,tw,tz,t3,t8,t9,sf,true_and,beq_self_eq_true,Bool.false_eq_true,c0,c1,Int.cast_ofNat_Int,Int.reduceEq,Int.reduceLT,Int.reduceLE,Int.reduceAdd,Int.reduceSub,↓reduceIte]
            exact ⟨by decide, q⟩
      · rw [if_pos e3] at q
        by_cases e : 0 ≤ qq
        · rw [decide_eq_true e]
          try simp -dsimp only [↓za,↓zb,↓zc,↓zd,↓ze,↓zf,↓zg,zh,zi,List.map_cons,List.map_nil,List.length_cons,List.length_nil,List.replicate_succ,List.replicate_zero,List.cons_append,List.nil_append,Nat.reduceAdd,Nat.reduceSub,List.set_cons_zero,List.set_cons_succ,List.getElem?_cons_zero,List.getElem?_cons_succ,Bool.not_true,Bool.not_false,decide_true,decide_false,↓zj,↓zk,↓zl,↓zm,↓zn,↓zo,↓zp,↓zq,↓zr,↓zt,↓zu,↓zv,zj,zk,zl,zm,zn,zo,zp,zq,zr,zt,zu,zv,↓zw,↓zx,↓zy,↓zz,↓z9,↓ya,↓yb,↓yc,↓yd,↓ye,↓yf,↓yg,↓yh,↓yi,↓yj,↓yk,↓yl,↓ym,↓yn,↓yo,↓yp,↓eC,↓yq,↓eB,↓yr,↓yt,↓yu,↓yw,↓yx,↓yy,↓yz,↓y5,↓y6,↓y8,↓y9,↓xa,↓xb,↓xc,↓xg,↓xh,↓xi,↓xj,↓xk,↓xl,↓xm,↓xn,↓xo,↓xp,↓xq,↓xr,↓xt,↓xu,↓xy,↓xz,↓x5,↓x6,↓x7,↓x8,↓x9,↓wa,↓wb,↓wc,↓wd,↓we,↓wf,↓wg,↓wh,↓wj,↓wl,↓wm,↓wn,↓wo,↓wp,↓wq,↓wt,↓wu,wv,ww,wx,wy,wz,w3,w4,↓x9,↓wa,↓w6,↓x8,↓w7,↓w8,↓w9,va,vb,↓vc,↓vd,↓vf,↓vg,↓vh,↓vi,↓vj,↓vk,↓vm,↓vn,↓vo,↓vp,↓vq,↓vt,↓vv,↓vw,↓vx,↓vy,↓vz,↓v0,↓v3,↓v4,↓v5,↓v7,↓v8,↓v9,↓ua,↓ub,↓uc,↓ud,↓ue,↓uf,↓ug,↓uh,ui,uj,uk,ul,um,uo,uq,ur,ut,uu,uv,uw,ux,uy,uz,u2,u3,u5,u6,u7,u8,Option.bind_some,u9,tj,tm,tq,tv,tw,tz,t3,t8,t9,sf,true_and,beq_self_eq_true,Bool.false_eq_true,c0,c1,Int.cast_ofNat_Int,Int.reduceEq,Int.reduceLT,Int.reduceLE,Int.reduceAdd,Int.reduceSub,↓reduceIte]
          rw [decide_eq_false fun z => e3 ⟨e, z⟩]
          try simp -dsimp only [↓za,↓zb,↓zc,↓zd,↓ze,↓zf,↓zg,zh,zi,List.map_cons,List.map_nil,List.length_cons,List.length_nil,List.replicate_succ,List.replicate_zero,List.cons_append,List.nil_append,Nat.reduceAdd,Nat.reduceSub,List.set_cons_zero,List.set_cons_succ,List.getElem?_cons_zero,List.getElem?_cons_succ,Bool.not_true,Bool.not_false,decide_true,decide_false,↓zj,↓zk,↓zl,↓zm,↓zn,↓zo,↓zp,↓zq,↓zr,↓zt,↓zu,↓zv,zj,zk,zl,zm,zn,zo,zp,zq,zr,zt,zu,zv,↓zw,↓zx,↓zy,↓zz,↓z9,↓ya,↓yb,↓yc,↓yd,↓ye,↓yf,↓yg,↓yh,↓yi,↓yj,↓yk,↓yl,↓ym,↓yn,↓yo,↓yp,↓eC,↓yq,↓eB,↓yr,↓yt,↓yu,↓yw,↓yx,↓yy,↓yz,↓y5,↓y6,↓y8,↓y9,↓xa,↓xb,↓xc,↓xg,↓xh,↓xi,↓xj,↓xk,↓xl,↓xm,↓xn,↓xo,↓xp,↓xq,↓xr,↓xt,↓xu,↓xy,↓xz,↓x5,↓x6,↓x7,↓x8,↓x9,↓wa,↓wb,↓wc,↓wd,↓we,↓wf,↓wg,↓wh,↓wj,↓wl,↓wm,↓wn,↓wo,↓wp,↓wq,↓wt,↓wu,wv,ww,wx,wy,wz,w3,w4,↓x9,↓wa,↓w6,↓x8,↓w7,↓w8,↓w9,va,vb,↓vc,↓vd,↓vf,↓vg,↓vh,↓vi,↓vj,↓vk,↓vm,↓vn,↓vo,↓vp,↓vq,↓vt,↓vv,↓vw,↓vx,↓vy,↓vz,↓v0,↓v3,↓v4,↓v5,↓v7,↓v8,↓v9,↓ua,↓ub,↓uc,↓ud,↓ue,↓uf,↓ug,↓uh,ui,uj,uk,ul,um,uo,uq,ur,ut,uu,uv,uw,ux,uy,uz,u2,u3,u5,u6,u7,u8,Option.bind_some,u9,tj,tm,tq,tv,tw,tz,t3,t8,t9,sf,true_and,beq_self_eq_true,Bool.false_eq_true,c0,c1,Int.cast_ofNat_Int,Int.reduceEq,Int.reduceLT,Int.reduceLE,Int.reduceAdd,Int.reduceSub,↓reduceIte]
          exact ⟨by decide, q⟩
        · rw [decide_eq_false e]
          try simp -dsimp only [↓za,↓zb,↓zc,↓zd,↓ze,↓zf,↓zg,zh,zi,List.map_cons,List.map_nil,List.length_cons,List.length_nil,List.replicate_succ,List.replicate_zero,List.cons_append,List.nil_append,Nat.reduceAdd,Nat.reduceSub,List.set_cons_zero,List.set_cons_succ,List.getElem?_cons_zero,List.getElem?_cons_succ,Bool.not_true,Bool.not_false,decide_true,decide_false,↓zj,↓zk,↓zl,↓zm,↓zn,↓zo,↓zp,↓zq,↓zr,↓zt,↓zu,↓zv,zj,zk,zl,zm,zn,zo,zp,zq,zr,zt,zu,zv,↓zw,↓zx,↓zy,↓zz,↓z9,↓ya,↓yb,↓yc,↓yd,↓ye,↓yf,↓yg,↓yh,↓yi,↓yj,↓yk,↓yl,↓ym,↓yn,↓yo,↓yp,↓eC,↓yq,↓eB,↓yr,↓yt,↓yu,↓yw,↓yx,↓yy,↓yz,↓y5,↓y6,↓y8,↓y9,↓xa,↓xb,↓xc,↓xg,↓xh,↓xi,↓xj,↓xk,↓xl,↓xm,↓xn,↓xo,↓xp,↓xq,↓xr,↓xt,↓xu,↓xy,↓xz,↓x5,↓x6,↓x7,↓x8,↓x9,↓wa,↓wb,↓wc,↓wd,↓we,↓wf,↓wg,↓wh,↓wj,↓wl,↓wm,↓wn,↓wo,↓wp,↓wq,↓wt,↓wu,wv,ww,wx,wy,wz,w3,w4,↓x9,↓wa,↓w6,↓x8,↓w7,↓w8,↓w9,va,vb,↓vc,↓vd,↓vf,↓vg,↓vh,↓vi,↓vj,↓vk,↓vm,↓vn,↓vo,↓vp,↓vq,↓vt,↓vv,↓vw,↓vx,↓vy,↓vz,↓v0,↓v3,↓v4,↓v5,↓v7,↓v8,↓v9,↓ua,↓ub,↓uc,↓ud,↓ue,↓uf,↓ug,↓uh,ui,uj,uk,ul,um,uo,uq,ur,ut,uu,uv,uw,ux,uy,uz,u2,u3,u5,u6,u7,u8,Option.bind_some,u9,tj,tm,tq,tv,tw,tz,t3,t8,t9,sf,true_and,beq_self_eq_true,Bool.false_eq_true,c0,c1,Int.cast_ofNat_Int,Int.reduceEq,Int.reduceLT,Int.reduceLE,Int.reduceAdd,Int.reduceSub,↓reduceIte]
          exact ⟨by decide, q⟩
    · rw [if_pos e2] at q
      by_cases e : 0 ≤ c
      · rw [decide_eq_true e]
        try simp -dsimp only [↓za,↓zb,↓zc,↓zd,↓ze,↓zf,↓zg,zh,zi,List.map_cons,List.map_nil,List.length_cons,List.length_nil,List.replicate_succ,List.replicate_zero,List.cons_append,List.nil_append,Nat.reduceAdd,Nat.reduceSub,List.set_cons_zero,List.set_cons_succ,List.getElem?_cons_zero,List.getElem?_cons_succ,Bool.not_true,Bool.not_false,decide_true,decide_false,↓zj,↓zk,↓zl,↓zm,↓zn,↓zo,↓zp,↓zq,↓zr,↓zt,↓zu,↓zv,zj,zk,zl,zm,zn,zo,zp,zq,zr,zt,zu,zv,↓zw,↓zx,↓zy,↓zz,↓z9,↓ya,↓yb,↓yc,↓yd,↓ye,↓yf,↓yg,↓yh,↓yi,↓yj,↓yk,↓yl,↓ym,↓yn,↓yo,↓yp,↓eC,↓yq,↓eB,↓yr,↓yt,↓yu,↓yw,↓yx,↓yy,↓yz,↓y5,↓y6,↓y8,↓y9,↓xa,↓xb,↓xc,↓xg,↓xh,↓xi,↓xj,↓xk,↓xl,↓xm,↓xn,↓xo,↓xp,↓xq,↓xr,↓xt,↓xu,↓xy,↓xz,↓x5,↓x6,↓x7,↓x8,↓x9,↓wa,↓wb,↓wc,↓wd,↓we,↓wf,↓wg,↓wh,↓wj,↓wl,↓wm,↓wn,↓wo,↓wp,↓wq,↓wt,↓wu,wv,ww,wx,wy,wz,w3,w4,↓x9,↓wa,↓w6,↓x8,↓w7,↓w8,↓w9,va,vb,↓vc,↓vd,↓vf,↓vg,↓vh,↓vi,↓vj,↓vk,↓vm,↓vn,↓vo,↓vp,↓vq,↓vt,↓vv,↓vw,↓vx,↓vy,↓vz,↓v0,↓v3,↓v4,↓v5,↓v7,↓v8,↓v9,↓ua,↓ub,↓uc,↓ud,↓ue,↓uf,↓ug,↓uh,ui,uj,uk,ul,um,uo,uq,ur,ut,uu,uv,uw,ux,uy,uz,u2,u3,u5,u6,u7,u8,Option.bind_some,u9,tj,tm,tq,tv,tw,tz,t3,t8,t9,sf,true_and,beq_self_eq_true,Bool.false_eq_true,c0,c1,Int.cast_ofNat_Int,Int.reduceEq,Int.reduceLT,Int.reduceLE,Int.reduceAdd,Int.reduceSub,↓reduceIte]
        rw [decide_eq_false fun z => e2 ⟨e, z⟩]
        try simp -dsimp only [↓za,↓zb,↓zc,↓zd,↓ze,↓zf,↓zg,zh,zi,List.map_cons,List.map_nil,List.length_cons,List.length_nil,List.replicate_succ,List.replicate_zero,List.cons_append,List.nil_append,Nat.reduceAdd,Nat.reduceSub,List.set_cons_zero,List.set_cons_succ,List.getElem?_cons_zero,List.getElem?_cons_succ,Bool.not_true,Bool.not_false,decide_true,decide_false,↓zj,↓zk,↓zl,↓zm,↓zn,↓zo,↓zp,↓zq,↓zr,↓zt,↓zu,↓zv,zj,zk,zl,zm,zn,zo,zp,zq,zr,zt,zu,zv,↓zw,↓zx,↓zy,↓zz,↓z9,↓ya,↓yb,↓yc,↓yd,↓ye,↓yf,↓yg,↓yh,↓yi,↓yj,↓yk,↓yl,↓ym,↓yn,↓yo,↓yp,↓eC,↓yq,↓eB,↓yr,↓yt,↓yu,↓yw,↓yx,↓yy,↓yz,↓y5,↓y6,↓y8,↓y9,↓xa,↓xb,↓xc,↓xg,↓xh,↓xi,↓xj,↓xk,↓xl,↓xm,↓xn,↓xo,↓xp,↓xq,↓xr,↓xt,↓xu,↓xy,↓xz,↓x5,↓x6,↓x7,↓x8,↓x9,↓wa,↓wb,↓wc,↓wd,↓we,↓wf,↓wg,↓wh,↓wj,↓wl,↓wm,↓wn,↓wo,↓wp,↓wq,↓wt,↓wu,wv,ww,wx,wy,wz,w3,w4,↓x9,↓wa,↓w6,↓x8,↓w7,↓w8,↓w9,va,vb,↓vc,↓vd,↓vf,↓vg,↓vh,↓vi,↓vj,↓vk,↓vm,↓vn,↓vo,↓vp,↓vq,↓vt,↓vv,↓vw,↓vx,↓vy,↓vz,↓v0,↓v3,↓v4,↓v5,↓v7,↓v8,↓v9,↓ua,↓ub,↓uc,↓ud,↓ue,↓uf,↓ug,↓uh,ui,uj,uk,ul,um,uo,uq,ur,ut,uu,uv,uw,ux,uy,uz,u2,u3,u5,u6,u7,u8,Option.bind_some,u9,tj,tm,tq,tv,tw,tz,t3,t8,t9,sf,true_and,beq_self_eq_true,Bool.false_eq_true,c0,c1,Int.cast_ofNat_Int,Int.reduceEq,Int.reduceLT,Int.reduceLE,Int.reduceAdd,Int.reduceSub,↓reduceIte]
        exact ⟨by decide, q⟩
      · rw [decide_eq_false e]
        try simp -dsimp only [↓za,↓zb,↓zc,↓zd,↓ze,↓zf,↓zg,zh,zi,List.map_cons,List.map_nil,List.length_cons,List.length_nil,List.replicate_succ,List.replicate_zero,List.cons_append,List.nil_append,Nat.reduceAdd,Nat.reduceSub,List.set_cons_zero,List.set_cons_succ,List.getElem?_cons_zero,List.getElem?_cons_succ,Bool.not_true,Bool.not_false,decide_true,decide_false,↓zj,↓zk,↓zl,↓zm,↓zn,↓zo,↓zp,↓zq,↓zr,↓zt,↓zu,↓zv,zj,zk,zl,zm,zn,zo,zp,zq,zr,zt,zu,zv,↓zw,↓zx,↓zy,↓zz,↓z9,↓ya,↓yb,↓yc,↓yd,↓ye,↓yf,↓yg,↓yh,↓yi,↓yj,↓yk,↓yl,↓ym,↓yn,↓yo,↓yp,↓eC,↓yq,↓eB,↓yr,↓yt,↓yu,↓yw,↓yx,↓yy,↓yz,↓y5,↓y6,↓y8,↓y9,↓xa,↓xb,↓xc,↓xg,↓xh,↓xi,↓xj,↓xk,↓xl,↓xm,↓xn,↓xo,↓xp,↓xq,↓xr,↓xt,↓xu,↓xy,↓xz,↓x5,↓x6,↓x7,↓x8,↓x9,↓wa,↓wb,↓wc,↓wd,↓we,↓wf,↓wg,↓wh,↓wj,↓wl,↓wm,↓wn,↓wo,↓wp,↓wq,↓wt,↓wu,wv,ww,wx,wy,wz,w3,w4,↓x9,↓wa,↓w6,↓x8,↓w7,↓w8,↓w9,va,vb,↓vc,↓vd,↓vf,↓vg,↓vh,↓vi,↓vj,↓vk,↓vm,↓vn,↓vo,↓vp,↓vq,↓vt,↓vv,↓vw,↓vx,↓vy,↓vz,↓v0,↓v3,↓v4,↓v5,↓v7,↓v8,↓v9,↓ua,↓ub,↓uc,↓ud,↓ue,↓uf,↓ug,↓uh,ui,uj,uk,ul,um,uo,uq,ur,ut,uu,uv,uw,ux,uy,uz,u2,u3,u5,u6,u7,u8,Option.bind_some,u9,tj,tm,tq,tv,tw,tz,t3,t8,t9,sf,true_and,beq_self_eq_true,Bool.false_eq_true,c0,c1,Int.cast_ofNat_Int,Int.reduceEq,Int.reduceLT,Int.reduceLE,Int.reduceAdd,Int.reduceSub,↓reduceIte]
        exact ⟨by decide, q⟩
  · rw [if_pos e1] at q
    by_cases e : 1 ≤ m
    · rw [decide_eq_true e]
      try simp -dsimp only [↓za,↓zb,↓zc,↓zd,↓ze,↓zf,↓zg,zh,zi,List.map_cons,List.map_nil,List.length_cons,List.length_nil,List.replicate_succ,List.replicate_zero,List.cons_append,List.nil_append,Nat.reduceAdd,Nat.reduceSub,List.set_cons_zero,List.set_cons_succ,List.getElem?_cons_zero,List.getElem?_cons_succ,Bool.not_true,Bool.not_false,decide_true,decide_false,↓zj,↓zk,↓zl,↓zm,↓zn,↓zo,↓zp,↓zq,↓zr,↓zt,↓zu,↓zv,zj,zk,zl,zm,zn,zo,zp,zq,zr,zt,zu,zv,↓zw,↓zx,↓zy,↓zz,↓z9,↓ya,↓yb,↓yc,↓yd,↓ye,↓yf,↓yg,↓yh,↓yi,↓yj,↓yk,↓yl,↓ym,↓yn,↓yo,↓yp,↓eC,↓yq,↓eB,↓yr,↓yt,↓yu,↓yw,↓yx,↓yy,↓yz,↓y5,↓y6,↓y8,↓y9,↓xa,↓xb,↓xc,↓xg,↓xh,↓xi,↓xj,↓xk,↓xl,↓xm,↓xn,↓xo,↓xp,↓xq,↓xr,↓xt,↓xu,↓xy,↓xz,↓x5,↓x6,↓x7,↓x8,↓x9,↓wa,↓wb,↓wc,↓wd,↓we,↓wf,↓wg,↓wh,↓wj,↓wl,↓wm,↓wn,↓wo,↓wp,↓wq,↓wt,↓wu,wv,ww,wx,wy,wz,w3,w4,↓x9,↓wa,↓w6,↓x8,↓w7,↓w8,↓w9,va,vb,↓vc,↓vd,↓vf,↓vg,↓vh,↓vi,↓vj,↓vk,↓vm,↓vn,↓vo,↓vp,↓vq,↓vt,↓vv,↓vw,↓vx,↓vy,↓vz,↓v0,↓v3,↓v4,↓v5,↓v7,↓v8,↓v9,↓ua,↓ub,↓uc,↓ud,↓ue,↓uf,↓ug,↓uh,ui,uj,uk,ul,um,uo,uq,ur,ut,uu,uv,uw,ux,uy,uz,u2,u3,u5,u6,u7,u8,Option.bind_some,u9,tj,tm,tq,tv,tw,tz,t3,t8,t9,sf,true_and,beq_self_eq_true,Bool.false_eq_true,c0,c1,Int.cast_ofNat_Int,Int.reduceEq,Int.reduceLT,Int.reduceLE,Int.reduceAdd,Int.reduceSub,↓reduceIte]
      rw [decide_eq_false fun z => e1 ⟨e, z⟩]
      try simp -dsimp only [↓za,↓zb,↓zc,↓zd,↓ze,↓zf,↓zg,zh,zi,List.map_cons,List.map_nil,List.length_cons,List.length_nil,List.replicate_succ,List.replicate_zero,List.cons_append,List.nil_append,Nat.reduceAdd,Nat.reduceSub,List.set_cons_zero,List.set_cons_succ,List.getElem?_cons_zero,List.getElem?_cons_succ,Bool.not_true,Bool.not_false,decide_true,decide_false,↓zj,↓zk,↓zl,↓zm,↓zn,↓zo,↓zp,↓zq,↓zr,↓zt,↓zu,↓zv,zj,zk,zl,zm,zn,zo,zp,zq,zr,zt,zu,zv,↓zw,↓zx,↓zy,↓zz,↓z9,↓ya,↓yb,↓yc,↓yd,↓ye,↓yf,↓yg,↓yh,↓yi,↓yj,↓yk,↓yl,↓ym,↓yn,↓yo,↓yp,↓eC,↓yq,↓eB,↓yr,↓yt,↓yu,↓yw,↓yx,↓yy,↓yz,↓y5,↓y6,↓y8,↓y9,↓xa,↓xb,↓xc,↓xg,↓xh,↓xi,↓xj,↓xk,↓xl,↓xm,↓xn,↓xo,↓xp,↓xq,↓xr,↓xt,↓xu,↓xy,↓xz,↓x5,↓x6,↓x7,↓x8,↓x9,↓wa,↓wb,↓wc,↓wd,↓we,↓wf,↓wg,↓wh,↓wj,↓wl,↓wm,↓wn,↓wo,↓wp,↓wq,↓wt,↓wu,wv,ww,wx,wy,wz,w3,w4,↓x9,↓wa,↓w6,↓x8,↓w7,↓w8,↓w9,va,vb,↓vc,↓vd,↓vf,↓vg,↓vh,↓vi,↓vj,↓vk,↓vm,↓vn,↓vo,↓vp,↓vq,↓vt,↓vv,↓vw,↓vx,↓vy,↓vz,↓v0,↓v3,↓v4,↓v5,↓v7,↓v8,↓v9,↓ua,↓ub,↓uc,↓ud,↓ue,↓uf,↓ug,↓uh,ui,uj,uk,ul,um,uo,uq,ur,ut,uu,uv,uw,ux,uy,uz,u2,u3,u5,u6,u7,u8,Option.bind_some,u9,tj,tm,tq,tv,tw,tz,t3,t8,t9,sf,true_and,beq_self_eq_true,Bool.false_eq_true,c0,c1,Int.cast_ofNat_Int,Int.reduceEq,Int.reduceLT,Int.reduceLE,Int.reduceAdd,Int.reduceSub,↓reduceIte]
      exact ⟨by decide, q⟩
    · rw [decide_eq_false e]
      try simp -dsimp only [↓za,↓zb,↓zc,↓zd,↓ze,↓zf,↓zg,zh,zi,List.map_cons,List.map_nil,List.length_cons,List.length_nil,List.replicate_succ,List.replicate_zero,List.cons_append,List.nil_append,Nat.reduceAdd,Nat.reduceSub,List.set_cons_zero,List.set_cons_succ,List.getElem?_cons_zero,List.getElem?_cons_succ,Bool.not_true,Bool.not_false,decide_true,decide_false,↓zj,↓zk,↓zl,↓zm,↓zn,↓zo,↓zp,↓zq,↓zr,↓zt,↓zu,↓zv,zj,zk,zl,zm,zn,zo,zp,zq,zr,zt,zu,zv,↓zw,↓zx,↓zy,↓zz,↓z9,↓ya,↓yb,↓yc,↓yd,↓ye,↓yf,↓yg,↓yh,↓yi,↓yj,↓yk,↓yl,↓ym,↓yn,↓yo,↓yp,↓eC,↓yq,↓eB,↓yr,↓yt,↓yu,↓yw,↓yx,↓yy,↓yz,↓y5,↓y6,↓y8,↓y9,↓xa,↓xb,↓xc,↓xg,↓xh,↓xi,↓xj,↓xk,↓xl,↓xm,↓xn,↓xo,↓xp,↓xq,↓xr,↓xt,↓xu,↓xy,↓xz,↓x5,↓x6,↓x7,↓x8,↓x9,↓wa,↓wb,↓wc,↓wd,↓we,↓wf,↓wg,↓wh,↓wj,↓wl,↓wm,↓wn,↓wo,↓wp,↓wq,↓wt,↓wu,wv,ww,wx,wy,wz,w3,w4,↓x9,↓wa,↓w6,↓x8,↓w7,↓w8,↓w9,va,vb,↓vc,↓vd,↓vf,↓vg,↓vh,↓vi,↓vj,↓vk,↓vm,↓vn,↓vo,↓vp,↓vq,↓vt,↓vv,↓vw,↓vx,↓vy,↓vz,↓v0,↓v3,↓v4,↓v5,↓v7,↓v8,↓v9,↓ua,↓ub,↓uc,↓ud,↓ue,↓uf,↓ug,↓uh,ui,uj,uk,ul,um,uo,uq,ur,ut,uu,uv,uw,ux,uy,uz,u2,u3,u5,u6,u7,u8,Option.bind_some,u9,tj,tm,tq,tv,tw,tz,t3,t8,t9,sf,true_and,beq_self_eq_true,Bool.false_eq_true,c0,c1,Int.cast_ofNat_Int,Int.reduceEq,Int.reduceLT,Int.reduceLE,Int.reduceAdd,Int.reduceSub,↓reduceIte]
      exact ⟨by decide, q⟩

theorem b_faultX (ds : List D) (M : Mu) (Q : D → Mu → Prop) (xw : XW) (h : S_faultX ds M Q xw) : zh N_fault (f_fault S_is_ruleX) ds M Q xw := by
  obtain ⟨m, X, rfl, h | h, hm, q⟩ := h
  · subst h; exact b_faultYt m M Q xw hm q
  · subst h; exact b_faultYl m M Q xw hm q
end U

set_option Elab.async false
set_option linter.all false
set_option maxRecDepth 100000
set_option maxHeartbeats 1000000
set_option pp.deepTerms false
set_option pp.maxSteps 3000
/-! V97: the workbench: what its methods do. -/
namespace U
open PySem PySem.Spec PyProof.Rows L2
theorem kn_all {K : PySem.W.Frag} {mg : Str → Option Value} {y : Str} : ∀ {Cs : List Addr}, Cs ≠ [] → (∀ C ∈ Cs, Kn K mg C y true) → ∃ (cv : V) (cw : Value), RelV cv cw ∧ (∀ u, RelV cv u → u = cw) ∧ (mg y = some cw ∨ (mg y = none ∧ bootBuiltins y = some cw ∧ y ≠ "__name__")) ∧ ∀ C ∈ Cs, PySem.W.kitOne K (.ref C) cw = some true
  | [], h, _ => absurd rfl h
  | C0 :: Cs, _, h => by
    obtain ⟨cv, cw, r1, r2, r3, r4⟩ := h C0 List.mem_cons_self
    refine ⟨cv, cw, r1, r2, r3, fun C hC => ?_⟩
    obtain ⟨cv', cw', _, _, r3', r4'⟩ := h C hC
    have e : cw' = cw := by
      rcases r3 with a | ⟨a, b, _⟩ <;> rcases r3' with a' | ⟨a', b', _⟩
      · exact Option.some.inj (a'.symm.trans a)
      · rw [a] at a'; cases a'
      · rw [a'] at a; cases a
      · exact Option.some.inj (b'.symm.trans b)
    rw [← e]
    exact r4'
theorem bodyKN {N N' : List Str} (e : N = N') {f f' : FS} {S : FSpec} (h : ∀ ds M Q xw, S ds M Q xw → bodyK N' f ds M Q xw) (ef : f = f' := by rfl) : ∀ ds M Q xw, S ds M Q xw → bodyK N f' ds M Q xw := by
  subst e ef
  exact h
def N_Workbench____init__ : List Str := ["self", "machine", "goal"]
def f_Workbench____init__ (S_fault : FSpec) (c_NotFitting : Addr) (c_Workbench : Addr) : FS := fThen (fIfS (fB (fOp gIsNot (fCall S_fault (fCons (fNm 1) fNil)) (fC .non))) (fRaise c_NotFitting) fPass) (fThen (fSetF c_Workbench "_machine" (fNm 0) (fNm 1)) (fThen (fSetF c_Workbench "_goal" (fNm 0) (fOfL (fListL (fCons (fNm 2) fNil)))) (fThen (fSetF c_Workbench "_floor" (fNm 0) (fC .non)) (fThen (fSetF c_Workbench "_made" (fNm 0) (fC (.int 0))) (fThen (fOwnF c_Workbench "_behind" (fNm 0) (fLstL fNil)) (fOwnF c_Workbench "_ahead" (fNm 0) (fLstL fNil)))))))
def N_Workbench__machine : List Str := ["self"]
def f_Workbench__machine (c_Workbench : Addr) : FS := fRet (fFld c_Workbench "_machine" (fNm 0))
def N_Workbench___set : List Str := ["self", "machine"]
def f_Workbench___set (c_Workbench : Addr) : FS := fThen (fIfS (fB (fOp gNe (fNm 1) (fFld c_Workbench "_machine" (fNm 0)))) (fSetF c_Workbench "_floor" (fNm 0) (fC .non)) fPass) (fSetF c_Workbench "_machine" (fNm 0) (fNm 1))
def N_Workbench___change : List Str := ["self", "rules", "machine"]
def f_Workbench___change (S_fault : FSpec) (S_Workbench___set : FSpec) (c_Workbench : Addr) (c_NotFitting : Addr) : FS := fThen (fSet 2 (fOp gAdd (fSl' (fFld c_Workbench "_machine" (fNm 0)) fNo (fSome (fC (.int 4)))) (fTup (fCons (fNm 1) fNil)))) (fThen (fIfS (fB (fOp gIsNot (fCall S_fault (fCons (fNm 2) fNil)) (fC .non))) (fRaise c_NotFitting) fPass) (fThen (fExpr (fAppend (fFld c_Workbench "_behind" (fNm 0)) (fCons (fFld c_Workbench "_machine" (fNm 0)) fNil))) (fThen (fOwnF c_Workbench "_ahead" (fNm 0) (fLstL fNil)) (fExpr (fMeth c_Workbench "_set" S_Workbench___set (fNm 0) (fCons (fNm 2) fNil))))))
def N_Workbench__add_rule : List Str := ["self", "rule"]
def f_Workbench__add_rule (S_Workbench___change : FSpec) (c_NotFitting : Addr) (c_Workbench : Addr) : FS := fExpr (fMeth c_Workbench "_change" S_Workbench___change (fNm 0) (fCons (fOp gAdd (fOp gIx (fFld c_Workbench "_machine" (fNm 0)) (fC (.int 4))) (fTup (fCons (fNm 1) fNil))) fNil))
def N_Workbench__drop_rule : List Str := ["self", "number", "rules"]
def f_Workbench__drop_rule (S_Workbench___change : FSpec) (c_Workbench : Addr) (c_UnknownRule : Addr) (c_NotFitting : Addr) : FS := fThen (fSet 2 (fOp gIx (fFld c_Workbench "_machine" (fNm 0)) (fC (.int 4)))) (fThen (fIfS (fNot (fB (fChain gLe gLt (fC (.int 0)) (fNm 1) (fCB gLen (fCons (fNm 2) fNil))))) (fRaise c_UnknownRule) fPass) (fExpr (fMeth c_Workbench "_change" S_Workbench___change (fNm 0) (fCons (fOp gAdd (fSl' (fNm 2) fNo (fSome (fNm 1))) (fSl' (fNm 2) (fSome (fOp gAdd (fNm 1) (fC (.int 1)))) fNo)) fNil))))
def N_Workbench__undo : List Str := ["self"]
def f_Workbench__undo (S_Workbench___set : FSpec) (c_Workbench : Addr) : FS := fThen (fIfS (fNot (fTr (fFld c_Workbench "_behind" (fNm 0)))) (fRet (fC (.bl false))) fPass) (fThen (fExpr (fAppend (fFld c_Workbench "_ahead" (fNm 0)) (fCons (fFld c_Workbench "_machine" (fNm 0)) fNil))) (fThen (fExpr (fMeth c_Workbench "_set" S_Workbench___set (fNm 0) (fCons (fPop (fFld c_Workbench "_behind" (fNm 0))) fNil))) (fRet (fC (.bl true)))))
def N_Workbench__redo : List Str := ["self"]
def f_Workbench__redo (S_Workbench___set : FSpec) (c_Workbench : Addr) : FS := fThen (fIfS (fNot (fTr (fFld c_Workbench "_ahead" (fNm 0)))) (fRet (fC (.bl false))) fPass) (fThen (fExpr (fAppend (fFld c_Workbench "_behind" (fNm 0)) (fCons (fFld c_Workbench "_machine" (fNm 0)) fNil))) (fThen (fExpr (fMeth c_Workbench "_set" S_Workbench___set (fNm 0) (fCons (fPop (fFld c_Workbench "_ahead" (fNm 0))) fNil))) (fRet (fC (.bl true)))))
/-! ### the words at work -/
section
variable {C : Addr} {f m : Str} {fo fe : FE} {fa : FA} {fl : FL} {xw : XW} {ρ : Env'} {M : Mu} {Q : D → Mu → Prop} {E : FEnds} {S : FSpec}
theorem eFld : fFld C f fo xw ρ M Q = fo xw ρ M fun d M1 => match d with
  | .loc a => (match M1 a with
    | some (.ins C' fs) => C' = C ∧ (match fs.lookup f with
      | some v => Q v M1
      | none => False)
    | _ => False)
  | _ => False := rfl
theorem eSetF : fSetF C f fo fe E ρ M = fe (xwAt E ρ) ρ M fun d M1 => fo (xwAt E ρ) ρ M1 fun o M2 => match o with
  | .loc a => (match M2 a with
    | some (.ins C' fs) => C' = C ∧ fs.length < 1000 ∧ E.nx ρ (mset M2 a (.ins C (putD f d fs)))
    | _ => False)
  | _ => False := rfl
theorem eOwnF : fOwnF C f fo fl E ρ M = fl (xwAt E ρ) ρ M fun ds M1 => ∀ p, M p = none → M1 p = none → fo (xwAt E ρ) ρ (mset M1 p (.lst ds)) fun o M2 => match o with
  | .loc a => (match M2 a with
    | some (.ins C' fs) => C' = C ∧ fs.length < 1000 ∧ E.nx ρ (mset M2 a (.ins C (putD f (.loc p) fs)))
    | _ => False)
  | _ => False := rfl
theorem eMeth : fMeth C m S fo fa xw ρ M Q = fo xw ρ M fun o M1 => match o with
  | .loc a => (match M1 a with
    | some (.ins C' fs) => C' = C ∧ fs.lookup m = none ∧ fa xw ρ M1 fun ds M2 => CallS S (.loc a :: ds) M2 xw (.mk : Ky Q)
    | _ => False)
  | _ => False := rfl
theorem eMake : fMake C S fa xw ρ M Q = fa xw ρ M fun ds M1 => ∀ x, M1 x = none → CallS S (.loc x :: ds) (mset M1 x (.ins C [])) xw (.mk : Ky fun d M2 => d = .non ∧ Q (.loc x) M2) := rfl
theorem eRaise : fRaise C E ρ M = E.xw ⟨C, []⟩ ρ M := rfl
theorem eTry2 {C1 C2 : Addr} {g1 g2 : Int → Bool} {j : Nat} {fb : FS} : fTry2 C1 C2 g1 g2 j fb E ρ M = fb { E with xw := fun xd ρ' M' => ∃ n : Int, ρ'[j]? = some (some (.int n)) ∧ ((xd = ⟨C1, []⟩ ∧ E.rt (.bl (g1 n)) M') ∨ (xd = ⟨C2, []⟩ ∧ E.rt (.bl (g2 n)) M')) } ρ M := rfl
theorem eExcs {i : Nat} : fExcs i E ρ M = (i < ρ.length ∧ ∀ p, E.nx (ρ.set i (some (.loc p))) M) := rfl
end
/-! ### the fields -/
def fldB (m g : D) (pb pa : Addr) : List (Str × D) := [("_machine", m), ("_goal", g), ("_floor", .non), ("_made", .int 0), ("_behind", .loc pb), ("_ahead", .loc pa)]
section
variable {m g d : D} {pb pa p : Addr}
theorem lkM : (fldB m g pb pa).lookup ("_machine" : Str) = some m := by rfl
theorem lkB : (fldB m g pb pa).lookup ("_behind" : Str) = some (.loc pb) := by rfl
theorem lkA : (fldB m g pb pa).lookup ("_ahead" : Str) = some (.loc pa) := by rfl
theorem lkN {f : Str} (h : (["_machine", "_goal", "_floor", "_made", "_behind", "_ahead"] : List Str).all (fun x => !(f == x)) = true) : (fldB m g pb pa).lookup f = none := by
  simp only [List.all_cons, List.all_nil, Bool.and_eq_true, Bool.not_eq_true'] at h
  obtain ⟨h1, h2, h3, h4, h5, h6, _⟩ := h
  unfold fldB
  simp only [List.lookup_cons, h1, h2, h3, h4, h5, h6, List.lookup_nil]
theorem lkSet : (fldB m g pb pa).lookup ("_set" : Str) = none := lkN (by decide)
theorem lkChg : (fldB m g pb pa).lookup ("_change" : Str) = none := lkN (by decide)
theorem lkMch : (fldB m g pb pa).lookup ("machine" : Str) = none := lkN (by decide)
theorem lkAdd : (fldB m g pb pa).lookup ("add_rule" : Str) = none := lkN (by decide)
theorem lkDrp : (fldB m g pb pa).lookup ("drop_rule" : Str) = none := lkN (by decide)
theorem lkUnd : (fldB m g pb pa).lookup ("undo" : Str) = none := lkN (by decide)
theorem lkRed : (fldB m g pb pa).lookup ("redo" : Str) = none := lkN (by decide)
theorem lnB : (fldB m g pb pa).length = 6 := rfl
theorem putM : putD "_machine" d (fldB m g pb pa) = fldB d g pb pa := by rfl
theorem putFl : putD "_floor" .non (fldB m g pb pa) = fldB m g pb pa := by rfl
theorem putA : putD "_ahead" (.loc p) (fldB m g pb pa) = fldB m g pb p := by rfl
end
theorem dle_rm {m : RM} (h : m.ok) : dle 60 (rmD m) = true := by
  have hr : (m.r.map rrD).all (dle 58) = true := by
    rw [List.all_map, List.all_eq_true]
    intro r hr
    have ho : ∀ x ∈ r.c, okNm x := h r hr
    have e1 : (r.c.map actD).all (dle 56) = true := by
      rw [List.all_map, List.all_eq_true]
      intro x hx
      have hn := ho x hx
      cases x with
      | none => rfl
      | some x =>
        show (dle 55 (.str x.1) && (dle 55 (.int x.2) && true)) = true
        rw [uw, dle_str' hn]; rfl
    have e3 : ∀ (n : Nat) (w : List Int), (w.map D.int).all (dle n) = true := fun n w => by
      rw [List.all_map, List.all_eq_true]; exact fun _ _ => uw
    have e2 : (r.p.map wD).all (dle 56) = true := by
      rw [List.all_map, List.all_eq_true]
      intro x _
      show (x.map D.int).all (dle 55) = true
      exact e3 55 x
    show (dle 57 (.int r.a) && ((r.n.map D.int).all (dle 56) && ((r.p.map wD).all (dle 56) && ((r.g.map D.int).all (dle 56) && ((r.c.map actD).all (dle 56) && (dle 57 (.int r.z) && true)))))) = true
    rw [uw, uw, e1, e2, e3, e3]; rfl
  show (dle 59 (.int m.m) && (dle 59 (.int m.c) && (dle 59 (.int m.q) && (dle 59 (.int m.l) && ((m.r.map rrD).all (dle 58) && true))))) = true
  rw [uw, uw, uw, uw, hr]; rfl
/-! ### what the methods promise -/
abbrev Bch (cW : Addr) (M : Mu) (b pb pa : Addr) (m : D) : Prop := M b = some (.ins cW (fldB m (.lst []) pb pa))
def S_Workbench__machine (cW : Addr) : FSpec := fun ds M Q _ => ∃ (b pb pa : Addr) (m : D), ds = [.loc b] ∧ Bch cW M b pb pa m ∧ Q m M
def S_Workbench___set (cW : Addr) : FSpec := fun ds M Q _ => ∃ (b pb pa : Addr) (m0 m1 : RM), ds = [.loc b, rmD m1] ∧ Bch cW M b pb pa (rmD m0) ∧ m0.ok ∧ m1.ok ∧ Q .non (mset M b (.ins cW (fldB (rmD m1) (.lst []) pb pa)))
theorem b_set {cW : Addr} (ds : List D) (M : Mu) (Q : D → Mu → Prop) (xw : XW) (h : S_Workbench___set cW ds M Q xw) : bodyK N_Workbench___set (f_Workbench___set cW) ds M Q xw := by
  obtain ⟨b, pb, pa, m0, m1, rfl, hb, h0, h1, q⟩ := h
  have d0 := dle_rm h0
  have d1 := dle_rm h1
  unfold Bch at hb
  unfold bodyK
  simp only [zh, bodyL, zi, N_Workbench___set, List.map_cons, List.map_nil, List.length_cons, List.length_nil, List.replicate_succ, List.replicate_zero, List.cons_append, List.nil_append, Nat.reduceAdd, Nat.reduceSub]
  unfold f_Workbench___set
  generalize hm0 : rmD m0 = D0 at *
  generalize hm1 : rmD m1 = D1 at *
  have r0 : rsv M D0 = D0 := by rw [← hm0]; rfl
  have r1 : rsv M D1 = D1 := by rw [← hm1]; rfl
  try simp -dsimp only [↓za,↓zb,↓zc,↓zd,↓ze,↓zf,↓zg,zh,zi,List.map_cons,List.map_nil,List.length_cons,List.length_nil,List.replicate_succ,List.replicate_zero,List.cons_append,List.nil_append,Nat.reduceAdd,Nat.reduceSub,List.set_cons_zero,List.set_cons_succ,List.getElem?_cons_zero,List.getElem?_cons_succ,Bool.not_true,Bool.not_false,decide_true,decide_false,↓zj,↓zk,↓zl,↓zm,↓zn,↓zo,↓zp,↓zq,↓zr,↓zt,↓zu,↓zv,zj,zk,zl,zm,zn,zo,zp,zq,zr,zt,zu,zv,↓zw,↓zx,↓zy,↓zz,↓z9,↓ya,↓yb,↓yc,↓yd,↓ye,↓yf,↓yg,↓yh,↓yi,↓yj,↓yk,↓yl,↓ym,↓yn,↓yo,↓yp,↓eC,↓yq,↓eB,↓yr,↓yt,↓yu,↓yw,↓yx,↓yy,↓yz,↓y5,↓y6,↓y8,↓y9,↓xa,↓xb,↓xc,↓xg,↓xh,↓xi,↓xj,↓xk,↓xl,↓xm,↓xn,↓xo,↓xp,↓xq,↓xr,↓xt,↓xu,↓xy,↓xz,↓x5,↓x6,↓x7,↓x8,↓x9,↓wa,↓wb,↓wc,↓wd,↓we,↓wf,↓wg,↓wh,↓wj,↓wl,↓wm,↓wn,↓wo,↓wp,↓wq,↓wt,↓wu,wv,ww,wx,wy,wz,w3,w4,↓x9,↓wa,↓w6,↓x8,↓w7,↓w8,↓w9,va,vb,↓vc,↓vd,↓vf,↓vg,↓vh,↓vi,↓vj,↓vk,↓vm,↓vn,↓vo,↓vp,↓vq,↓vt,↓vv,↓vw,↓vx,↓vy,↓vz,↓v0,↓v3,↓v4,↓v5,↓v7,↓v8,↓v9,↓ua,↓ub,↓uc,↓ud,↓ue,↓uf,↓ug,↓uh,ui,uj,uk,ul,um,uo,uq,ur,ut,uu,uv,uw,ux,uy,uz,u2,u3,u5,u6,u7,u8,Option.bind_some,u9,tj,tm,tq,tv,tw,tz,t3,t8,t9,sf,true_and,beq_self_eq_true,Bool.false_eq_true,c0,c1,Int.cast_ofNat_Int,Int.reduceEq,Int.reduceLT,Int.reduceLE,Int.reduceAdd,Int.reduceSub,↓reduceIte, eFld, hb, lkM, eq_self, r0, r1]
  refine ⟨d1, d0, ?_⟩
  cases e : eqD D1 D0 with
  | true =>
    try simp -dsimp only [↓za,↓zb,↓zc,↓zd,↓ze,↓zf,↓zg,zh,zi,List.map_cons,List.map_nil,List.length_cons,List.length_nil,List.replicate_succ,List.replicate_zero,List.cons_append,List.nil_append,Nat.reduceAdd,Nat.reduceSub,List.set_cons_zero,List.set_cons_succ,List.getElem?_cons_zero,List.getElem?_cons_succ,Bool.not_true,Bool.not_false,decide_true,decide_false,↓zj,↓zk,↓zl,↓zm,↓zn,↓zo,↓zp,↓zq,↓zr,↓zt,↓zu,↓zv,zj,zk,zl,zm,zn,zo,zp,zq,zr,zt,zu,zv,↓zw,↓zx,↓zy,↓zz,↓z9,↓ya,↓yb,↓yc,↓yd,↓ye,↓yf,↓yg,↓yh,↓yi,↓yj,↓yk,↓yl,↓ym,↓yn,↓yo,↓yp,↓eC,↓yq,↓eB,↓yr,↓yt,↓yu,↓yw,↓yx,↓yy,↓yz,↓y5,↓y6,↓y8,↓y9,↓xa,↓xb,↓xc,↓xg,↓xh,↓xi,↓xj,↓xk,↓xl,↓xm,↓xn,↓xo,↓xp,↓xq,↓xr,↓xt,↓xu,↓xy,↓xz,↓x5,↓x6,↓x7,↓x8,↓x9,↓wa,↓wb,↓wc,↓wd,↓we,↓wf,↓wg,↓wh,↓wj,↓wl,↓wm,↓wn,↓wo,↓wp,↓wq,↓wt,↓wu,wv,ww,wx,wy,wz,w3,w4,↓x9,↓wa,↓w6,↓x8,↓w7,↓w8,↓w9,va,vb,↓vc,↓vd,↓vf,↓vg,↓vh,↓vi,↓vj,↓vk,↓vm,↓vn,↓vo,↓vp,↓vq,↓vt,↓vv,↓vw,↓vx,↓vy,↓vz,↓v0,↓v3,↓v4,↓v5,↓v7,↓v8,↓v9,↓ua,↓ub,↓uc,↓ud,↓ue,↓uf,↓ug,↓uh,ui,uj,uk,ul,um,uo,uq,ur,ut,uu,uv,uw,ux,uy,uz,u2,u3,u5,u6,u7,u8,Option.bind_some,u9,tj,tm,tq,tv,tw,tz,t3,t8,t9,sf,true_and,beq_self_eq_true,Bool.false_eq_true,c0,c1,Int.cast_ofNat_Int,Int.reduceEq,Int.reduceLT,Int.reduceLE,Int.reduceAdd,Int.reduceSub,↓reduceIte, eSetF, hb, eq_self, lnB, putM]
    exact ⟨by decide, q⟩
  | false =>
    try simp -dsimp only [↓za,↓zb,↓zc,↓zd,↓ze,↓zf,↓zg,zh,zi,List.map_cons,List.map_nil,List.length_cons,List.length_nil,List.replicate_succ,List.replicate_zero,List.cons_append,List.nil_append,Nat.reduceAdd,Nat.reduceSub,List.set_cons_zero,List.set_cons_succ,List.getElem?_cons_zero,List.getElem?_cons_succ,Bool.not_true,Bool.not_false,decide_true,decide_false,↓zj,↓zk,↓zl,↓zm,↓zn,↓zo,↓zp,↓zq,↓zr,↓zt,↓zu,↓zv,zj,zk,zl,zm,zn,zo,zp,zq,zr,zt,zu,zv,↓zw,↓zx,↓zy,↓zz,↓z9,↓ya,↓yb,↓yc,↓yd,↓ye,↓yf,↓yg,↓yh,↓yi,↓yj,↓yk,↓yl,↓ym,↓yn,↓yo,↓yp,↓eC,↓yq,↓eB,↓yr,↓yt,↓yu,↓yw,↓yx,↓yy,↓yz,↓y5,↓y6,↓y8,↓y9,↓xa,↓xb,↓xc,↓xg,↓xh,↓xi,↓xj,↓xk,↓xl,↓xm,↓xn,↓xo,↓xp,↓xq,↓xr,↓xt,↓xu,↓xy,↓xz,↓x5,↓x6,↓x7,↓x8,↓x9,↓wa,↓wb,↓wc,↓wd,↓we,↓wf,↓wg,↓wh,↓wj,↓wl,↓wm,↓wn,↓wo,↓wp,↓wq,↓wt,↓wu,wv,ww,wx,wy,wz,w3,w4,↓x9,↓wa,↓w6,↓x8,↓w7,↓w8,↓w9,va,vb,↓vc,↓vd,↓vf,↓vg,↓vh,↓vi,↓vj,↓vk,↓vm,↓vn,↓vo,↓vp,↓vq,↓vt,↓vv,↓vw,↓vx,↓vy,↓vz,↓v0,↓v3,↓v4,↓v5,↓v7,↓v8,↓v9,↓ua,↓ub,↓uc,↓ud,↓ue,↓uf,↓ug,↓uh,ui,uj,uk,ul,um,uo,uq,ur,ut,uu,uv,uw,ux,uy,uz,u2,u3,u5,u6,u7,u8,Option.bind_some,u9,tj,tm,tq,tv,tw,tz,t3,t8,t9,sf,true_and,beq_self_eq_true,Bool.false_eq_true,c0,c1,Int.cast_ofNat_Int,Int.reduceEq,Int.reduceLT,Int.reduceLE,Int.reduceAdd,Int.reduceSub,↓reduceIte, eSetF, hb, eq_self, lnB, putFl, putM]
    refine ⟨by decide, by decide, ?_⟩
    rw [mset_mset]
    exact q

theorem b_mach {cW : Addr} (ds : List D) (M : Mu) (Q : D → Mu → Prop) (xw : XW) (h : S_Workbench__machine cW ds M Q xw) : bodyK N_Workbench__machine (f_Workbench__machine cW) ds M Q xw := by
  obtain ⟨b, pb, pa, m, rfl, hb, q⟩ := h
  unfold Bch at hb
  unfold bodyK
  simp only [zh, bodyL, zi, N_Workbench__machine, List.map_cons, List.map_nil, List.length_cons, List.length_nil, List.replicate_succ, List.replicate_zero, List.cons_append, List.nil_append, Nat.reduceAdd, Nat.reduceSub]
  unfold f_Workbench__machine
  try simp -dsimp only [↓za,↓zb,↓zc,↓zd,↓ze,↓zf,↓zg,zh,zi,List.map_cons,List.map_nil,List.length_cons,List.length_nil,List.replicate_succ,List.replicate_zero,List.cons_append,List.nil_append,Nat.reduceAdd,Nat.reduceSub,List.set_cons_zero,List.set_cons_succ,List.getElem?_cons_zero,List.getElem?_cons_succ,Bool.not_true,Bool.not_false,decide_true,decide_false,↓zj,↓zk,↓zl,↓zm,↓zn,↓zo,↓zp,↓zq,↓zr,↓zt,↓zu,↓zv,zj,zk,zl,zm,zn,zo,zp,zq,zr,zt,zu,zv,↓zw,↓zx,↓zy,↓zz,↓z9,↓ya,↓yb,↓yc,↓yd,↓ye,↓yf,↓yg,↓yh,↓yi,↓yj,↓yk,↓yl,↓ym,↓yn,↓yo,↓yp,↓eC,↓yq,↓eB,↓yr,↓yt,↓yu,↓yw,↓yx,↓yy,↓yz,↓y5,↓y6,↓y8,↓y9,↓xa,↓xb,↓xc,↓xg,↓xh,↓xi,↓xj,↓xk,↓xl,↓xm,↓xn,↓xo,↓xp,↓xq,↓xr,↓xt,↓xu,↓xy,↓xz,↓x5,↓x6,↓x7,↓x8,↓x9,↓wa,↓wb,↓wc,↓wd,↓we,↓wf,↓wg,↓wh,↓wj,↓wl,↓wm,↓wn,↓wo,↓wp,↓wq,↓wt,↓wu,wv,ww,wx,wy,wz,w3,w4,↓x9,↓wa,↓w6,↓x8,↓w7,↓w8,↓w9,va,vb,↓vc,↓vd,↓vf,↓vg,↓vh,↓vi,↓vj,↓vk,↓vm,↓vn,↓vo,↓vp,↓vq,↓vt,↓vv,↓vw,↓vx,↓vy,↓vz,↓v0,↓v3,↓v4,↓v5,↓v7,↓v8,↓v9,↓ua,↓ub,↓uc,↓ud,↓ue,↓uf,↓ug,↓uh,ui,uj,uk,ul,um,uo,uq,ur,ut,uu,uv,uw,ux,uy,uz,u2,u3,u5,u6,u7,u8,Option.bind_some,u9,tj,tm,tq,tv,tw,tz,t3,t8,t9,sf,true_and,beq_self_eq_true,Bool.false_eq_true,c0,c1,Int.cast_ofNat_Int,Int.reduceEq,Int.reduceLT,Int.reduceLE,Int.reduceAdd,Int.reduceSub,↓reduceIte, eFld, hb, lkM, eq_self]
  exact q
def S_Workbench____init__ (cF cW : Addr) : FSpec := fun ds M Q xw => ∃ (x : Addr) (m : RM) (X : D), ds = [.loc x, .tup [.int m.m, .int m.c, .int m.q, .int m.l, X], .lst []] ∧ (X = .tup (m.r.map rrD) ∨ X = .lst (m.r.map rrD)) ∧ M x = some (.ins cW []) ∧ m.ok ∧
  ((faultD m ≠ .non ∧ xw ⟨cF, []⟩ M) ∨ (X = .tup (m.r.map rrD) ∧ faultD m = .non ∧ ∀ p q, M p = none → M q = none → q ≠ p → Q .non (mset (mset (mset M p (.lst [])) q (.lst [])) x (.ins cW (fldB (rmD m) (.lst []) p q)))))
theorem pI1 {d : D} : putD "_machine" d [] = [(("_machine" : Str), d)] := rfl
theorem pI2 {d m : D} : putD "_goal" d [(("_machine" : Str), m)] = [(("_machine" : Str), m), (("_goal" : Str), d)] := rfl
theorem pI3 {d m g : D} : putD "_floor" d [(("_machine" : Str), m), (("_goal" : Str), g)] = [(("_machine" : Str), m), (("_goal" : Str), g), (("_floor" : Str), d)] := rfl
theorem pI4 {d m g f : D} : putD "_made" d [(("_machine" : Str), m), (("_goal" : Str), g), (("_floor" : Str), f)] = [(("_machine" : Str), m), (("_goal" : Str), g), (("_floor" : Str), f), (("_made" : Str), d)] := rfl
theorem pI5 {d m g f k : D} : putD "_behind" d [(("_machine" : Str), m), (("_goal" : Str), g), (("_floor" : Str), f), (("_made" : Str), k)] = [(("_machine" : Str), m), (("_goal" : Str), g), (("_floor" : Str), f), (("_made" : Str), k), (("_behind" : Str), d)] := rfl
theorem pI6 {m g : D} {p q : Addr} : putD "_ahead" (.loc q) [(("_machine" : Str), m), (("_goal" : Str), g), (("_floor" : Str), .non), (("_made" : Str), .int 0), (("_behind" : Str), .loc p)] = fldB m g p q := rfl
theorem b_init {cF cW : Addr} (ds : List D) (M : Mu) (Q : D → Mu → Prop) (xw : XW) (h : S_Workbench____init__ cF cW ds M Q xw) : bodyK N_Workbench____init__ (f_Workbench____init__ S_faultX cF cW) ds M Q xw := by
  obtain ⟨x, m, X, rfl, hX, hx, hm, q⟩ := h
  unfold bodyK
  simp only [zh, bodyL, zi, N_Workbench____init__, List.map_cons, List.map_nil, List.length_cons, List.length_nil, List.replicate_succ, List.replicate_zero, List.cons_append, List.nil_append, Nat.reduceAdd, Nat.reduceSub]
  unfold f_Workbench____init__
  try simp -dsimp only [↓za,↓zb,↓zc,↓zd,↓ze,↓zf,↓zg,zh,zi,List.map_cons,List.map_nil,List.length_cons,List.length_nil,List.replicate_succ,List.replicate_zero,List.cons_append,List.nil_append,Nat.reduceAdd,Nat.reduceSub,List.set_cons_zero,List.set_cons_succ,List.getElem?_cons_zero,List.getElem?_cons_succ,Bool.not_true,Bool.not_false,decide_true,decide_false,↓zj,↓zk,↓zl,↓zm,↓zn,↓zo,↓zp,↓zq,↓zr,↓zt,↓zu,↓zv,zj,zk,zl,zm,zn,zo,zp,zq,zr,zt,zu,zv,↓zw,↓zx,↓zy,↓zz,↓z9,↓ya,↓yb,↓yc,↓yd,↓ye,↓yf,↓yg,↓yh,↓yi,↓yj,↓yk,↓yl,↓ym,↓yn,↓yo,↓yp,↓eC,↓yq,↓eB,↓yr,↓yt,↓yu,↓yw,↓yx,↓yy,↓yz,↓y5,↓y6,↓y8,↓y9,↓xa,↓xb,↓xc,↓xg,↓xh,↓xi,↓xj,↓xk,↓xl,↓xm,↓xn,↓xo,↓xp,↓xq,↓xr,↓xt,↓xu,↓xy,↓xz,↓x5,↓x6,↓x7,↓x8,↓x9,↓wa,↓wb,↓wc,↓wd,↓we,↓wf,↓wg,↓wh,↓wj,↓wl,↓wm,↓wn,↓wo,↓wp,↓wq,↓wt,↓wu,wv,ww,wx,wy,wz,w3,w4,↓x9,↓wa,↓w6,↓x8,↓w7,↓w8,↓w9,va,vb,↓vc,↓vd,↓vf,↓vg,↓vh,↓vi,↓vj,↓vk,↓vm,↓vn,↓vo,↓vp,↓vq,↓vt,↓vv,↓vw,↓vx,↓vy,↓vz,↓v0,↓v3,↓v4,↓v5,↓v7,↓v8,↓v9,↓ua,↓ub,↓uc,↓ud,↓ue,↓uf,↓ug,↓uh,ui,uj,uk,ul,um,uo,uq,ur,ut,uu,uv,uw,ux,uy,uz,u2,u3,u5,u6,u7,u8,Option.bind_some,u9,tj,tm,tq,tv,tw,tz,t3,t8,t9,sf,true_and,beq_self_eq_true,Bool.false_eq_true,c0,c1,Int.cast_ofNat_Int,Int.reduceEq,Int.reduceLT,Int.reduceLE,Int.reduceAdd,Int.reduceSub,↓reduceIte]
  refine ⟨m, X, rfl, hX, hm, ?_⟩
  rcases q with ⟨e, q⟩ | ⟨eX, e, q⟩
  · generalize faultD m = F at *
    cases F <;> first
      | exact absurd rfl e
      | (try simp -dsimp only [↓za,↓zb,↓zc,↓zd,↓ze,↓zf,↓zg,zh,zi,List.map_cons,List.map_nil,List.length_cons,List.length_nil,List.replicate_succ,List.replicate_zero,List.cons_append,List.nil_append,Nat.reduceAdd,Nat.reduceSub,List.set_cons_zero,List.set_cons_succ,List.getElem?_cons_zero,List.getElem?_cons_succ,Bool.not_true,Bool.not_false,decide_true,decide_false,↓zj,↓zk,↓zl,↓zm,↓zn,↓zo,↓zp,↓zq,↓zr,↓zt,↓zu,↓zv,zj,zk,zl,zm,zn,zo,zp,zq,zr,zt,zu,zv,↓zw,↓zx,↓zy,↓zz,↓z9,↓ya,↓yb,↓yc,↓yd,↓ye,↓yf,↓yg,↓yh,↓yi,↓yj,↓yk,↓yl,↓ym,↓yn,↓yo,↓yp,↓eC,↓yq,↓eB,↓yr,↓yt,↓yu,↓yw,↓yx,↓yy,↓yz,↓y5,↓y6,↓y8,↓y9,↓xa,↓xb,↓xc,↓xg,↓xh,↓xi,↓xj,↓xk,↓xl,↓xm,↓xn,↓xo,↓xp,↓xq,↓xr,↓xt,↓xu,↓xy,↓xz,↓x5,↓x6,↓x7,↓x8,↓x9,↓wa,↓wb,↓wc,↓wd,↓we,↓wf,↓wg,↓wh,↓wj,↓wl,↓wm,↓wn,↓wo,↓wp,↓wq,↓wt,↓wu,wv,ww,wx,wy,wz,w3,w4,↓x9,↓wa,↓w6,↓x8,↓w7,↓w8,↓w9,va,vb,↓vc,↓vd,↓vf,↓vg,↓vh,↓vi,↓vj,↓vk,↓vm,↓vn,↓vo,↓vp,↓vq,↓vt,↓vv,↓vw,↓vx,↓vy,↓vz,↓v0,↓v3,↓v4,↓v5,↓v7,↓v8,↓v9,↓ua,↓ub,↓uc,↓ud,↓ue,↓uf,↓ug,↓uh,ui,uj,uk,ul,um,uo,uq,ur,ut,uu,uv,uw,ux,uy,uz,u2,u3,u5,u6,u7,u8,Option.bind_some,u9,tj,tm,tq,tv,tw,tz,t3,t8,t9,sf,true_and,beq_self_eq_true,Bool.false_eq_true,c0,c1,Int.cast_ofNat_Int,Int.reduceEq,Int.reduceLT,Int.reduceLE,Int.reduceAdd,Int.reduceSub,↓reduceIte, eRaise]
         exact q)
  · subst eX
    have hD : rmD m = .tup [.int m.m, .int m.c, .int m.q, .int m.l, .tup (m.r.map rrD)] := rfl
    rw [← hD]
    generalize hD : rmD m = D0 at *
    try simp -dsimp only [↓za,↓zb,↓zc,↓zd,↓ze,↓zf,↓zg,zh,zi,List.map_cons,List.map_nil,List.length_cons,List.length_nil,List.replicate_succ,List.replicate_zero,List.cons_append,List.nil_append,Nat.reduceAdd,Nat.reduceSub,List.set_cons_zero,List.set_cons_succ,List.getElem?_cons_zero,List.getElem?_cons_succ,Bool.not_true,Bool.not_false,decide_true,decide_false,↓zj,↓zk,↓zl,↓zm,↓zn,↓zo,↓zp,↓zq,↓zr,↓zt,↓zu,↓zv,zj,zk,zl,zm,zn,zo,zp,zq,zr,zt,zu,zv,↓zw,↓zx,↓zy,↓zz,↓z9,↓ya,↓yb,↓yc,↓yd,↓ye,↓yf,↓yg,↓yh,↓yi,↓yj,↓yk,↓yl,↓ym,↓yn,↓yo,↓yp,↓eC,↓yq,↓eB,↓yr,↓yt,↓yu,↓yw,↓yx,↓yy,↓yz,↓y5,↓y6,↓y8,↓y9,↓xa,↓xb,↓xc,↓xg,↓xh,↓xi,↓xj,↓xk,↓xl,↓xm,↓xn,↓xo,↓xp,↓xq,↓xr,↓xt,↓xu,↓xy,↓xz,↓x5,↓x6,↓x7,↓x8,↓x9,↓wa,↓wb,↓wc,↓wd,↓we,↓wf,↓wg,↓wh,↓wj,↓wl,↓wm,↓wn,↓wo,↓wp,↓wq,↓wt,↓wu,wv,ww,wx,wy,wz,w3,w4,↓x9,↓wa,↓w6,↓x8,↓w7,↓w8,↓w9,va,vb,↓vc,↓vd,↓vf,↓vg,↓vh,↓vi,↓vj,↓vk,↓vm,↓vn,↓vo,↓vp,↓vq,↓vt,↓vv,↓vw,↓vx,↓vy,↓vz,↓v0,↓v3,↓v4,↓v5,↓v7,↓v8,↓v9,↓ua,↓ub,↓uc,↓ud,↓ue,↓uf,↓ug,↓uh,ui,uj,uk,ul,um,uo,uq,ur,ut,uu,uv,uw,ux,uy,uz,u2,u3,u5,u6,u7,u8,Option.bind_some,u9,tj,tm,tq,tv,tw,tz,t3,t8,t9,sf,true_and,beq_self_eq_true,Bool.false_eq_true,c0,c1,Int.cast_ofNat_Int,Int.reduceEq,Int.reduceLT,Int.reduceLE,Int.reduceAdd,Int.reduceSub,↓reduceIte, e, eSetF, hx, eq_self, pI1, pI2, pI3, pI4]
    refine ⟨by decide, by decide, by decide, by decide, ?_⟩
    simp only [mset_mset]
    try simp -dsimp only [↓za,↓zb,↓zc,↓zd,↓ze,↓zf,↓zg,zh,zi,List.map_cons,List.map_nil,List.length_cons,List.length_nil,List.replicate_succ,List.replicate_zero,List.cons_append,List.nil_append,Nat.reduceAdd,Nat.reduceSub,List.set_cons_zero,List.set_cons_succ,List.getElem?_cons_zero,List.getElem?_cons_succ,Bool.not_true,Bool.not_false,decide_true,decide_false,↓zj,↓zk,↓zl,↓zm,↓zn,↓zo,↓zp,↓zq,↓zr,↓zt,↓zu,↓zv,zj,zk,zl,zm,zn,zo,zp,zq,zr,zt,zu,zv,↓zw,↓zx,↓zy,↓zz,↓z9,↓ya,↓yb,↓yc,↓yd,↓ye,↓yf,↓yg,↓yh,↓yi,↓yj,↓yk,↓yl,↓ym,↓yn,↓yo,↓yp,↓eC,↓yq,↓eB,↓yr,↓yt,↓yu,↓yw,↓yx,↓yy,↓yz,↓y5,↓y6,↓y8,↓y9,↓xa,↓xb,↓xc,↓xg,↓xh,↓xi,↓xj,↓xk,↓xl,↓xm,↓xn,↓xo,↓xp,↓xq,↓xr,↓xt,↓xu,↓xy,↓xz,↓x5,↓x6,↓x7,↓x8,↓x9,↓wa,↓wb,↓wc,↓wd,↓we,↓wf,↓wg,↓wh,↓wj,↓wl,↓wm,↓wn,↓wo,↓wp,↓wq,↓wt,↓wu,wv,ww,wx,wy,wz,w3,w4,↓x9,↓wa,↓w6,↓x8,↓w7,↓w8,↓w9,va,vb,↓vc,↓vd,↓vf,↓vg,↓vh,↓vi,↓vj,↓vk,↓vm,↓vn,↓vo,↓vp,↓vq,↓vt,↓vv,↓vw,↓vx,↓vy,↓vz,↓v0,↓v3,↓v4,↓v5,↓v7,↓v8,↓v9,↓ua,↓ub,↓uc,↓ud,↓ue,↓uf,↓ug,↓uh,ui,uj,uk,ul,um,uo,uq,ur,ut,uu,uv,uw,ux,uy,uz,u2,u3,u5,u6,u7,u8,Option.bind_some,u9,tj,tm,tq,tv,tw,tz,t3,t8,t9,sf,true_and,beq_self_eq_true,Bool.false_eq_true,c0,c1,Int.cast_ofNat_Int,Int.reduceEq,Int.reduceLT,Int.reduceLE,Int.reduceAdd,Int.reduceSub,↓reduceIte, eOwnF]
    refine ⟨by decide, fun p hp hp1 => ?_⟩
    have npx : p ≠ x := fun e => by rw [e, sf] at hp; cases hp
    have hp0 : M p = none := by rw [mset_ne npx] at hp; exact hp
    try simp -dsimp only [↓za,↓zb,↓zc,↓zd,↓ze,↓zf,↓zg,zh,zi,List.map_cons,List.map_nil,List.length_cons,List.length_nil,List.replicate_succ,List.replicate_zero,List.cons_append,List.nil_append,Nat.reduceAdd,Nat.reduceSub,List.set_cons_zero,List.set_cons_succ,List.getElem?_cons_zero,List.getElem?_cons_succ,Bool.not_true,Bool.not_false,decide_true,decide_false,↓zj,↓zk,↓zl,↓zm,↓zn,↓zo,↓zp,↓zq,↓zr,↓zt,↓zu,↓zv,zj,zk,zl,zm,zn,zo,zp,zq,zr,zt,zu,zv,↓zw,↓zx,↓zy,↓zz,↓z9,↓ya,↓yb,↓yc,↓yd,↓ye,↓yf,↓yg,↓yh,↓yi,↓yj,↓yk,↓yl,↓ym,↓yn,↓yo,↓yp,↓eC,↓yq,↓eB,↓yr,↓yt,↓yu,↓yw,↓yx,↓yy,↓yz,↓y5,↓y6,↓y8,↓y9,↓xa,↓xb,↓xc,↓xg,↓xh,↓xi,↓xj,↓xk,↓xl,↓xm,↓xn,↓xo,↓xp,↓xq,↓xr,↓xt,↓xu,↓xy,↓xz,↓x5,↓x6,↓x7,↓x8,↓x9,↓wa,↓wb,↓wc,↓wd,↓we,↓wf,↓wg,↓wh,↓wj,↓wl,↓wm,↓wn,↓wo,↓wp,↓wq,↓wt,↓wu,wv,ww,wx,wy,wz,w3,w4,↓x9,↓wa,↓w6,↓x8,↓w7,↓w8,↓w9,va,vb,↓vc,↓vd,↓vf,↓vg,↓vh,↓vi,↓vj,↓vk,↓vm,↓vn,↓vo,↓vp,↓vq,↓vt,↓vv,↓vw,↓vx,↓vy,↓vz,↓v0,↓v3,↓v4,↓v5,↓v7,↓v8,↓v9,↓ua,↓ub,↓uc,↓ud,↓ue,↓uf,↓ug,↓uh,ui,uj,uk,ul,um,uo,uq,ur,ut,uu,uv,uw,ux,uy,uz,u2,u3,u5,u6,u7,u8,Option.bind_some,u9,tj,tm,tq,tv,tw,tz,t3,t8,t9,sf,true_and,beq_self_eq_true,Bool.false_eq_true,c0,c1,Int.cast_ofNat_Int,Int.reduceEq,Int.reduceLT,Int.reduceLE,Int.reduceAdd,Int.reduceSub,↓reduceIte, mset_ne (Ne.symm npx), eq_self, pI5]
    refine ⟨by decide, by decide, fun q0 hq hq1 => ?_⟩
    have nqx : q0 ≠ x := fun e => by rw [e, sf] at hq; cases hq
    rw [mset_ne nqx] at hq
    have nqp : q0 ≠ p := fun e => by rw [e, sf] at hq; cases hq
    have hq0 : M q0 = none := by rw [mset_ne nqp, mset_ne nqx] at hq; exact hq
    try simp -dsimp only [↓za,↓zb,↓zc,↓zd,↓ze,↓zf,↓zg,zh,zi,List.map_cons,List.map_nil,List.length_cons,List.length_nil,List.replicate_succ,List.replicate_zero,List.cons_append,List.nil_append,Nat.reduceAdd,Nat.reduceSub,List.set_cons_zero,List.set_cons_succ,List.getElem?_cons_zero,List.getElem?_cons_succ,Bool.not_true,Bool.not_false,decide_true,decide_false,↓zj,↓zk,↓zl,↓zm,↓zn,↓zo,↓zp,↓zq,↓zr,↓zt,↓zu,↓zv,zj,zk,zl,zm,zn,zo,zp,zq,zr,zt,zu,zv,↓zw,↓zx,↓zy,↓zz,↓z9,↓ya,↓yb,↓yc,↓yd,↓ye,↓yf,↓yg,↓yh,↓yi,↓yj,↓yk,↓yl,↓ym,↓yn,↓yo,↓yp,↓eC,↓yq,↓eB,↓yr,↓yt,↓yu,↓yw,↓yx,↓yy,↓yz,↓y5,↓y6,↓y8,↓y9,↓xa,↓xb,↓xc,↓xg,↓xh,↓xi,↓xj,↓xk,↓xl,↓xm,↓xn,↓xo,↓xp,↓xq,↓xr,↓xt,↓xu,↓xy,↓xz,↓x5,↓x6,↓x7,↓x8,↓x9,↓wa,↓wb,↓wc,↓wd,↓we,↓wf,↓wg,↓wh,↓wj,↓wl,↓wm,↓wn,↓wo,↓wp,↓wq,↓wt,↓wu,wv,ww,wx,wy,wz,w3,w4,↓x9,↓wa,↓w6,↓x8,↓w7,↓w8,↓w9,va,vb,↓vc,↓vd,↓vf,↓vg,↓vh,↓vi,↓vj,↓vk,↓vm,↓vn,↓vo,↓vp,↓vq,↓vt,↓vv,↓vw,↓vx,↓vy,↓vz,↓v0,↓v3,↓v4,↓v5,↓v7,↓v8,↓v9,↓ua,↓ub,↓uc,↓ud,↓ue,↓uf,↓ug,↓uh,ui,uj,uk,ul,um,uo,uq,ur,ut,uu,uv,uw,ux,uy,uz,u2,u3,u5,u6,u7,u8,Option.bind_some,u9,tj,tm,tq,tv,tw,tz,t3,t8,t9,sf,true_and,beq_self_eq_true,Bool.false_eq_true,c0,c1,Int.cast_ofNat_Int,Int.reduceEq,Int.reduceLT,Int.reduceLE,Int.reduceAdd,Int.reduceSub,↓reduceIte, mset_ne (Ne.symm nqx), eq_self, pI6]
    refine ⟨by decide, ?_⟩
    have z := q p q0 hp0 hq0 nqp
    have em : ∀ a b c : MO, mset (mset (mset (mset (mset M x a) p (.lst [])) x b) q0 (.lst [])) x c = mset (mset (mset M p (.lst [])) q0 (.lst [])) x c := fun a b c => by
      funext y
      unfold mset
      by_cases h1 : y = x
      · simp only [h1, if_true]
      · simp only [h1, if_false]
    rw [em]
    exact z
def S_Workbench___change (cW cF : Addr) : FSpec := fun ds M Q xw => ∃ (b pb pa : Addr) (bh : List D) (m c k l : Int) (r rs : List RRule), ds = [.loc b, .tup (rs.map rrD)] ∧ Bch cW M b pb pa (rmD ⟨m, c, k, l, r⟩) ∧ M pb = some (.lst bh) ∧ bh.length < sizeLine ∧ RM.ok ⟨m, c, k, l, r⟩ ∧ RM.ok ⟨m, c, k, l, rs⟩ ∧
  ((faultD ⟨m, c, k, l, rs⟩ ≠ .non ∧ xw ⟨cF, []⟩ M) ∨ (faultD ⟨m, c, k, l, rs⟩ = .non ∧ ∀ p, M p = none → Q .non (mset (mset (mset M pb (.lst (bh ++ [rmD ⟨m, c, k, l, r⟩]))) p (.lst [])) b (.ins cW (fldB (rmD ⟨m, c, k, l, rs⟩) (.lst []) pb p)))))
theorem cut4 {a b c d e : D} : cutD [a, b, c, d, e] none (some 4) = [a, b, c, d] := rfl
theorem b_change {cW cF : Addr} (ds : List D) (M : Mu) (Q : D → Mu → Prop) (xw : XW) (h : S_Workbench___change cW cF ds M Q xw) : bodyK N_Workbench___change (f_Workbench___change S_faultX (S_Workbench___set cW) cW cF) ds M Q xw := by
  obtain ⟨b, pb, pa, bh, m, c, k, l, r, rs, rfl, hb, hp, hl, ok0, ok1, post⟩ := h
  unfold Bch at hb
  have nb : b ≠ pb := fun e => by rw [← e, hb] at hp; cases hp
  unfold bodyK
  simp only [zh, bodyL, zi, N_Workbench___change, List.map_cons, List.map_nil, List.length_cons, List.length_nil, List.replicate_succ, List.replicate_zero, List.cons_append, List.nil_append, Nat.reduceAdd, Nat.reduceSub]
  unfold f_Workbench___change
  rw [rm_mk] at hb
  try simp -dsimp only [↓za,↓zb,↓zc,↓zd,↓ze,↓zf,↓zg,zh,zi,List.map_cons,List.map_nil,List.length_cons,List.length_nil,List.replicate_succ,List.replicate_zero,List.cons_append,List.nil_append,Nat.reduceAdd,Nat.reduceSub,List.set_cons_zero,List.set_cons_succ,List.getElem?_cons_zero,List.getElem?_cons_succ,Bool.not_true,Bool.not_false,decide_true,decide_false,↓zj,↓zk,↓zl,↓zm,↓zn,↓zo,↓zp,↓zq,↓zr,↓zt,↓zu,↓zv,zj,zk,zl,zm,zn,zo,zp,zq,zr,zt,zu,zv,↓zw,↓zx,↓zy,↓zz,↓z9,↓ya,↓yb,↓yc,↓yd,↓ye,↓yf,↓yg,↓yh,↓yi,↓yj,↓yk,↓yl,↓ym,↓yn,↓yo,↓yp,↓eC,↓yq,↓eB,↓yr,↓yt,↓yu,↓yw,↓yx,↓yy,↓yz,↓y5,↓y6,↓y8,↓y9,↓xa,↓xb,↓xc,↓xg,↓xh,↓xi,↓xj,↓xk,↓xl,↓xm,↓xn,↓xo,↓xp,↓xq,↓xr,↓xt,↓xu,↓xy,↓xz,↓x5,↓x6,↓x7,↓x8,↓x9,↓wa,↓wb,↓wc,↓wd,↓we,↓wf,↓wg,↓wh,↓wj,↓wl,↓wm,↓wn,↓wo,↓wp,↓wq,↓wt,↓wu,wv,ww,wx,wy,wz,w3,w4,↓x9,↓wa,↓w6,↓x8,↓w7,↓w8,↓w9,va,vb,↓vc,↓vd,↓vf,↓vg,↓vh,↓vi,↓vj,↓vk,↓vm,↓vn,↓vo,↓vp,↓vq,↓vt,↓vv,↓vw,↓vx,↓vy,↓vz,↓v0,↓v3,↓v4,↓v5,↓v7,↓v8,↓v9,↓ua,↓ub,↓uc,↓ud,↓ue,↓uf,↓ug,↓uh,ui,uj,uk,ul,um,uo,uq,ur,ut,uu,uv,uw,ux,uy,uz,u2,u3,u5,u6,u7,u8,Option.bind_some,u9,tj,tm,tq,tv,tw,tz,t3,t8,t9,sf,true_and,beq_self_eq_true,Bool.false_eq_true,c0,c1,Int.cast_ofNat_Int,Int.reduceEq,Int.reduceLT,Int.reduceLE,Int.reduceAdd,Int.reduceSub,↓reduceIte, eFld, hb, lkM, eq_self, cut4]
  refine ⟨by decide, by decide, ⟨m, c, k, l, rs⟩, _, rfl, .inl rfl, ok1, ?_⟩
  rcases post with ⟨e, q⟩ | ⟨e, q⟩
  · generalize faultD ⟨m, c, k, l, rs⟩ = F at *
    cases F <;> first
      | exact absurd rfl e
      | (try simp -dsimp only [↓za,↓zb,↓zc,↓zd,↓ze,↓zf,↓zg,zh,zi,List.map_cons,List.map_nil,List.length_cons,List.length_nil,List.replicate_succ,List.replicate_zero,List.cons_append,List.nil_append,Nat.reduceAdd,Nat.reduceSub,List.set_cons_zero,List.set_cons_succ,List.getElem?_cons_zero,List.getElem?_cons_succ,Bool.not_true,Bool.not_false,decide_true,decide_false,↓zj,↓zk,↓zl,↓zm,↓zn,↓zo,↓zp,↓zq,↓zr,↓zt,↓zu,↓zv,zj,zk,zl,zm,zn,zo,zp,zq,zr,zt,zu,zv,↓zw,↓zx,↓zy,↓zz,↓z9,↓ya,↓yb,↓yc,↓yd,↓ye,↓yf,↓yg,↓yh,↓yi,↓yj,↓yk,↓yl,↓ym,↓yn,↓yo,↓yp,↓eC,↓yq,↓eB,↓yr,↓yt,↓yu,↓yw,↓yx,↓yy,↓yz,↓y5,↓y6,↓y8,↓y9,↓xa,↓xb,↓xc,↓xg,↓xh,↓xi,↓xj,↓xk,↓xl,↓xm,↓xn,↓xo,↓xp,↓xq,↓xr,↓xt,↓xu,↓xy,↓xz,↓x5,↓x6,↓x7,↓x8,↓x9,↓wa,↓wb,↓wc,↓wd,↓we,↓wf,↓wg,↓wh,↓wj,↓wl,↓wm,↓wn,↓wo,↓wp,↓wq,↓wt,↓wu,wv,ww,wx,wy,wz,w3,w4,↓x9,↓wa,↓w6,↓x8,↓w7,↓w8,↓w9,va,vb,↓vc,↓vd,↓vf,↓vg,↓vh,↓vi,↓vj,↓vk,↓vm,↓vn,↓vo,↓vp,↓vq,↓vt,↓vv,↓vw,↓vx,↓vy,↓vz,↓v0,↓v3,↓v4,↓v5,↓v7,↓v8,↓v9,↓ua,↓ub,↓uc,↓ud,↓ue,↓uf,↓ug,↓uh,ui,uj,uk,ul,um,uo,uq,ur,ut,uu,uv,uw,ux,uy,uz,u2,u3,u5,u6,u7,u8,Option.bind_some,u9,tj,tm,tq,tv,tw,tz,t3,t8,t9,sf,true_and,beq_self_eq_true,Bool.false_eq_true,c0,c1,Int.cast_ofNat_Int,Int.reduceEq,Int.reduceLT,Int.reduceLE,Int.reduceAdd,Int.reduceSub,↓reduceIte, eRaise]
         exact q)
  · have hb2 : (mset M pb (.lst (bh ++ [rmD ⟨m, c, k, l, r⟩]))) b = some (.ins cW (fldB (rmD ⟨m, c, k, l, r⟩) (.lst []) pb pa)) := by rw [mset_ne nb]; exact hb
    rw [rm_mk] at hb2
    try simp -dsimp only [↓za,↓zb,↓zc,↓zd,↓ze,↓zf,↓zg,zh,zi,List.map_cons,List.map_nil,List.length_cons,List.length_nil,List.replicate_succ,List.replicate_zero,List.cons_append,List.nil_append,Nat.reduceAdd,Nat.reduceSub,List.set_cons_zero,List.set_cons_succ,List.getElem?_cons_zero,List.getElem?_cons_succ,Bool.not_true,Bool.not_false,decide_true,decide_false,↓zj,↓zk,↓zl,↓zm,↓zn,↓zo,↓zp,↓zq,↓zr,↓zt,↓zu,↓zv,zj,zk,zl,zm,zn,zo,zp,zq,zr,zt,zu,zv,↓zw,↓zx,↓zy,↓zz,↓z9,↓ya,↓yb,↓yc,↓yd,↓ye,↓yf,↓yg,↓yh,↓yi,↓yj,↓yk,↓yl,↓ym,↓yn,↓yo,↓yp,↓eC,↓yq,↓eB,↓yr,↓yt,↓yu,↓yw,↓yx,↓yy,↓yz,↓y5,↓y6,↓y8,↓y9,↓xa,↓xb,↓xc,↓xg,↓xh,↓xi,↓xj,↓xk,↓xl,↓xm,↓xn,↓xo,↓xp,↓xq,↓xr,↓xt,↓xu,↓xy,↓xz,↓x5,↓x6,↓x7,↓x8,↓x9,↓wa,↓wb,↓wc,↓wd,↓we,↓wf,↓wg,↓wh,↓wj,↓wl,↓wm,↓wn,↓wo,↓wp,↓wq,↓wt,↓wu,wv,ww,wx,wy,wz,w3,w4,↓x9,↓wa,↓w6,↓x8,↓w7,↓w8,↓w9,va,vb,↓vc,↓vd,↓vf,↓vg,↓vh,↓vi,↓vj,↓vk,↓vm,↓vn,↓vo,↓vp,↓vq,↓vt,↓vv,↓vw,↓vx,↓vy,↓vz,↓v0,↓v3,↓v4,↓v5,↓v7,↓v8,↓v9,↓ua,↓ub,↓uc,↓ud,↓ue,↓uf,↓ug,↓uh,ui,uj,uk,ul,um,uo,uq,ur,ut,uu,uv,uw,ux,uy,uz,u2,u3,u5,u6,u7,u8,Option.bind_some,u9,tj,tm,tq,tv,tw,tz,t3,t8,t9,sf,true_and,beq_self_eq_true,Bool.false_eq_true,c0,c1,Int.cast_ofNat_Int,Int.reduceEq,Int.reduceLT,Int.reduceLE,Int.reduceAdd,Int.reduceSub,↓reduceIte, e, eFld, hb, lkM, lkB, eq_self, hp, eOwnF, hb2]
    rw [← rm_mk] at hb hb2 ⊢
    refine ⟨hl, by decide, fun p hp1 _ => ?_⟩
    have npb : p ≠ pb := fun e => by rw [e, sf] at hp1; cases hp1
    have hp0 : M p = none := by rw [mset_ne npb] at hp1; exact hp1
    have nbp : b ≠ p := fun e => by rw [← e, hb] at hp0; cases hp0
    have hb3 : (mset (mset M pb (.lst (bh ++ [rmD ⟨m, c, k, l, r⟩]))) p (.lst [])) b = some (.ins cW (fldB (rmD ⟨m, c, k, l, r⟩) (.lst []) pb pa)) := by rw [mset_ne nbp]; exact hb2
    try simp -dsimp only [↓za,↓zb,↓zc,↓zd,↓ze,↓zf,↓zg,zh,zi,List.map_cons,List.map_nil,List.length_cons,List.length_nil,List.replicate_succ,List.replicate_zero,List.cons_append,List.nil_append,Nat.reduceAdd,Nat.reduceSub,List.set_cons_zero,List.set_cons_succ,List.getElem?_cons_zero,List.getElem?_cons_succ,Bool.not_true,Bool.not_false,decide_true,decide_false,↓zj,↓zk,↓zl,↓zm,↓zn,↓zo,↓zp,↓zq,↓zr,↓zt,↓zu,↓zv,zj,zk,zl,zm,zn,zo,zp,zq,zr,zt,zu,zv,↓zw,↓zx,↓zy,↓zz,↓z9,↓ya,↓yb,↓yc,↓yd,↓ye,↓yf,↓yg,↓yh,↓yi,↓yj,↓yk,↓yl,↓ym,↓yn,↓yo,↓yp,↓eC,↓yq,↓eB,↓yr,↓yt,↓yu,↓yw,↓yx,↓yy,↓yz,↓y5,↓y6,↓y8,↓y9,↓xa,↓xb,↓xc,↓xg,↓xh,↓xi,↓xj,↓xk,↓xl,↓xm,↓xn,↓xo,↓xp,↓xq,↓xr,↓xt,↓xu,↓xy,↓xz,↓x5,↓x6,↓x7,↓x8,↓x9,↓wa,↓wb,↓wc,↓wd,↓we,↓wf,↓wg,↓wh,↓wj,↓wl,↓wm,↓wn,↓wo,↓wp,↓wq,↓wt,↓wu,wv,ww,wx,wy,wz,w3,w4,↓x9,↓wa,↓w6,↓x8,↓w7,↓w8,↓w9,va,vb,↓vc,↓vd,↓vf,↓vg,↓vh,↓vi,↓vj,↓vk,↓vm,↓vn,↓vo,↓vp,↓vq,↓vt,↓vv,↓vw,↓vx,↓vy,↓vz,↓v0,↓v3,↓v4,↓v5,↓v7,↓v8,↓v9,↓ua,↓ub,↓uc,↓ud,↓ue,↓uf,↓ug,↓uh,ui,uj,uk,ul,um,uo,uq,ur,ut,uu,uv,uw,ux,uy,uz,u2,u3,u5,u6,u7,u8,Option.bind_some,u9,tj,tm,tq,tv,tw,tz,t3,t8,t9,sf,true_and,beq_self_eq_true,Bool.false_eq_true,c0,c1,Int.cast_ofNat_Int,Int.reduceEq,Int.reduceLT,Int.reduceLE,Int.reduceAdd,Int.reduceSub,↓reduceIte, hb3, eq_self, lnB, putA, eMeth, lkSet]
    refine ⟨by decide, b, pb, p, ⟨m, c, k, l, r⟩, ⟨m, c, k, l, rs⟩, rfl, sf, ok0, ok1, ?_⟩
    rw [mset_mset]
    exact q p hp0

def S_Workbench__add_rule (cF cW : Addr) : FSpec := fun ds M Q xw => ∃ (b pb pa : Addr) (m : RM) (r : RRule), ds = [.loc b, rrD r] ∧ Bch cW M b pb pa (rmD m) ∧ m.r.length < sizeLine ∧ S_Workbench___change cW cF [.loc b, .tup ((m.r ++ [r]).map rrD)] M Q xw
theorem b_add {cF cW : Addr} (ds : List D) (M : Mu) (Q : D → Mu → Prop) (xw : XW) (h : S_Workbench__add_rule cF cW ds M Q xw) : bodyK N_Workbench__add_rule (f_Workbench__add_rule (S_Workbench___change cW cF) cF cW) ds M Q xw := by
  obtain ⟨b, pb, pa, m, r, rfl, hb, hl, q⟩ := h
  unfold Bch at hb
  obtain ⟨m, c, k, l, rs⟩ := m
  rw [rm_mk] at hb
  rw [List.map_append] at q
  unfold bodyK
  simp only [zh, bodyL, zi, N_Workbench__add_rule, List.map_cons, List.map_nil, List.length_cons, List.length_nil, List.replicate_succ, List.replicate_zero, List.cons_append, List.nil_append, Nat.reduceAdd, Nat.reduceSub]
  unfold f_Workbench__add_rule
  try simp -dsimp only [↓za,↓zb,↓zc,↓zd,↓ze,↓zf,↓zg,zh,zi,List.map_cons,List.map_nil,List.length_cons,List.length_nil,List.replicate_succ,List.replicate_zero,List.cons_append,List.nil_append,Nat.reduceAdd,Nat.reduceSub,List.set_cons_zero,List.set_cons_succ,List.getElem?_cons_zero,List.getElem?_cons_succ,Bool.not_true,Bool.not_false,decide_true,decide_false,↓zj,↓zk,↓zl,↓zm,↓zn,↓zo,↓zp,↓zq,↓zr,↓zt,↓zu,↓zv,zj,zk,zl,zm,zn,zo,zp,zq,zr,zt,zu,zv,↓zw,↓zx,↓zy,↓zz,↓z9,↓ya,↓yb,↓yc,↓yd,↓ye,↓yf,↓yg,↓yh,↓yi,↓yj,↓yk,↓yl,↓ym,↓yn,↓yo,↓yp,↓eC,↓yq,↓eB,↓yr,↓yt,↓yu,↓yw,↓yx,↓yy,↓yz,↓y5,↓y6,↓y8,↓y9,↓xa,↓xb,↓xc,↓xg,↓xh,↓xi,↓xj,↓xk,↓xl,↓xm,↓xn,↓xo,↓xp,↓xq,↓xr,↓xt,↓xu,↓xy,↓xz,↓x5,↓x6,↓x7,↓x8,↓x9,↓wa,↓wb,↓wc,↓wd,↓we,↓wf,↓wg,↓wh,↓wj,↓wl,↓wm,↓wn,↓wo,↓wp,↓wq,↓wt,↓wu,wv,ww,wx,wy,wz,w3,w4,↓x9,↓wa,↓w6,↓x8,↓w7,↓w8,↓w9,va,vb,↓vc,↓vd,↓vf,↓vg,↓vh,↓vi,↓vj,↓vk,↓vm,↓vn,↓vo,↓vp,↓vq,↓vt,↓vv,↓vw,↓vx,↓vy,↓vz,↓v0,↓v3,↓v4,↓v5,↓v7,↓v8,↓v9,↓ua,↓ub,↓uc,↓ud,↓ue,↓uf,↓ug,↓uh,ui,uj,uk,ul,um,uo,uq,ur,ut,uu,uv,uw,ux,uy,uz,u2,u3,u5,u6,u7,u8,Option.bind_some,u9,tj,tm,tq,tv,tw,tz,t3,t8,t9,sf,true_and,beq_self_eq_true,Bool.false_eq_true,c0,c1,Int.cast_ofNat_Int,Int.reduceEq,Int.reduceLT,Int.reduceLE,Int.reduceAdd,Int.reduceSub,↓reduceIte, eMeth, hb, eq_self, lkChg, eFld, lkM, List.length_map]
  exact ⟨by decide, hl, q⟩
def S_Workbench__drop_rule (cW cU cF : Addr) : FSpec := fun ds M Q xw => ∃ (b pb pa : Addr) (m : RM) (n : Int), ds = [.loc b, .int n] ∧ Bch cW M b pb pa (rmD m) ∧ ¬ (0 ≤ n ∧ n < m.r.length) ∧ xw ⟨cU, []⟩ M
theorem b_drop {cF cW cU : Addr} (ds : List D) (M : Mu) (Q : D → Mu → Prop) (xw : XW) (h : S_Workbench__drop_rule cW cU cF ds M Q xw) : bodyK N_Workbench__drop_rule (f_Workbench__drop_rule (S_Workbench___change cW cF) cW cU cF) ds M Q xw := by
  obtain ⟨b, pb, pa, m, n, rfl, hb, hl, q⟩ := h
  unfold Bch at hb
  obtain ⟨m, c, k, l, rs⟩ := m
  rw [rm_mk] at hb
  unfold bodyK
  simp only [zh, bodyL, zi, N_Workbench__drop_rule, List.map_cons, List.map_nil, List.length_cons, List.length_nil, List.replicate_succ, List.replicate_zero, List.cons_append, List.nil_append, Nat.reduceAdd, Nat.reduceSub]
  unfold f_Workbench__drop_rule
  try simp -dsimp only [↓za,↓zb,↓zc,↓zd,↓ze,↓zf,↓zg,zh,zi,List.map_cons,List.map_nil,List.length_cons,List.length_nil,List.replicate_succ,List.replicate_zero,List.cons_append,List.nil_append,Nat.reduceAdd,Nat.reduceSub,List.set_cons_zero,List.set_cons_succ,List.getElem?_cons_zero,List.getElem?_cons_succ,Bool.not_true,Bool.not_false,decide_true,decide_false,↓zj,↓zk,↓zl,↓zm,↓zn,↓zo,↓zp,↓zq,↓zr,↓zt,↓zu,↓zv,zj,zk,zl,zm,zn,zo,zp,zq,zr,zt,zu,zv,↓zw,↓zx,↓zy,↓zz,↓z9,↓ya,↓yb,↓yc,↓yd,↓ye,↓yf,↓yg,↓yh,↓yi,↓yj,↓yk,↓yl,↓ym,↓yn,↓yo,↓yp,↓eC,↓yq,↓eB,↓yr,↓yt,↓yu,↓yw,↓yx,↓yy,↓yz,↓y5,↓y6,↓y8,↓y9,↓xa,↓xb,↓xc,↓xg,↓xh,↓xi,↓xj,↓xk,↓xl,↓xm,↓xn,↓xo,↓xp,↓xq,↓xr,↓xt,↓xu,↓xy,↓xz,↓x5,↓x6,↓x7,↓x8,↓x9,↓wa,↓wb,↓wc,↓wd,↓we,↓wf,↓wg,↓wh,↓wj,↓wl,↓wm,↓wn,↓wo,↓wp,↓wq,↓wt,↓wu,wv,ww,wx,wy,wz,w3,w4,↓x9,↓wa,↓w6,↓x8,↓w7,↓w8,↓w9,va,vb,↓vc,↓vd,↓vf,↓vg,↓vh,↓vi,↓vj,↓vk,↓vm,↓vn,↓vo,↓vp,↓vq,↓vt,↓vv,↓vw,↓vx,↓vy,↓vz,↓v0,↓v3,↓v4,↓v5,↓v7,↓v8,↓v9,↓ua,↓ub,↓uc,↓ud,↓ue,↓uf,↓ug,↓uh,ui,uj,uk,ul,um,uo,uq,ur,ut,uu,uv,uw,ux,uy,uz,u2,u3,u5,u6,u7,u8,Option.bind_some,u9,tj,tm,tq,tv,tw,tz,t3,t8,t9,sf,true_and,beq_self_eq_true,Bool.false_eq_true,c0,c1,Int.cast_ofNat_Int,Int.reduceEq,Int.reduceLT,Int.reduceLE,Int.reduceAdd,Int.reduceSub,↓reduceIte, eFld, hb, eq_self, lkM, List.length_map]
  by_cases h0 : 0 ≤ n
  · have h1 : ¬ n < (rs.length : Int) := fun z => hl ⟨h0, z⟩
    rw [decide_eq_true h0]
    try simp -dsimp only [↓za,↓zb,↓zc,↓zd,↓ze,↓zf,↓zg,zh,zi,List.map_cons,List.map_nil,List.length_cons,List.length_nil,List.replicate_succ,List.replicate_zero,List.cons_append,List.nil_append,Nat.reduceAdd,Nat.reduceSub,List.set_cons_zero,List.set_cons_succ,List.getElem?_cons_zero,List.getElem?_cons_succ,Bool.not_true,Bool.not_false,decide_true,decide_false,↓zj,↓zk,↓zl,↓zm,↓zn,↓zo,↓zp,↓zq,↓zr,↓zt,↓zu,↓zv,zj,zk,zl,zm,zn,zo,zp,zq,zr,zt,zu,zv,↓zw,↓zx,↓zy,↓zz,↓z9,↓ya,↓yb,↓yc,↓yd,↓ye,↓yf,↓yg,↓yh,↓yi,↓yj,↓yk,↓yl,↓ym,↓yn,↓yo,↓yp,↓eC,↓yq,↓eB,↓yr,↓yt,↓yu,↓yw,↓yx,↓yy,↓yz,↓y5,↓y6,↓y8,↓y9,↓xa,↓xb,↓xc,↓xg,↓xh,↓xi,↓xj,↓xk,↓xl,↓xm,↓xn,↓xo,↓xp,↓xq,↓xr,↓xt,↓xu,↓xy,↓xz,↓x5,↓x6,↓x7,↓x8,↓x9,↓wa,↓wb,↓wc,↓wd,↓we,↓wf,↓wg,↓wh,↓wj,↓wl,↓wm,↓wn,↓wo,↓wp,↓wq,↓wt,↓wu,wv,ww,wx,wy,wz,w3,w4,↓x9,↓wa,↓w6,↓x8,↓w7,↓w8,↓w9,va,vb,↓vc,↓vd,↓vf,↓vg,↓vh,↓vi,↓vj,↓vk,↓vm,↓vn,↓vo,↓vp,↓vq,↓vt,↓vv,↓vw,↓vx,↓vy,↓vz,↓v0,↓v3,↓v4,↓v5,↓v7,↓v8,↓v9,↓ua,↓ub,↓uc,↓ud,↓ue,↓uf,↓ug,↓uh,ui,uj,uk,ul,um,uo,uq,ur,ut,uu,uv,uw,ux,uy,uz,u2,u3,u5,u6,u7,u8,Option.bind_some,u9,tj,tm,tq,tv,tw,tz,t3,t8,t9,sf,true_and,beq_self_eq_true,Bool.false_eq_true,c0,c1,Int.cast_ofNat_Int,Int.reduceEq,Int.reduceLT,Int.reduceLE,Int.reduceAdd,Int.reduceSub,↓reduceIte]
    rw [decide_eq_false h1]
    try simp -dsimp only [↓za,↓zb,↓zc,↓zd,↓ze,↓zf,↓zg,zh,zi,List.map_cons,List.map_nil,List.length_cons,List.length_nil,List.replicate_succ,List.replicate_zero,List.cons_append,List.nil_append,Nat.reduceAdd,Nat.reduceSub,List.set_cons_zero,List.set_cons_succ,List.getElem?_cons_zero,List.getElem?_cons_succ,Bool.not_true,Bool.not_false,decide_true,decide_false,↓zj,↓zk,↓zl,↓zm,↓zn,↓zo,↓zp,↓zq,↓zr,↓zt,↓zu,↓zv,zj,zk,zl,zm,zn,zo,zp,zq,zr,zt,zu,zv,↓zw,↓zx,↓zy,↓zz,↓z9,↓ya,↓yb,↓yc,↓yd,↓ye,↓yf,↓yg,↓yh,↓yi,↓yj,↓yk,↓yl,↓ym,↓yn,↓yo,↓yp,↓eC,↓yq,↓eB,↓yr,↓yt,↓yu,↓yw,↓yx,↓yy,↓yz,↓y5,↓y6,↓y8,↓y9,↓xa,↓xb,↓xc,↓xg,↓xh,↓xi,↓xj,↓xk,↓xl,↓xm,↓xn,↓xo,↓xp,↓xq,↓xr,↓xt,↓xu,↓xy,↓xz,↓x5,↓x6,↓x7,↓x8,↓x9,↓wa,↓wb,↓wc,↓wd,↓we,↓wf,↓wg,↓wh,↓wj,↓wl,↓wm,↓wn,↓wo,↓wp,↓wq,↓wt,↓wu,wv,ww,wx,wy,wz,w3,w4,↓x9,↓wa,↓w6,↓x8,↓w7,↓w8,↓w9,va,vb,↓vc,↓vd,↓vf,↓vg,↓vh,↓vi,↓vj,↓vk,↓vm,↓vn,↓vo,↓vp,↓vq,↓vt,↓vv,↓vw,↓vx,↓vy,↓vz,↓v0,↓v3,↓v4,↓v5,↓v7,↓v8,↓v9,↓ua,↓ub,↓uc,↓ud,↓ue,↓uf,↓ug,↓uh,ui,uj,uk,ul,um,uo,uq,ur,ut,uu,uv,uw,ux,uy,uz,u2,u3,u5,u6,u7,u8,Option.bind_some,u9,tj,tm,tq,tv,tw,tz,t3,t8,t9,sf,true_and,beq_self_eq_true,Bool.false_eq_true,c0,c1,Int.cast_ofNat_Int,Int.reduceEq,Int.reduceLT,Int.reduceLE,Int.reduceAdd,Int.reduceSub,↓reduceIte, eRaise]
    exact q
  · rw [decide_eq_false h0]
    try simp -dsimp only [↓za,↓zb,↓zc,↓zd,↓ze,↓zf,↓zg,zh,zi,List.map_cons,List.map_nil,List.length_cons,List.length_nil,List.replicate_succ,List.replicate_zero,List.cons_append,List.nil_append,Nat.reduceAdd,Nat.reduceSub,List.set_cons_zero,List.set_cons_succ,List.getElem?_cons_zero,List.getElem?_cons_succ,Bool.not_true,Bool.not_false,decide_true,decide_false,↓zj,↓zk,↓zl,↓zm,↓zn,↓zo,↓zp,↓zq,↓zr,↓zt,↓zu,↓zv,zj,zk,zl,zm,zn,zo,zp,zq,zr,zt,zu,zv,↓zw,↓zx,↓zy,↓zz,↓z9,↓ya,↓yb,↓yc,↓yd,↓ye,↓yf,↓yg,↓yh,↓yi,↓yj,↓yk,↓yl,↓ym,↓yn,↓yo,↓yp,↓eC,↓yq,↓eB,↓yr,↓yt,↓yu,↓yw,↓yx,↓yy,↓yz,↓y5,↓y6,↓y8,↓y9,↓xa,↓xb,↓xc,↓xg,↓xh,↓xi,↓xj,↓xk,↓xl,↓xm,↓xn,↓xo,↓xp,↓xq,↓xr,↓xt,↓xu,↓xy,↓xz,↓x5,↓x6,↓x7,↓x8,↓x9,↓wa,↓wb,↓wc,↓wd,↓we,↓wf,↓wg,↓wh,↓wj,↓wl,↓wm,↓wn,↓wo,↓wp,↓wq,↓wt,↓wu,wv,ww,wx,wy,wz,w3,w4,↓x9,↓wa,↓w6,↓x8,↓w7,↓w8,↓w9,va,vb,↓vc,↓vd,↓vf,↓vg,↓vh,↓vi,↓vj,↓vk,↓vm,↓vn,↓vo,↓vp,↓vq,↓vt,↓vv,↓vw,↓vx,↓vy,↓vz,↓v0,↓v3,↓v4,↓v5,↓v7,↓v8,↓v9,↓ua,↓ub,↓uc,↓ud,↓ue,↓uf,↓ug,↓uh,ui,uj,uk,ul,um,uo,uq,ur,ut,uu,uv,uw,ux,uy,uz,u2,u3,u5,u6,u7,u8,Option.bind_some,u9,tj,tm,tq,tv,tw,tz,t3,t8,t9,sf,true_and,beq_self_eq_true,Bool.false_eq_true,c0,c1,Int.cast_ofNat_Int,Int.reduceEq,Int.reduceLT,Int.reduceLE,Int.reduceAdd,Int.reduceSub,↓reduceIte, eRaise]
    exact q
def S_Workbench__undo (cW : Addr) : FSpec := fun ds M Q _ => ∃ (b pb pa : Addr) (m : RM) (bh ah : List D), ds = [.loc b] ∧ Bch cW M b pb pa (rmD m) ∧ M pb = some (.lst bh) ∧ M pa = some (.lst ah) ∧ pb ≠ pa ∧ ah.length < sizeLine ∧ m.ok ∧
  ((bh = [] ∧ Q (.bl false) M) ∨ ∃ m1 : RM, m1.ok ∧ bh = [rmD m1] ∧ Q (.bl true) (mset (mset (mset M pa (.lst (ah ++ [rmD m]))) pb (.lst [])) b (.ins cW (fldB (rmD m1) (.lst []) pb pa))))
def S_Workbench__redo (cW : Addr) : FSpec := fun ds M Q _ => ∃ (b pb pa : Addr) (m : RM) (bh ah : List D), ds = [.loc b] ∧ Bch cW M b pb pa (rmD m) ∧ M pb = some (.lst bh) ∧ M pa = some (.lst ah) ∧ pb ≠ pa ∧ bh.length < sizeLine ∧ m.ok ∧
  ((ah = [] ∧ Q (.bl false) M) ∨ ∃ m1 : RM, m1.ok ∧ ah = [rmD m1] ∧ Q (.bl true) (mset (mset (mset M pb (.lst (bh ++ [rmD m]))) pa (.lst [])) b (.ins cW (fldB (rmD m1) (.lst []) pb pa))))
theorem b_undo {cW : Addr} (ds : List D) (M : Mu) (Q : D → Mu → Prop) (xw : XW) (h : S_Workbench__undo cW ds M Q xw) : bodyK N_Workbench__undo (f_Workbench__undo (S_Workbench___set cW) cW) ds M Q xw := by
  obtain ⟨b, pb, pa, m, bh, ah, rfl, hb, hp, ha, npa, hl, hm, post⟩ := h
  unfold Bch at hb
  have nb : b ≠ pb := fun e => by rw [← e, hb] at hp; cases hp
  have na : b ≠ pa := fun e => by rw [← e, hb] at ha; cases ha
  unfold bodyK
  simp only [zh, bodyL, zi, N_Workbench__undo, List.map_cons, List.map_nil, List.length_cons, List.length_nil, List.replicate_succ, List.replicate_zero, List.cons_append, List.nil_append, Nat.reduceAdd, Nat.reduceSub]
  unfold f_Workbench__undo
  rcases post with ⟨rfl, q⟩ | ⟨m1, hm1, rfl, q⟩
  · try simp -dsimp only [↓za,↓zb,↓zc,↓zd,↓ze,↓zf,↓zg,zh,zi,List.map_cons,List.map_nil,List.length_cons,List.length_nil,List.replicate_succ,List.replicate_zero,List.cons_append,List.nil_append,Nat.reduceAdd,Nat.reduceSub,List.set_cons_zero,List.set_cons_succ,List.getElem?_cons_zero,List.getElem?_cons_succ,Bool.not_true,Bool.not_false,decide_true,decide_false,↓zj,↓zk,↓zl,↓zm,↓zn,↓zo,↓zp,↓zq,↓zr,↓zt,↓zu,↓zv,zj,zk,zl,zm,zn,zo,zp,zq,zr,zt,zu,zv,↓zw,↓zx,↓zy,↓zz,↓z9,↓ya,↓yb,↓yc,↓yd,↓ye,↓yf,↓yg,↓yh,↓yi,↓yj,↓yk,↓yl,↓ym,↓yn,↓yo,↓yp,↓eC,↓yq,↓eB,↓yr,↓yt,↓yu,↓yw,↓yx,↓yy,↓yz,↓y5,↓y6,↓y8,↓y9,↓xa,↓xb,↓xc,↓xg,↓xh,↓xi,↓xj,↓xk,↓xl,↓xm,↓xn,↓xo,↓xp,↓xq,↓xr,↓xt,↓xu,↓xy,↓xz,↓x5,↓x6,↓x7,↓x8,↓x9,↓wa,↓wb,↓wc,↓wd,↓we,↓wf,↓wg,↓wh,↓wj,↓wl,↓wm,↓wn,↓wo,↓wp,↓wq,↓wt,↓wu,wv,ww,wx,wy,wz,w3,w4,↓x9,↓wa,↓w6,↓x8,↓w7,↓w8,↓w9,va,vb,↓vc,↓vd,↓vf,↓vg,↓vh,↓vi,↓vj,↓vk,↓vm,↓vn,↓vo,↓vp,↓vq,↓vt,↓vv,↓vw,↓vx,↓vy,↓vz,↓v0,↓v3,↓v4,↓v5,↓v7,↓v8,↓v9,↓ua,↓ub,↓uc,↓ud,↓ue,↓uf,↓ug,↓uh,ui,uj,uk,ul,um,uo,uq,ur,ut,uu,uv,uw,ux,uy,uz,u2,u3,u5,u6,u7,u8,Option.bind_some,u9,tj,tm,tq,tv,tw,tz,t3,t8,t9,sf,true_and,beq_self_eq_true,Bool.false_eq_true,c0,c1,Int.cast_ofNat_Int,Int.reduceEq,Int.reduceLT,Int.reduceLE,Int.reduceAdd,Int.reduceSub,↓reduceIte, eFld, hb, eq_self, lkB, hp, List.isEmpty_nil]
    exact q
  · have hb2 : (mset M pa (.lst (ah ++ [rmD m]))) b = some (.ins cW (fldB (rmD m) (.lst []) pb pa)) := by rw [mset_ne na]; exact hb
    have hp2 : (mset M pa (.lst (ah ++ [rmD m]))) pb = some (.lst [rmD m1]) := by rw [mset_ne npa]; exact hp
    try simp -dsimp only [↓za,↓zb,↓zc,↓zd,↓ze,↓zf,↓zg,zh,zi,List.map_cons,List.map_nil,List.length_cons,List.length_nil,List.replicate_succ,List.replicate_zero,List.cons_append,List.nil_append,Nat.reduceAdd,Nat.reduceSub,List.set_cons_zero,List.set_cons_succ,List.getElem?_cons_zero,List.getElem?_cons_succ,Bool.not_true,Bool.not_false,decide_true,decide_false,↓zj,↓zk,↓zl,↓zm,↓zn,↓zo,↓zp,↓zq,↓zr,↓zt,↓zu,↓zv,zj,zk,zl,zm,zn,zo,zp,zq,zr,zt,zu,zv,↓zw,↓zx,↓zy,↓zz,↓z9,↓ya,↓yb,↓yc,↓yd,↓ye,↓yf,↓yg,↓yh,↓yi,↓yj,↓yk,↓yl,↓ym,↓yn,↓yo,↓yp,↓eC,↓yq,↓eB,↓yr,↓yt,↓yu,↓yw,↓yx,↓yy,↓yz,↓y5,↓y6,↓y8,↓y9,↓xa,↓xb,↓xc,↓xg,↓xh,↓xi,↓xj,↓xk,↓xl,↓xm,↓xn,↓xo,↓xp,↓xq,↓xr,↓xt,↓xu,↓xy,↓xz,↓x5,↓x6,↓x7,↓x8,↓x9,↓wa,↓wb,↓wc,↓wd,↓we,↓wf,↓wg,↓wh,↓wj,↓wl,↓wm,↓wn,↓wo,↓wp,↓wq,↓wt,↓wu,wv,ww,wx,wy,wz,w3,w4,↓x9,↓wa,↓w6,↓x8,↓w7,↓w8,↓w9,va,vb,↓vc,↓vd,↓vf,↓vg,↓vh,↓vi,↓vj,↓vk,↓vm,↓vn,↓vo,↓vp,↓vq,↓vt,↓vv,↓vw,↓vx,↓vy,↓vz,↓v0,↓v3,↓v4,↓v5,↓v7,↓v8,↓v9,↓ua,↓ub,↓uc,↓ud,↓ue,↓uf,↓ug,↓uh,ui,uj,uk,ul,um,uo,uq,ur,ut,uu,uv,uw,ux,uy,uz,u2,u3,u5,u6,u7,u8,Option.bind_some,u9,tj,tm,tq,tv,tw,tz,t3,t8,t9,sf,true_and,beq_self_eq_true,Bool.false_eq_true,c0,c1,Int.cast_ofNat_Int,Int.reduceEq,Int.reduceLT,Int.reduceLE,Int.reduceAdd,Int.reduceSub,↓reduceIte, eFld, hb, eq_self, lkB, lkA, lkM, hp, ha, List.isEmpty_cons, eMeth, hb2, hp2, lkSet, List.getLast?_singleton, List.dropLast_singleton]
    refine ⟨hl, b, pb, pa, m, m1, rfl, ?_, hm, hm1, q⟩
    show _ = _
    rw [mset_ne nb]
    exact hb2
theorem b_redo {cW : Addr} (ds : List D) (M : Mu) (Q : D → Mu → Prop) (xw : XW) (h : S_Workbench__redo cW ds M Q xw) : bodyK N_Workbench__redo (f_Workbench__redo (S_Workbench___set cW) cW) ds M Q xw := by
  obtain ⟨b, pb, pa, m, bh, ah, rfl, hb, hp, ha, npa, hl, hm, post⟩ := h
  unfold Bch at hb
  have nb : b ≠ pb := fun e => by rw [← e, hb] at hp; cases hp
  have na : b ≠ pa := fun e => by rw [← e, hb] at ha; cases ha
  unfold bodyK
  simp only [zh, bodyL, zi, N_Workbench__redo, List.map_cons, List.map_nil, List.length_cons, List.length_nil, List.replicate_succ, List.replicate_zero, List.cons_append, List.nil_append, Nat.reduceAdd, Nat.reduceSub]
  unfold f_Workbench__redo
  rcases post with ⟨rfl, q⟩ | ⟨m1, hm1, rfl, q⟩
  · try simp -dsimp only [↓za,↓zb,↓zc,↓zd,↓ze,↓zf,↓zg,zh,zi,List.map_cons,List.map_nil,List.length_cons,List.length_nil,List.replicate_succ,List.replicate_zero,List.cons_append,List.nil_append,Nat.reduceAdd,Nat.reduceSub,List.set_cons_zero,List.set_cons_succ,List.getElem?_cons_zero,List.getElem?_cons_succ,Bool.not_true,Bool.not_false,decide_true,decide_false,↓zj,↓zk,↓zl,↓zm,↓zn,↓zo,↓zp,↓zq,↓zr,↓zt,↓zu,↓zv,zj,zk,zl,zm,zn,zo,zp,zq,zr,zt,zu,zv,↓zw,↓zx,↓zy,↓zz,↓z9,↓ya,↓yb,↓yc,↓yd,↓ye,↓yf,↓yg,↓yh,↓yi,↓yj,↓yk,↓yl,↓ym,↓yn,↓yo,↓yp,↓eC,↓yq,↓eB,↓yr,↓yt,↓yu,↓yw,↓yx,↓yy,↓yz,↓y5,↓y6,↓y8,↓y9,↓xa,↓xb,↓xc,↓xg,↓xh,↓xi,↓xj,↓xk,↓xl,↓xm,↓xn,↓xo,↓xp,↓xq,↓xr,↓xt,↓xu,↓xy,↓xz,↓x5,↓x6,↓x7,↓x8,↓x9,↓wa,↓wb,↓wc,↓wd,↓we,↓wf,↓wg,↓wh,↓wj,↓wl,↓wm,↓wn,↓wo,↓wp,↓wq,↓wt,↓wu,wv,ww,wx,wy,wz,w3,w4,↓x9,↓wa,↓w6,↓x8,↓w7,↓w8,↓w9,va,vb,↓vc,↓vd,↓vf,↓vg,↓vh,↓vi,↓vj,↓vk,↓vm,↓vn,↓vo,↓vp,↓vq,↓vt,↓vv,↓vw,↓vx,↓vy,↓vz,↓v0,↓v3,↓v4,↓v5,↓v7,↓v8,↓v9,↓ua,↓ub,↓uc,↓ud,↓ue,↓uf,↓ug,↓uh,ui,uj,uk,ul,um,uo,uq,ur,ut,uu,uv,uw,ux,uy,uz,u2,u3,u5,u6,u7,u8,Option.bind_some,u9,tj,tm,tq,tv,tw,tz,t3,t8,t9,sf,true_and,beq_self_eq_true,Bool.false_eq_true,c0,c1,Int.cast_ofNat_Int,Int.reduceEq,Int.reduceLT,Int.reduceLE,Int.reduceAdd,Int.reduceSub,↓reduceIte, eFld, hb, eq_self, lkA, ha, List.isEmpty_nil]
    exact q
  · have hb2 : (mset M pb (.lst (bh ++ [rmD m]))) b = some (.ins cW (fldB (rmD m) (.lst []) pb pa)) := by rw [mset_ne nb]; exact hb
    have ha2 : (mset M pb (.lst (bh ++ [rmD m]))) pa = some (.lst [rmD m1]) := by rw [mset_ne (Ne.symm npa)]; exact ha
    try simp -dsimp only [↓za,↓zb,↓zc,↓zd,↓ze,↓zf,↓zg,zh,zi,List.map_cons,List.map_nil,List.length_cons,List.length_nil,List.replicate_succ,List.replicate_zero,List.cons_append,List.nil_append,Nat.reduceAdd,Nat.reduceSub,List.set_cons_zero,List.set_cons_succ,List.getElem?_cons_zero,List.getElem?_cons_succ,Bool.not_true,Bool.not_false,decide_true,decide_false,↓zj,↓zk,↓zl,↓zm,↓zn,↓zo,↓zp,↓zq,↓zr,↓zt,↓zu,↓zv,zj,zk,zl,zm,zn,zo,zp,zq,zr,zt,zu,zv,↓zw,↓zx,↓zy,↓zz,↓z9,↓ya,↓yb,↓yc,↓yd,↓ye,↓yf,↓yg,↓yh,↓yi,↓yj,↓yk,↓yl,↓ym,↓yn,↓yo,↓yp,↓eC,↓yq,↓eB,↓yr,↓yt,↓yu,↓yw,↓yx,↓yy,↓yz,↓y5,↓y6,↓y8,↓y9,↓xa,↓xb,↓xc,↓xg,↓xh,↓xi,↓xj,↓xk,↓xl,↓xm,↓xn,↓xo,↓xp,↓xq,↓xr,↓xt,↓xu,↓xy,↓xz,↓x5,↓x6,↓x7,↓x8,↓x9,↓wa,↓wb,↓wc,↓wd,↓we,↓wf,↓wg,↓wh,↓wj,↓wl,↓wm,↓wn,↓wo,↓wp,↓wq,↓wt,↓wu,wv,ww,wx,wy,wz,w3,w4,↓x9,↓wa,↓w6,↓x8,↓w7,↓w8,↓w9,va,vb,↓vc,↓vd,↓vf,↓vg,↓vh,↓vi,↓vj,↓vk,↓vm,↓vn,↓vo,↓vp,↓vq,↓vt,↓vv,↓vw,↓vx,↓vy,↓vz,↓v0,↓v3,↓v4,↓v5,↓v7,↓v8,↓v9,↓ua,↓ub,↓uc,↓ud,↓ue,↓uf,↓ug,↓uh,ui,uj,uk,ul,um,uo,uq,ur,ut,uu,uv,uw,ux,uy,uz,u2,u3,u5,u6,u7,u8,Option.bind_some,u9,tj,tm,tq,tv,tw,tz,t3,t8,t9,sf,true_and,beq_self_eq_true,Bool.false_eq_true,c0,c1,Int.cast_ofNat_Int,Int.reduceEq,Int.reduceLT,Int.reduceLE,Int.reduceAdd,Int.reduceSub,↓reduceIte, eFld, hb, eq_self, lkB, lkA, lkM, hp, ha, List.isEmpty_cons, eMeth, hb2, ha2, lkSet, List.getLast?_singleton, List.dropLast_singleton]
    refine ⟨hl, b, pb, pa, m, m1, rfl, ?_, hm, hm1, q⟩
    show _ = _
    rw [mset_ne na]
    exact hb2
end U

set_option Elab.async false
set_option linter.all false
set_option maxRecDepth 100000
set_option maxHeartbeats 1000000
set_option pp.deepTerms false
set_option pp.maxSteps 3000
/-! L40: the law of workbenches that refuse. -/
namespace U
open PySem PySem.Spec PyProof.Rows L2
def N_ltold : List Str := ["_law_bench", "_law_choice", "_law_value", "_law_error"]
def f_ltold (S_Workbench____init__ : FSpec) (S_Workbench__add_rule : FSpec) (S_Workbench__drop_rule : FSpec) (c_NotFitting : Addr) (c_UnknownRule : Addr) (c_Workbench : Addr) : FS := fThen (fTry2 c_NotFitting c_UnknownRule (fun n => (decide (n < 2)) && (true && (!false))) (fun n => (decide (n = 2)) && (true && true)) 1 (fIfS (fB (fOp gEq (fNm 1) (fC (.int 0)))) (fExpr (fMake c_Workbench S_Workbench____init__ (fCons (fNm 2) (fCons (fOfL (fLstL fNil)) fNil)))) (fIfS (fB (fOp gEq (fNm 1) (fC (.int 1)))) (fExpr (fMeth c_Workbench "add_rule" S_Workbench__add_rule (fNm 0) (fCons (fNm 2) fNil))) (fExpr (fMeth c_Workbench "drop_rule" S_Workbench__drop_rule (fNm 0) (fCons (fNm 2) fNil)))))) (fRet (fC (.bl false)))
def N_law : List Str := ["_law_script", "_law_state", "_law_machine_here", "_law_shape_here", "_law_rule_here", "_law_bench", "_law_odd", "_law_wrong", "_law_value", "_law_error", "_law_full"]
def f_law (S_lmachine : FSpec) (S_lrule : FSpec) (S_Workbench____init__ : FSpec) (S_Workbench__add_rule : FSpec) (S_Workbench__undo : FSpec) (S_ltold : FSpec) (S_Workbench__machine : FSpec) (S_Workbench__redo : FSpec) (c_NotFitting : Addr) (c_Workbench : Addr) (c_InvalidLine : Addr) (c_UpwallError : Addr) (c_TooManyStates : Addr) (c_UnknownRule : Addr) : FS := fThen (fOwn 1 (fLstL (fCons (fC (.int 0)) (fCons (fC (.int 0)) (fCons (fOfL (fListL (fCons (fNm 0) fNil))) (fCons (fC (.int 1)) fNil)))))) (fThen (fSet 2 (fCall S_lmachine (fCons (fNm 1) (fCons (fC (.int 3)) fNil)))) (fThen (fSet 3 (fSl' (fNm 2) fNo (fSome (fC (.int 4))))) (fThen (fSet 4 (fCall S_lrule (fCons (fNm 1) (fCons (fNm 3) fNil)))) (fThen (fSet 5 (fMake c_Workbench S_Workbench____init__ (fCons (fNm 2) (fCons (fOfL (fLstL fNil)) fNil)))) (fThen (fExpr (fMeth c_Workbench "add_rule" S_Workbench__add_rule (fNm 5) (fCons (fNm 4) fNil))) (fThen (fExpr (fMeth c_Workbench "undo" S_Workbench__undo (fNm 5) fNil)) (fThen (fSet 6 (fOfL (fLstL (fCons (fOp gAdd (fTup (fCons (fOp gIx (fNm 3) (fC (.int 0))) fNil)) (fSl' (fNm 4) (fSome (fC (.int 1))) fNo)) (fCons (fOp gAdd (fSl' (fNm 4) fNo (fSome (fC (.int 5)))) (fTup (fCons (fOp gIx (fNm 3) (fC (.int 0))) fNil))) (fCons (fOp gAdd (fOp gAdd (fSl' (fNm 4) fNo (fSome (fC (.int 1)))) (fTup (fCons (fOp gAdd (fOp gIx (fNm 4) (fC (.int 1))) (fTup (fCons (fC (.int 0)) fNil))) fNil))) (fSl' (fNm 4) (fSome (fC (.int 2))) fNo)) (fCons (fOp gAdd (fTup (fCons (fOp gSub (fC (.int 0)) (fC (.int 1))) fNil)) (fSl' (fNm 4) (fSome (fC (.int 1))) fNo)) fNil))))))) (fThen (fSet 7 (fOfL (fLstL (fCons (fOp gAdd (fTup (fCons (fC (.int 0)) fNil)) (fSl' (fNm 2) (fSome (fC (.int 1))) fNo)) (fCons (fOp gAdd (fSl' (fNm 2) fNo (fSome (fC (.int 4)))) (fTup (fCons (fSl' (fNm 6) (fSome (fC (.int 2))) (fSome (fC (.int 3)))) fNil))) (fCons (fOp gAdd (fSl' (fNm 2) fNo (fSome (fC (.int 4)))) (fTup (fCons (fOp gMul (fTup (fCons (fNm 4) fNil)) (fC (.int 21))) fNil))) fNil)))))) (fThen (fFor (fSeq (fNm 7)) (bNm 8) (fIfS (fOr (fNot (fTr (fCall S_ltold (fCons (fNm 5) (fCons (fC (.int 0)) (fCons (fNm 8) fNil)))))) (fB (fOp gNe (fMeth c_Workbench "machine" S_Workbench__machine (fNm 5) fNil) (fNm 2)))) (fRet (fC (.bl false))) fPass)) (fThen (fFor (fSeq (fNm 6)) (bNm 8) (fIfS (fOr (fNot (fTr (fCall S_ltold (fCons (fNm 5) (fCons (fC (.int 1)) (fCons (fNm 8) fNil)))))) (fB (fOp gNe (fMeth c_Workbench "machine" S_Workbench__machine (fNm 5) fNil) (fNm 2)))) (fRet (fC (.bl false))) fPass)) (fThen (fFor (fSeq (fOfL (fLstL (fCons (fOp gSub (fC (.int 0)) (fC (.int 1))) (fCons (fCB gLen (fCons (fOp gIx (fNm 2) (fC (.int 4))) fNil)) (fCons (fC (.int 20)) fNil)))))) (bNm 8) (fIfS (fOr (fNot (fTr (fCall S_ltold (fCons (fNm 5) (fCons (fC (.int 2)) (fCons (fNm 8) fNil)))))) (fB (fOp gNe (fMeth c_Workbench "machine" S_Workbench__machine (fNm 5) fNil) (fNm 2)))) (fRet (fC (.bl false))) fPass)) (fThen (fIfS (fOr (fB (fOp gIsNot (fMeth c_Workbench "undo" S_Workbench__undo (fNm 5) fNil) (fC (.bl false)))) (fB (fOp gIsNot (fMeth c_Workbench "redo" S_Workbench__redo (fNm 5) fNil) (fC (.bl true))))) (fRet (fC (.bl false))) fPass) (fThen (fExcs 9) (fThen (fSet 10 (fMake c_Workbench S_Workbench____init__ (fCons (fOp gAdd (fNm 3) (fTup (fCons (fOp gMul (fTup (fCons (fNm 4) fNil)) (fC (.int 20))) fNil))) (fCons (fOfL (fLstL fNil)) fNil)))) (fRet (fAndV (fCall S_ltold (fCons (fNm 10) (fCons (fC (.int 1)) (fCons (fNm 4) fNil)))) (fOp gEq (fMeth c_Workbench "machine" S_Workbench__machine (fNm 10) fNil) (fOp gAdd (fNm 3) (fTup (fCons (fOp gMul (fTup (fCons (fNm 4) fNil)) (fC (.int 20))) fNil))))))))))))))))))))
/-! ### what has a fault -/
theorem bad_all {m : RM} : ∀ {rs : List RRule} {k : Int}, badAt m rs k = .non → ∀ r ∈ rs, isRule m r = true
  | [], _, _, _, h => nomatch h
  | r0 :: rs, k, e, r, h => by
    rw [badAt_cons] at e
    by_cases h0 : isRule m r0 = true
    · rw [if_pos h0] at e
      rcases List.mem_cons.mp h with rfl | h
      · exact h0
      · exact bad_all e r h
    · rw [if_neg h0] at e
      cases e
theorem fault_of {m : RM} (h : faultD m = .non) : (1 ≤ m.m ∧ m.m ≤ 6) ∧ m.r.length ≤ 20 ∧ ∀ r ∈ m.r, isRule m r = true := by
  unfold faultD at h
  by_cases h1 : 1 ≤ m.m ∧ m.m ≤ 6
  · rw [if_neg (not_not_intro h1)] at h
    by_cases h2 : 0 ≤ m.c ∧ m.c ≤ 4
    · rw [if_neg (not_not_intro h2)] at h
      by_cases h3 : 0 ≤ m.q ∧ m.q ≤ 2
      · rw [if_neg (not_not_intro h3)] at h
        by_cases h4 : 0 ≤ m.l ∧ m.l ≤ 3
        · rw [if_neg (not_not_intro h4)] at h
          by_cases h5 : 20 < m.r.length
          · rw [if_pos h5] at h; cases h
          · rw [if_neg h5] at h
            exact ⟨h1, by omega, bad_all h⟩
        · rw [if_pos h4] at h; cases h
      · rw [if_pos h3] at h; cases h
    · rw [if_pos h2] at h; cases h
  · rw [if_pos h1] at h; cases h
theorem fault_bad {m : RM} {r : RRule} (h : r ∈ m.r) (k : isRule m r = false) : faultD m ≠ .non := fun e => by
  rw [(fault_of e).2.2 r h] at k
  cases k
theorem fault_long {m : RM} (h : 20 < m.r.length) : faultD m ≠ .non := fun e => by
  have := (fault_of e).2.1
  omega
/-! ### the calls -/
section
variable {cF cW cU : Addr} {M : Mu} {xw : XW} {b pb pa : Addr} {bh ah : List D} {m : RM}
structure Ben (cW : Addr) (M : Mu) (b : Addr) (m : RM) (bh ah : List D) : Prop where
  ex : ∃ pb pa, Bch cW M b pb pa (rmD m) ∧ M pb = some (.lst bh) ∧ M pa = some (.lst ah) ∧ pb ≠ pa
theorem init_call {x : Addr} {Q : Mu → Prop} (hx : M x = none) (hm : m.ok) (hf : faultD m = .non) (k : ∀ M', Ben cW M' x m [] [] → Q M') :
    CallS (S_Workbench____init__ cF cW) [.loc x, rmD m, .lst []] (mset M x (.ins cW [])) xw (.mk : Ky fun d M2 => d = .non ∧ Q M2) := by
  refine ⟨x, m, _, rfl, .inl rfl, sf, hm, .inr ⟨rfl, hf, fun p q hp hq ne => ⟨rfl, k _ ⟨p, q, sf, ?_, ?_, Ne.symm ne⟩⟩⟩⟩
  · have h1 : p ≠ x := fun e => by rw [e, sf] at hp; cases hp
    rw [mset_ne h1, mset_ne (Ne.symm ne), sf]
  · have h1 : q ≠ x := fun e => by rw [e, sf] at hq; cases hq
    rw [mset_ne h1, sf]
theorem add_call {r : RRule} {Q : D → Mu → Prop} (h : Ben cW M b m bh ah) (hl : bh.length < sizeLine) (hr : m.r.length < sizeLine) (ok0 : m.ok) (ok1 : RM.ok ⟨m.m, m.c, m.q, m.l, m.r ++ [r]⟩) (hf : faultD ⟨m.m, m.c, m.q, m.l, m.r ++ [r]⟩ = .non)
    (k : ∀ M', Ben cW M' b ⟨m.m, m.c, m.q, m.l, m.r ++ [r]⟩ (bh ++ [rmD m]) [] → Q .non M') : CallS (S_Workbench__add_rule cF cW) [.loc b, rrD r] M xw (.mk : Ky Q) := by
  obtain ⟨pb, pa, hb, h1, h2, ne⟩ := h.ex
  have nb : b ≠ pb := fun e => by rw [← e] at h1; rw [show M b = _ from hb] at h1; cases h1
  refine ⟨b, pb, pa, m, r, rfl, hb, hr, b, pb, pa, bh, m.m, m.c, m.q, m.l, m.r, _, rfl, hb, h1, hl, ok0, ok1, .inr ⟨hf, fun p hp => k _ ⟨pb, p, sf, ?_, ?_, ?_⟩⟩⟩
  · have h3 : pb ≠ p := fun e => by rw [← e, h1] at hp; cases hp
    rw [mset_ne (Ne.symm nb), mset_ne h3, sf]
  · have h3 : p ≠ b := fun e => by rw [e, show M b = _ from hb] at hp; cases hp
    rw [mset_ne h3, sf]
  · exact fun e => by rw [← e, h1] at hp; cases hp
theorem undo_none {Q : D → Mu → Prop} (h : Ben cW M b m [] ah) (hl : ah.length < sizeLine) (ok0 : m.ok) (k : Q (.bl false) M) : CallS (S_Workbench__undo cW) [.loc b] M xw (.mk : Ky Q) := by
  obtain ⟨pb, pa, hb, h1, h2, ne⟩ := h.ex
  exact ⟨b, pb, pa, m, [], ah, rfl, hb, h1, h2, ne, hl, ok0, .inl ⟨rfl, k⟩⟩
theorem undo_one {m1 : RM} {Q : D → Mu → Prop} (h : Ben cW M b m [rmD m1] ah) (hl : ah.length < sizeLine) (ok0 : m.ok) (ok1 : m1.ok) (k : ∀ M', Ben cW M' b m1 [] (ah ++ [rmD m]) → Q (.bl true) M') : CallS (S_Workbench__undo cW) [.loc b] M xw (.mk : Ky Q) := by
  obtain ⟨pb, pa, hb, h1, h2, ne⟩ := h.ex
  have nb : pb ≠ b := fun e => by rw [e] at h1; rw [show M b = _ from hb] at h1; cases h1
  have na : pa ≠ b := fun e => by rw [e] at h2; rw [show M b = _ from hb] at h2; cases h2
  refine ⟨b, pb, pa, m, _, ah, rfl, hb, h1, h2, ne, hl, ok0, .inr ⟨m1, ok1, rfl, k _ ⟨pb, pa, sf, ?_, ?_, ne⟩⟩⟩
  · rw [mset_ne nb, sf]
  · rw [mset_ne na, mset_ne (Ne.symm ne), sf]
theorem redo_one {m1 : RM} {Q : D → Mu → Prop} (h : Ben cW M b m bh [rmD m1]) (hl : bh.length < sizeLine) (ok0 : m.ok) (ok1 : m1.ok) (k : ∀ M', Q (.bl true) M') : CallS (S_Workbench__redo cW) [.loc b] M xw (.mk : Ky Q) := by
  obtain ⟨pb, pa, hb, h1, h2, ne⟩ := h.ex
  exact ⟨b, pb, pa, m, bh, _, rfl, hb, h1, h2, ne, hl, ok0, .inr ⟨m1, ok1, rfl, k _⟩⟩
/-- o.m(..) of a bench -/
theorem Ben.at (h : Ben cW M b m bh ah) : ∃ pb pa, M b = some (.ins cW (fldB (rmD m) (.lst []) pb pa)) := let ⟨pb, pa, h, _⟩ := h.ex; ⟨pb, pa, h⟩
end
/-! ### told -/
def S_ltold (cW : Addr) : FSpec := fun ds M Q _ => ∃ (b : Addr) (c : Int) (v : D), ds = [.loc b, .int c, v] ∧ Q (.bl true) M ∧
  ((c = 0 ∧ ∃ (m : RM) (X : D), v = .tup [.int m.m, .int m.c, .int m.q, .int m.l, X] ∧ (X = .tup (m.r.map rrD) ∨ X = .lst (m.r.map rrD)) ∧ m.ok ∧ faultD m ≠ .non) ∨
   (c = 1 ∧ ∃ (m : RM) (r : RRule) (bh ah : List D), v = rrD r ∧ Ben cW M b m bh ah ∧ bh.length < sizeLine ∧ m.r.length < sizeLine ∧ m.ok ∧ r.ok ∧ faultD ⟨m.m, m.c, m.q, m.l, m.r ++ [r]⟩ ≠ .non) ∨
   (c = 2 ∧ ∃ (m : RM) (n : Int) (bh ah : List D), v = .int n ∧ Ben cW M b m bh ah ∧ ¬ (0 ≤ n ∧ n < m.r.length)))
theorem b_ltold {cF cU cW : Addr} (ds : List D) (M : Mu) (Q : D → Mu → Prop) (xw : XW) (h : S_ltold cW ds M Q xw) :
    zh N_ltold (f_ltold (S_Workbench____init__ cF cW) (S_Workbench__add_rule cF cW) (S_Workbench__drop_rule cW cU cF) cF cU cW) ds M Q xw := by
  obtain ⟨b, c, v, rfl, q, h⟩ := h
  simp only [zh, bodyL, zi, N_ltold, List.map_cons, List.map_nil, List.length_cons, List.length_nil, List.replicate_succ, List.replicate_zero, List.cons_append, List.nil_append, Nat.reduceAdd, Nat.reduceSub]
  unfold f_ltold
  try simp -dsimp only [↓za,↓zb,↓zc,↓zd,↓ze,↓zf,↓zg,zh,zi,List.map_cons,List.map_nil,List.length_cons,List.length_nil,List.replicate_succ,List.replicate_zero,List.cons_append,List.nil_append,Nat.reduceAdd,Nat.reduceSub,List.set_cons_zero,List.set_cons_succ,List.getElem?_cons_zero,List.getElem?_cons_succ,Bool.not_true,Bool.not_false,decide_true,decide_false,↓zj,↓zk,↓zl,↓zm,↓zn,↓zo,↓zp,↓zq,↓zr,↓zt,↓zu,↓zv,zj,zk,zl,zm,zn,zo,zp,zq,zr,zt,zu,zv,↓zw,↓zx,↓zy,↓zz,↓z9,↓ya,↓yb,↓yc,↓yd,↓ye,↓yf,↓yg,↓yh,↓yi,↓yj,↓yk,↓yl,↓ym,↓yn,↓yo,↓yp,↓eC,↓yq,↓eB,↓yr,↓yt,↓yu,↓yw,↓yx,↓yy,↓yz,↓y5,↓y6,↓y8,↓y9,↓xa,↓xb,↓xc,↓xg,↓xh,↓xi,↓xj,↓xk,↓xl,↓xm,↓xn,↓xo,↓xp,↓xq,↓xr,↓xt,↓xu,↓xy,↓xz,↓x5,↓x6,↓x7,↓x8,↓x9,↓wa,↓wb,↓wc,↓wd,↓we,↓wf,↓wg,↓wh,↓wj,↓wl,↓wm,↓wn,↓wo,↓wp,↓wq,↓wt,↓wu,wv,ww,wx,wy,wz,w3,w4,↓x9,↓wa,↓w6,↓x8,↓w7,↓w8,↓w9,va,vb,↓vc,↓vd,↓vf,↓vg,↓vh,↓vi,↓vj,↓vk,↓vm,↓vn,↓vo,↓vp,↓vq,↓vt,↓vv,↓vw,↓vx,↓vy,↓vz,↓v0,↓v3,↓v4,↓v5,↓v7,↓v8,↓v9,↓ua,↓ub,↓uc,↓ud,↓ue,↓uf,↓ug,↓uh,ui,uj,uk,ul,um,uo,uq,ur,ut,uu,uv,uw,ux,uy,uz,u2,u3,u5,u6,u7,u8,Option.bind_some,u9,tj,tm,tq,tv,tw,tz,t3,t8,t9,sf,true_and,beq_self_eq_true,Bool.false_eq_true,c0,c1,Int.cast_ofNat_Int,Int.reduceEq,Int.reduceLT,Int.reduceLE,Int.reduceAdd,Int.reduceSub,↓reduceIte, eTry2]
  rcases h with ⟨rfl, m, X, rfl, hX, ok, hf⟩ | ⟨rfl, m, r, bh, ah, rfl, hB, hl, hr, ok0, ok1, hf⟩ | ⟨rfl, m, n, bh, ah, rfl, hB, hn⟩
  · try simp -dsimp only [↓za,↓zb,↓zc,↓zd,↓ze,↓zf,↓zg,zh,zi,List.map_cons,List.map_nil,List.length_cons,List.length_nil,List.replicate_succ,List.replicate_zero,List.cons_append,List.nil_append,Nat.reduceAdd,Nat.reduceSub,List.set_cons_zero,List.set_cons_succ,List.getElem?_cons_zero,List.getElem?_cons_succ,Bool.not_true,Bool.not_false,decide_true,decide_false,↓zj,↓zk,↓zl,↓zm,↓zn,↓zo,↓zp,↓zq,↓zr,↓zt,↓zu,↓zv,zj,zk,zl,zm,zn,zo,zp,zq,zr,zt,zu,zv,↓zw,↓zx,↓zy,↓zz,↓z9,↓ya,↓yb,↓yc,↓yd,↓ye,↓yf,↓yg,↓yh,↓yi,↓yj,↓yk,↓yl,↓ym,↓yn,↓yo,↓yp,↓eC,↓yq,↓eB,↓yr,↓yt,↓yu,↓yw,↓yx,↓yy,↓yz,↓y5,↓y6,↓y8,↓y9,↓xa,↓xb,↓xc,↓xg,↓xh,↓xi,↓xj,↓xk,↓xl,↓xm,↓xn,↓xo,↓xp,↓xq,↓xr,↓xt,↓xu,↓xy,↓xz,↓x5,↓x6,↓x7,↓x8,↓x9,↓wa,↓wb,↓wc,↓wd,↓we,↓wf,↓wg,↓wh,↓wj,↓wl,↓wm,↓wn,↓wo,↓wp,↓wq,↓wt,↓wu,wv,ww,wx,wy,wz,w3,w4,↓x9,↓wa,↓w6,↓x8,↓w7,↓w8,↓w9,va,vb,↓vc,↓vd,↓vf,↓vg,↓vh,↓vi,↓vj,↓vk,↓vm,↓vn,↓vo,↓vp,↓vq,↓vt,↓vv,↓vw,↓vx,↓vy,↓vz,↓v0,↓v3,↓v4,↓v5,↓v7,↓v8,↓v9,↓ua,↓ub,↓uc,↓ud,↓ue,↓uf,↓ug,↓uh,ui,uj,uk,ul,um,uo,uq,ur,ut,uu,uv,uw,ux,uy,uz,u2,u3,u5,u6,u7,u8,Option.bind_some,u9,tj,tm,tq,tv,tw,tz,t3,t8,t9,sf,true_and,beq_self_eq_true,Bool.false_eq_true,c0,c1,Int.cast_ofNat_Int,Int.reduceEq,Int.reduceLT,Int.reduceLE,Int.reduceAdd,Int.reduceSub,↓reduceIte, eMake]
    refine ⟨by decide, fun x hx => ⟨x, m, X, rfl, hX, sf, ok, .inl ⟨hf, 0, rfl, .inl ⟨rfl, ?_⟩⟩⟩⟩
    rw [mres_mset hx, mres_self]
    exact q
  · obtain ⟨pb, pa, hb, h1, h2, ne⟩ := hB.ex
    have hb' : M b = some (.ins cW (fldB (rmD m) (.lst []) pb pa)) := hb
    try simp -dsimp only [↓za,↓zb,↓zc,↓zd,↓ze,↓zf,↓zg,zh,zi,List.map_cons,List.map_nil,List.length_cons,List.length_nil,List.replicate_succ,List.replicate_zero,List.cons_append,List.nil_append,Nat.reduceAdd,Nat.reduceSub,List.set_cons_zero,List.set_cons_succ,List.getElem?_cons_zero,List.getElem?_cons_succ,Bool.not_true,Bool.not_false,decide_true,decide_false,↓zj,↓zk,↓zl,↓zm,↓zn,↓zo,↓zp,↓zq,↓zr,↓zt,↓zu,↓zv,zj,zk,zl,zm,zn,zo,zp,zq,zr,zt,zu,zv,↓zw,↓zx,↓zy,↓zz,↓z9,↓ya,↓yb,↓yc,↓yd,↓ye,↓yf,↓yg,↓yh,↓yi,↓yj,↓yk,↓yl,↓ym,↓yn,↓yo,↓yp,↓eC,↓yq,↓eB,↓yr,↓yt,↓yu,↓yw,↓yx,↓yy,↓yz,↓y5,↓y6,↓y8,↓y9,↓xa,↓xb,↓xc,↓xg,↓xh,↓xi,↓xj,↓xk,↓xl,↓xm,↓xn,↓xo,↓xp,↓xq,↓xr,↓xt,↓xu,↓xy,↓xz,↓x5,↓x6,↓x7,↓x8,↓x9,↓wa,↓wb,↓wc,↓wd,↓we,↓wf,↓wg,↓wh,↓wj,↓wl,↓wm,↓wn,↓wo,↓wp,↓wq,↓wt,↓wu,wv,ww,wx,wy,wz,w3,w4,↓x9,↓wa,↓w6,↓x8,↓w7,↓w8,↓w9,va,vb,↓vc,↓vd,↓vf,↓vg,↓vh,↓vi,↓vj,↓vk,↓vm,↓vn,↓vo,↓vp,↓vq,↓vt,↓vv,↓vw,↓vx,↓vy,↓vz,↓v0,↓v3,↓v4,↓v5,↓v7,↓v8,↓v9,↓ua,↓ub,↓uc,↓ud,↓ue,↓uf,↓ug,↓uh,ui,uj,uk,ul,um,uo,uq,ur,ut,uu,uv,uw,ux,uy,uz,u2,u3,u5,u6,u7,u8,Option.bind_some,u9,tj,tm,tq,tv,tw,tz,t3,t8,t9,sf,true_and,beq_self_eq_true,Bool.false_eq_true,c0,c1,Int.cast_ofNat_Int,Int.reduceEq,Int.reduceLT,Int.reduceLE,Int.reduceAdd,Int.reduceSub,↓reduceIte, eMeth, hb', eq_self, lkAdd]
    refine ⟨b, pb, pa, m, r, rfl, hb, hr, b, pb, pa, bh, m.m, m.c, m.q, m.l, m.r, _, rfl, hb, h1, hl, ok0, ?_, .inl ⟨hf, 1, rfl, .inl ⟨rfl, ?_⟩⟩⟩
    · intro x hx
      rcases List.mem_append.mp hx with hx | hx
      · exact ok0 x hx
      · rw [List.mem_singleton.mp hx]; exact ok1
    · rw [mres_self]; exact q
  · obtain ⟨pb, pa, hb⟩ := hB.at
    try simp -dsimp only [↓za,↓zb,↓zc,↓zd,↓ze,↓zf,↓zg,zh,zi,List.map_cons,List.map_nil,List.length_cons,List.length_nil,List.replicate_succ,List.replicate_zero,List.cons_append,List.nil_append,Nat.reduceAdd,Nat.reduceSub,List.set_cons_zero,List.set_cons_succ,List.getElem?_cons_zero,List.getElem?_cons_succ,Bool.not_true,Bool.not_false,decide_true,decide_false,↓zj,↓zk,↓zl,↓zm,↓zn,↓zo,↓zp,↓zq,↓zr,↓zt,↓zu,↓zv,zj,zk,zl,zm,zn,zo,zp,zq,zr,zt,zu,zv,↓zw,↓zx,↓zy,↓zz,↓z9,↓ya,↓yb,↓yc,↓yd,↓ye,↓yf,↓yg,↓yh,↓yi,↓yj,↓yk,↓yl,↓ym,↓yn,↓yo,↓yp,↓eC,↓yq,↓eB,↓yr,↓yt,↓yu,↓yw,↓yx,↓yy,↓yz,↓y5,↓y6,↓y8,↓y9,↓xa,↓xb,↓xc,↓xg,↓xh,↓xi,↓xj,↓xk,↓xl,↓xm,↓xn,↓xo,↓xp,↓xq,↓xr,↓xt,↓xu,↓xy,↓xz,↓x5,↓x6,↓x7,↓x8,↓x9,↓wa,↓wb,↓wc,↓wd,↓we,↓wf,↓wg,↓wh,↓wj,↓wl,↓wm,↓wn,↓wo,↓wp,↓wq,↓wt,↓wu,wv,ww,wx,wy,wz,w3,w4,↓x9,↓wa,↓w6,↓x8,↓w7,↓w8,↓w9,va,vb,↓vc,↓vd,↓vf,↓vg,↓vh,↓vi,↓vj,↓vk,↓vm,↓vn,↓vo,↓vp,↓vq,↓vt,↓vv,↓vw,↓vx,↓vy,↓vz,↓v0,↓v3,↓v4,↓v5,↓v7,↓v8,↓v9,↓ua,↓ub,↓uc,↓ud,↓ue,↓uf,↓ug,↓uh,ui,uj,uk,ul,um,uo,uq,ur,ut,uu,uv,uw,ux,uy,uz,u2,u3,u5,u6,u7,u8,Option.bind_some,u9,tj,tm,tq,tv,tw,tz,t3,t8,t9,sf,true_and,beq_self_eq_true,Bool.false_eq_true,c0,c1,Int.cast_ofNat_Int,Int.reduceEq,Int.reduceLT,Int.reduceLE,Int.reduceAdd,Int.reduceSub,↓reduceIte, eMeth, hb, eq_self, lkDrp]
    refine ⟨b, pb, pa, m, n, rfl, hb, hn, 2, rfl, .inr ⟨rfl, ?_⟩⟩
    rw [mres_self]
    exact q

/-! ### the law -/
theorem cutA {a b c d e f : D} : cutD [a, b, c, d, e, f] (some 1) none = [b, c, d, e, f] := rfl
theorem cutB {a b c d e f : D} : cutD [a, b, c, d, e, f] none (some 5) = [a, b, c, d, e] := rfl
theorem cutC {a b c d e f : D} : cutD [a, b, c, d, e, f] none (some 1) = [a] := rfl
theorem cutE {a b c d e f : D} : cutD [a, b, c, d, e, f] (some 2) none = [c, d, e, f] := rfl
theorem cutF {a b c d e : D} : cutD [a, b, c, d, e] (some 1) none = [b, c, d, e] := rfl
theorem cutG {a b c d : D} : cutD [a, b, c, d] (some 2) (some 3) = [c] := rfl
theorem ml_raw (m : Mch) : mchD m = .tup [.int m.s.m, .int m.s.c, .int m.s.q, .int m.s.l, .tup ((m.r.map Rule.raw).map rrD)] := by rw [mch_raw]; rfl
theorem okM_up {k k' : Int} {m : Mch} (h : okM k m) (e : k ≤ k') : okM k' m := ⟨h.1, by have := h.2.1; omega, h.2.2⟩
/-- the loops over what is told -/
theorem forS_told {cW : Addr} {E : FEnds} {b : Addr} {c : Int} {m : RM} {bh ah : List D} {xs : List D} {M : Mu} {o0 o1 o3 o4 o6 o7 o8 o9 o10 : Option D} (hB : Ben cW M b m bh ah) (hm : m.ok) (ht : ∀ v ∈ xs, ∀ (M0 : Mu) (Q : D → Mu → Prop) (xw : XW), M0 = M → Q (.bl true) M0 → S_ltold cW [.loc b, .int c, v] M0 Q xw)
    (done : ∀ o, E.nx [o0, o1, some (rmD m), o3, o4, some (.loc b), o6, o7, o, o9, o10] M) :
    ForS (bNm 8) (fIfS (fOr (fNot (fTr (fCall (S_ltold cW) (fCons (fNm 5) (fCons (fC (.int c)) (fCons (fNm 8) fNil)))))) (fB (fOp gNe (fMeth cW "machine" (S_Workbench__machine cW) (fNm 5) fNil) (fNm 2)))) (fRet (fC (.bl false))) fPass) xs (.mk : Ky E) [o0, o1, some (rmD m), o3, o4, some (.loc b), o6, o7, o8, o9, o10] M := by
  obtain ⟨pb, pa, hb⟩ := hB.at
  have hd := dle_rm hm
  have he := eqD_refl (rmD m)
  generalize hm0 : rmD m = D0 at *
  have r0 : rsv M D0 = D0 := by rw [← hm0]; rfl
  rw [show xs = xs.map id from (List.map_id _).symm]
  refine forS_chk (enc := id) (fun _ => true) ⟨_, rfl⟩ (fun x hx nn cc hn => ?_) fun _ o => done o
  have hn := hn rfl
  simp only [List.set_cons_zero, List.set_cons_succ, id] at hn ⊢
  try simp -dsimp only [↓za,↓zb,↓zc,↓zd,↓ze,↓zf,↓zg,zh,zi,List.map_cons,List.map_nil,List.length_cons,List.length_nil,List.replicate_succ,List.replicate_zero,List.cons_append,List.nil_append,Nat.reduceAdd,Nat.reduceSub,List.set_cons_zero,List.set_cons_succ,List.getElem?_cons_zero,List.getElem?_cons_succ,Bool.not_true,Bool.not_false,decide_true,decide_false,↓zj,↓zk,↓zl,↓zm,↓zn,↓zo,↓zp,↓zq,↓zr,↓zt,↓zu,↓zv,zj,zk,zl,zm,zn,zo,zp,zq,zr,zt,zu,zv,↓zw,↓zx,↓zy,↓zz,↓z9,↓ya,↓yb,↓yc,↓yd,↓ye,↓yf,↓yg,↓yh,↓yi,↓yj,↓yk,↓yl,↓ym,↓yn,↓yo,↓yp,↓eC,↓yq,↓eB,↓yr,↓yt,↓yu,↓yw,↓yx,↓yy,↓yz,↓y5,↓y6,↓y8,↓y9,↓xa,↓xb,↓xc,↓xg,↓xh,↓xi,↓xj,↓xk,↓xl,↓xm,↓xn,↓xo,↓xp,↓xq,↓xr,↓xt,↓xu,↓xy,↓xz,↓x5,↓x6,↓x7,↓x8,↓x9,↓wa,↓wb,↓wc,↓wd,↓we,↓wf,↓wg,↓wh,↓wj,↓wl,↓wm,↓wn,↓wo,↓wp,↓wq,↓wt,↓wu,wv,ww,wx,wy,wz,w3,w4,↓x9,↓wa,↓w6,↓x8,↓w7,↓w8,↓w9,va,vb,↓vc,↓vd,↓vf,↓vg,↓vh,↓vi,↓vj,↓vk,↓vm,↓vn,↓vo,↓vp,↓vq,↓vt,↓vv,↓vw,↓vx,↓vy,↓vz,↓v0,↓v3,↓v4,↓v5,↓v7,↓v8,↓v9,↓ua,↓ub,↓uc,↓ud,↓ue,↓uf,↓ug,↓uh,ui,uj,uk,ul,um,uo,uq,ur,ut,uu,uv,uw,ux,uy,uz,u2,u3,u5,u6,u7,u8,Option.bind_some,u9,tj,tm,tq,tv,tw,tz,t3,t8,t9,sf,true_and,beq_self_eq_true,Bool.false_eq_true,c0,c1,Int.cast_ofNat_Int,Int.reduceEq,Int.reduceLT,Int.reduceLE,Int.reduceAdd,Int.reduceSub,↓reduceIte]
  refine ht x hx _ _ _ rfl ?_
  try simp -dsimp only [↓za,↓zb,↓zc,↓zd,↓ze,↓zf,↓zg,zh,zi,List.map_cons,List.map_nil,List.length_cons,List.length_nil,List.replicate_succ,List.replicate_zero,List.cons_append,List.nil_append,Nat.reduceAdd,Nat.reduceSub,List.set_cons_zero,List.set_cons_succ,List.getElem?_cons_zero,List.getElem?_cons_succ,Bool.not_true,Bool.not_false,decide_true,decide_false,↓zj,↓zk,↓zl,↓zm,↓zn,↓zo,↓zp,↓zq,↓zr,↓zt,↓zu,↓zv,zj,zk,zl,zm,zn,zo,zp,zq,zr,zt,zu,zv,↓zw,↓zx,↓zy,↓zz,↓z9,↓ya,↓yb,↓yc,↓yd,↓ye,↓yf,↓yg,↓yh,↓yi,↓yj,↓yk,↓yl,↓ym,↓yn,↓yo,↓yp,↓eC,↓yq,↓eB,↓yr,↓yt,↓yu,↓yw,↓yx,↓yy,↓yz,↓y5,↓y6,↓y8,↓y9,↓xa,↓xb,↓xc,↓xg,↓xh,↓xi,↓xj,↓xk,↓xl,↓xm,↓xn,↓xo,↓xp,↓xq,↓xr,↓xt,↓xu,↓xy,↓xz,↓x5,↓x6,↓x7,↓x8,↓x9,↓wa,↓wb,↓wc,↓wd,↓we,↓wf,↓wg,↓wh,↓wj,↓wl,↓wm,↓wn,↓wo,↓wp,↓wq,↓wt,↓wu,wv,ww,wx,wy,wz,w3,w4,↓x9,↓wa,↓w6,↓x8,↓w7,↓w8,↓w9,va,vb,↓vc,↓vd,↓vf,↓vg,↓vh,↓vi,↓vj,↓vk,↓vm,↓vn,↓vo,↓vp,↓vq,↓vt,↓vv,↓vw,↓vx,↓vy,↓vz,↓v0,↓v3,↓v4,↓v5,↓v7,↓v8,↓v9,↓ua,↓ub,↓uc,↓ud,↓ue,↓uf,↓ug,↓uh,ui,uj,uk,ul,um,uo,uq,ur,ut,uu,uv,uw,ux,uy,uz,u2,u3,u5,u6,u7,u8,Option.bind_some,u9,tj,tm,tq,tv,tw,tz,t3,t8,t9,sf,true_and,beq_self_eq_true,Bool.false_eq_true,c0,c1,Int.cast_ofNat_Int,Int.reduceEq,Int.reduceLT,Int.reduceLE,Int.reduceAdd,Int.reduceSub,↓reduceIte, eMeth, hb, eq_self, lkMch]
  refine ⟨b, pb, pa, _, rfl, hb, ?_⟩
  try simp -dsimp only [↓za,↓zb,↓zc,↓zd,↓ze,↓zf,↓zg,zh,zi,List.map_cons,List.map_nil,List.length_cons,List.length_nil,List.replicate_succ,List.replicate_zero,List.cons_append,List.nil_append,Nat.reduceAdd,Nat.reduceSub,List.set_cons_zero,List.set_cons_succ,List.getElem?_cons_zero,List.getElem?_cons_succ,Bool.not_true,Bool.not_false,decide_true,decide_false,↓zj,↓zk,↓zl,↓zm,↓zn,↓zo,↓zp,↓zq,↓zr,↓zt,↓zu,↓zv,zj,zk,zl,zm,zn,zo,zp,zq,zr,zt,zu,zv,↓zw,↓zx,↓zy,↓zz,↓z9,↓ya,↓yb,↓yc,↓yd,↓ye,↓yf,↓yg,↓yh,↓yi,↓yj,↓yk,↓yl,↓ym,↓yn,↓yo,↓yp,↓eC,↓yq,↓eB,↓yr,↓yt,↓yu,↓yw,↓yx,↓yy,↓yz,↓y5,↓y6,↓y8,↓y9,↓xa,↓xb,↓xc,↓xg,↓xh,↓xi,↓xj,↓xk,↓xl,↓xm,↓xn,↓xo,↓xp,↓xq,↓xr,↓xt,↓xu,↓xy,↓xz,↓x5,↓x6,↓x7,↓x8,↓x9,↓wa,↓wb,↓wc,↓wd,↓we,↓wf,↓wg,↓wh,↓wj,↓wl,↓wm,↓wn,↓wo,↓wp,↓wq,↓wt,↓wu,wv,ww,wx,wy,wz,w3,w4,↓x9,↓wa,↓w6,↓x8,↓w7,↓w8,↓w9,va,vb,↓vc,↓vd,↓vf,↓vg,↓vh,↓vi,↓vj,↓vk,↓vm,↓vn,↓vo,↓vp,↓vq,↓vt,↓vv,↓vw,↓vx,↓vy,↓vz,↓v0,↓v3,↓v4,↓v5,↓v7,↓v8,↓v9,↓ua,↓ub,↓uc,↓ud,↓ue,↓uf,↓ug,↓uh,ui,uj,uk,ul,um,uo,uq,ur,ut,uu,uv,uw,ux,uy,uz,u2,u3,u5,u6,u7,u8,Option.bind_some,u9,tj,tm,tq,tv,tw,tz,t3,t8,t9,sf,true_and,beq_self_eq_true,Bool.false_eq_true,c0,c1,Int.cast_ofNat_Int,Int.reduceEq,Int.reduceLT,Int.reduceLE,Int.reduceAdd,Int.reduceSub,↓reduceIte, r0, he]
  exact ⟨hd, hd, hn⟩
theorem b_law {cF cW cI cE cT cU : Addr} (ds : List D) (M : Mu) (Q : D → Mu → Prop) (xw : XW) (h : S_law ds M Q xw) :
    zh N_law (f_law S_lmachine S_lrule (S_Workbench____init__ cF cW) (S_Workbench__add_rule cF cW) (S_Workbench__undo cW) (S_ltold cW) (S_Workbench__machine cW) (S_Workbench__redo cW) cF cW cI cE cT cU) ds M Q xw := by
  obtain ⟨ns, rfl, post⟩ := h
  have hsz : sizeLine = 16777216 := rfl
  simp only [zh, bodyL, zi, N_law, List.map_cons, List.map_nil, List.length_cons, List.length_nil, List.replicate_succ, List.replicate_zero, List.cons_append, List.nil_append, Nat.reduceAdd, Nat.reduceSub]
  unfold f_law
  try simp -dsimp only [↓za,↓zb,↓zc,↓zd,↓ze,↓zf,↓zg,zh,zi,List.map_cons,List.map_nil,List.length_cons,List.length_nil,List.replicate_succ,List.replicate_zero,List.cons_append,List.nil_append,Nat.reduceAdd,Nat.reduceSub,List.set_cons_zero,List.set_cons_succ,List.getElem?_cons_zero,List.getElem?_cons_succ,Bool.not_true,Bool.not_false,decide_true,decide_false,↓zj,↓zk,↓zl,↓zm,↓zn,↓zo,↓zp,↓zq,↓zr,↓zt,↓zu,↓zv,zj,zk,zl,zm,zn,zo,zp,zq,zr,zt,zu,zv,↓zw,↓zx,↓zy,↓zz,↓z9,↓ya,↓yb,↓yc,↓yd,↓ye,↓yf,↓yg,↓yh,↓yi,↓yj,↓yk,↓yl,↓ym,↓yn,↓yo,↓yp,↓eC,↓yq,↓eB,↓yr,↓yt,↓yu,↓yw,↓yx,↓yy,↓yz,↓y5,↓y6,↓y8,↓y9,↓xa,↓xb,↓xc,↓xg,↓xh,↓xi,↓xj,↓xk,↓xl,↓xm,↓xn,↓xo,↓xp,↓xq,↓xr,↓xt,↓xu,↓xy,↓xz,↓x5,↓x6,↓x7,↓x8,↓x9,↓wa,↓wb,↓wc,↓wd,↓we,↓wf,↓wg,↓wh,↓wj,↓wl,↓wm,↓wn,↓wo,↓wp,↓wq,↓wt,↓wu,wv,ww,wx,wy,wz,w3,w4,↓x9,↓wa,↓w6,↓x8,↓w7,↓w8,↓w9,va,vb,↓vc,↓vd,↓vf,↓vg,↓vh,↓vi,↓vj,↓vk,↓vm,↓vn,↓vo,↓vp,↓vq,↓vt,↓vv,↓vw,↓vx,↓vy,↓vz,↓v0,↓v3,↓v4,↓v5,↓v7,↓v8,↓v9,↓ua,↓ub,↓uc,↓ud,↓ue,↓uf,↓ug,↓uh,ui,uj,uk,ul,um,uo,uq,ur,ut,uu,uv,uw,ux,uy,uz,u2,u3,u5,u6,u7,u8,Option.bind_some,u9,tj,tm,tq,tv,tw,tz,t3,t8,t9,sf,true_and,beq_self_eq_true,Bool.false_eq_true,c0,c1,Int.cast_ofNat_Int,Int.reduceEq,Int.reduceLT,Int.reduceLE,Int.reduceAdd,Int.reduceSub,↓reduceIte]
  refine ⟨by decide, fun p hp _ => ?_⟩
  have st : IsSt (mset M p (.lst [.int 0, .int 0, .lst (ns.map .int), .int 1])) p := ⟨0, 0, 1, _, sf, by decide, fun d hd => by
    obtain ⟨i, _, rfl⟩ := List.mem_map.mp hd
    exact ⟨i, rfl⟩⟩
  refine machine_call st (by decide) (by decide) fun M1 m hm s1 => ?_
  rw [ml_raw]
  try simp -dsimp only [↓za,↓zb,↓zc,↓zd,↓ze,↓zf,↓zg,zh,zi,List.map_cons,List.map_nil,List.length_cons,List.length_nil,List.replicate_succ,List.replicate_zero,List.cons_append,List.nil_append,Nat.reduceAdd,Nat.reduceSub,List.set_cons_zero,List.set_cons_succ,List.getElem?_cons_zero,List.getElem?_cons_succ,Bool.not_true,Bool.not_false,decide_true,decide_false,↓zj,↓zk,↓zl,↓zm,↓zn,↓zo,↓zp,↓zq,↓zr,↓zt,↓zu,↓zv,zj,zk,zl,zm,zn,zo,zp,zq,zr,zt,zu,zv,↓zw,↓zx,↓zy,↓zz,↓z9,↓ya,↓yb,↓yc,↓yd,↓ye,↓yf,↓yg,↓yh,↓yi,↓yj,↓yk,↓yl,↓ym,↓yn,↓yo,↓yp,↓eC,↓yq,↓eB,↓yr,↓yt,↓yu,↓yw,↓yx,↓yy,↓yz,↓y5,↓y6,↓y8,↓y9,↓xa,↓xb,↓xc,↓xg,↓xh,↓xi,↓xj,↓xk,↓xl,↓xm,↓xn,↓xo,↓xp,↓xq,↓xr,↓xt,↓xu,↓xy,↓xz,↓x5,↓x6,↓x7,↓x8,↓x9,↓wa,↓wb,↓wc,↓wd,↓we,↓wf,↓wg,↓wh,↓wj,↓wl,↓wm,↓wn,↓wo,↓wp,↓wq,↓wt,↓wu,wv,ww,wx,wy,wz,w3,w4,↓x9,↓wa,↓w6,↓x8,↓w7,↓w8,↓w9,va,vb,↓vc,↓vd,↓vf,↓vg,↓vh,↓vi,↓vj,↓vk,↓vm,↓vn,↓vo,↓vp,↓vq,↓vt,↓vv,↓vw,↓vx,↓vy,↓vz,↓v0,↓v3,↓v4,↓v5,↓v7,↓v8,↓v9,↓ua,↓ub,↓uc,↓ud,↓ue,↓uf,↓ug,↓uh,ui,uj,uk,ul,um,uo,uq,ur,ut,uu,uv,uw,ux,uy,uz,u2,u3,u5,u6,u7,u8,Option.bind_some,u9,tj,tm,tq,tv,tw,tz,t3,t8,t9,sf,true_and,beq_self_eq_true,Bool.false_eq_true,c0,c1,Int.cast_ofNat_Int,Int.reduceEq,Int.reduceLT,Int.reduceLE,Int.reduceAdd,Int.reduceSub,↓reduceIte, cut4]
  refine rule_call s1.2 hm.1.wide fun M2 r hr s2 => ?_
  have ok4 : okM 4 ⟨m.s, m.r ++ [r]⟩ := ⟨hm.1, by show ((m.r ++ [r]).length : Int) ≤ 4; rw [List.length_append]; have := hm.2.1; simp only [List.length_cons, List.length_nil]; omega, fun x hx => by
    rcases List.mem_append.mp hx with hx | hx
    · exact hm.2.2 x hx
    · rw [List.mem_singleton.mp hx]; exact hr⟩
  have okm : RM.ok ⟨m.s.m, m.s.c, m.s.q, m.s.l, m.r.map Rule.raw⟩ := (mch_wd (okM_up hm (by decide))).ok
  obtain ⟨z1, z2, z3, z4, z5, z6, z7, z8⟩ := hm.1
  have okr : r.raw.ok := (rl_wd (k := 1000) hr (by omega) (by omega)).1
  have lr : (m.r.map Rule.raw).length ≤ 3 := by rw [List.length_map]; have := hm.2.1; omega
  have hgood : ∀ (X : List RRule), ∀ x ∈ m.r.map Rule.raw, isRule ⟨m.s.m, m.s.c, m.s.q, m.s.l, X⟩ x = true := fun X x hx => by
    obtain ⟨y, hy, rfl⟩ := List.mem_map.mp hx
    exact rule_ok (hm.2.2 y hy)
  have hgr : ∀ X : List RRule, isRule ⟨m.s.m, m.s.c, m.s.q, m.s.l, X⟩ r.raw = true := fun X => rule_ok hr
  have hf0 : ∀ rs : List RRule, rs.length ≤ 20 → (∀ x ∈ rs, x = r.raw ∨ x ∈ m.r.map Rule.raw) → faultD ⟨m.s.m, m.s.c, m.s.q, m.s.l, rs⟩ = .non := fun rs hl h => fault_ok hm.1 hl fun x hx => by
    rcases h x hx with rfl | h
    · exact hgr _
    · exact hgood _ x h
  have hnl : (r.raw.n.length : Int) = m.s.c := hr.2.1.1
  have hsc : m.s.c ≤ 1000 := by omega
  rw [rl_raw]
  have st2 := s2.2
  clear s1 st hgood hgr ok4 hm hr s2 z1 z2 z3 z4 z5 z6 z7 z8
  generalize r.raw = R at *
  generalize m.r.map Rule.raw = RS at *
  generalize m.s.m = sm at *
  generalize m.s.c = sc at *
  generalize m.s.q = sq at *
  generalize m.s.l = sl at *
  obtain ⟨a, n, pp, g, c, z⟩ := R
  have hno : ∀ x : RRule, x.c = c → x.ok := fun x e y hy => okr y (by rw [← e]; exact hy)
  have hnl : (n.length : Int) = sc := hnl
  generalize hm0 : ([.int sm, .int sc, .int sq, .int sl, .tup (RS.map rrD)] : List D) = mds
  rw [rr_mk]
  try simp -dsimp only [↓za,↓zb,↓zc,↓zd,↓ze,↓zf,↓zg,zh,zi,List.map_cons,List.map_nil,List.length_cons,List.length_nil,List.replicate_succ,List.replicate_zero,List.cons_append,List.nil_append,Nat.reduceAdd,Nat.reduceSub,List.set_cons_zero,List.set_cons_succ,List.getElem?_cons_zero,List.getElem?_cons_succ,Bool.not_true,Bool.not_false,decide_true,decide_false,↓zj,↓zk,↓zl,↓zm,↓zn,↓zo,↓zp,↓zq,↓zr,↓zt,↓zu,↓zv,zj,zk,zl,zm,zn,zo,zp,zq,zr,zt,zu,zv,↓zw,↓zx,↓zy,↓zz,↓z9,↓ya,↓yb,↓yc,↓yd,↓ye,↓yf,↓yg,↓yh,↓yi,↓yj,↓yk,↓yl,↓ym,↓yn,↓yo,↓yp,↓eC,↓yq,↓eB,↓yr,↓yt,↓yu,↓yw,↓yx,↓yy,↓yz,↓y5,↓y6,↓y8,↓y9,↓xa,↓xb,↓xc,↓xg,↓xh,↓xi,↓xj,↓xk,↓xl,↓xm,↓xn,↓xo,↓xp,↓xq,↓xr,↓xt,↓xu,↓xy,↓xz,↓x5,↓x6,↓x7,↓x8,↓x9,↓wa,↓wb,↓wc,↓wd,↓we,↓wf,↓wg,↓wh,↓wj,↓wl,↓wm,↓wn,↓wo,↓wp,↓wq,↓wt,↓wu,wv,ww,wx,wy,wz,w3,w4,↓x9,↓wa,↓w6,↓x8,↓w7,↓w8,↓w9,va,vb,↓vc,↓vd,↓vf,↓vg,↓vh,↓vi,↓vj,↓vk,↓vm,↓vn,↓vo,↓vp,↓vq,↓vt,↓vv,↓vw,↓vx,↓vy,↓vz,↓v0,↓v3,↓v4,↓v5,↓v7,↓v8,↓v9,↓ua,↓ub,↓uc,↓ud,↓ue,↓uf,↓ug,↓uh,ui,uj,uk,ul,um,uo,uq,ur,ut,uu,uv,uw,ux,uy,uz,u2,u3,u5,u6,u7,u8,Option.bind_some,u9,tj,tm,tq,tv,tw,tz,t3,t8,t9,sf,true_and,beq_self_eq_true,Bool.false_eq_true,c0,c1,Int.cast_ofNat_Int,Int.reduceEq,Int.reduceLT,Int.reduceLE,Int.reduceAdd,Int.reduceSub,↓reduceIte, eMake]
  refine ⟨by decide, fun b hb => ?_⟩
  rw [← hm0]
  refine init_call (m := ⟨sm, sc, sq, sl, RS⟩) hb okm (hf0 _ (by show RS.length ≤ 20; omega) fun x hx => .inr hx) fun M3 B3 => ?_
  obtain ⟨pb3, pa3, hb3⟩ := B3.at
  try simp -dsimp only [↓za,↓zb,↓zc,↓zd,↓ze,↓zf,↓zg,zh,zi,List.map_cons,List.map_nil,List.length_cons,List.length_nil,List.replicate_succ,List.replicate_zero,List.cons_append,List.nil_append,Nat.reduceAdd,Nat.reduceSub,List.set_cons_zero,List.set_cons_succ,List.getElem?_cons_zero,List.getElem?_cons_succ,Bool.not_true,Bool.not_false,decide_true,decide_false,↓zj,↓zk,↓zl,↓zm,↓zn,↓zo,↓zp,↓zq,↓zr,↓zt,↓zu,↓zv,zj,zk,zl,zm,zn,zo,zp,zq,zr,zt,zu,zv,↓zw,↓zx,↓zy,↓zz,↓z9,↓ya,↓yb,↓yc,↓yd,↓ye,↓yf,↓yg,↓yh,↓yi,↓yj,↓yk,↓yl,↓ym,↓yn,↓yo,↓yp,↓eC,↓yq,↓eB,↓yr,↓yt,↓yu,↓yw,↓yx,↓yy,↓yz,↓y5,↓y6,↓y8,↓y9,↓xa,↓xb,↓xc,↓xg,↓xh,↓xi,↓xj,↓xk,↓xl,↓xm,↓xn,↓xo,↓xp,↓xq,↓xr,↓xt,↓xu,↓xy,↓xz,↓x5,↓x6,↓x7,↓x8,↓x9,↓wa,↓wb,↓wc,↓wd,↓we,↓wf,↓wg,↓wh,↓wj,↓wl,↓wm,↓wn,↓wo,↓wp,↓wq,↓wt,↓wu,wv,ww,wx,wy,wz,w3,w4,↓x9,↓wa,↓w6,↓x8,↓w7,↓w8,↓w9,va,vb,↓vc,↓vd,↓vf,↓vg,↓vh,↓vi,↓vj,↓vk,↓vm,↓vn,↓vo,↓vp,↓vq,↓vt,↓vv,↓vw,↓vx,↓vy,↓vz,↓v0,↓v3,↓v4,↓v5,↓v7,↓v8,↓v9,↓ua,↓ub,↓uc,↓ud,↓ue,↓uf,↓ug,↓uh,ui,uj,uk,ul,um,uo,uq,ur,ut,uu,uv,uw,ux,uy,uz,u2,u3,u5,u6,u7,u8,Option.bind_some,u9,tj,tm,tq,tv,tw,tz,t3,t8,t9,sf,true_and,beq_self_eq_true,Bool.false_eq_true,c0,c1,Int.cast_ofNat_Int,Int.reduceEq,Int.reduceLT,Int.reduceLE,Int.reduceAdd,Int.reduceSub,↓reduceIte, eMeth, hb3, eq_self, lkAdd]
  have okm1 : RM.ok ⟨sm, sc, sq, sl, RS ++ [⟨a, n, pp, g, c, z⟩]⟩ := fun x hx => by
    rcases List.mem_append.mp hx with hx | hx
    · exact okm x hx
    · rw [List.mem_singleton.mp hx]; exact okr
  refine add_call (m := ⟨sm, sc, sq, sl, RS⟩) (r := ⟨a, n, pp, g, c, z⟩) B3 (by decide) (by show RS.length < _; omega) okm okm1 (hf0 _ (by rw [List.length_append]; show RS.length + 1 ≤ 20; omega) fun x hx => ?_) fun M4 B4 => ?_
  · rcases List.mem_append.mp hx with hx | hx
    · exact .inr hx
    · exact .inl (List.mem_singleton.mp hx)
  obtain ⟨pb4, pa4, hb4⟩ := B4.at
  try simp -dsimp only [↓za,↓zb,↓zc,↓zd,↓ze,↓zf,↓zg,zh,zi,List.map_cons,List.map_nil,List.length_cons,List.length_nil,List.replicate_succ,List.replicate_zero,List.cons_append,List.nil_append,Nat.reduceAdd,Nat.reduceSub,List.set_cons_zero,List.set_cons_succ,List.getElem?_cons_zero,List.getElem?_cons_succ,Bool.not_true,Bool.not_false,decide_true,decide_false,↓zj,↓zk,↓zl,↓zm,↓zn,↓zo,↓zp,↓zq,↓zr,↓zt,↓zu,↓zv,zj,zk,zl,zm,zn,zo,zp,zq,zr,zt,zu,zv,↓zw,↓zx,↓zy,↓zz,↓z9,↓ya,↓yb,↓yc,↓yd,↓ye,↓yf,↓yg,↓yh,↓yi,↓yj,↓yk,↓yl,↓ym,↓yn,↓yo,↓yp,↓eC,↓yq,↓eB,↓yr,↓yt,↓yu,↓yw,↓yx,↓yy,↓yz,↓y5,↓y6,↓y8,↓y9,↓xa,↓xb,↓xc,↓xg,↓xh,↓xi,↓xj,↓xk,↓xl,↓xm,↓xn,↓xo,↓xp,↓xq,↓xr,↓xt,↓xu,↓xy,↓xz,↓x5,↓x6,↓x7,↓x8,↓x9,↓wa,↓wb,↓wc,↓wd,↓we,↓wf,↓wg,↓wh,↓wj,↓wl,↓wm,↓wn,↓wo,↓wp,↓wq,↓wt,↓wu,wv,ww,wx,wy,wz,w3,w4,↓x9,↓wa,↓w6,↓x8,↓w7,↓w8,↓w9,va,vb,↓vc,↓vd,↓vf,↓vg,↓vh,↓vi,↓vj,↓vk,↓vm,↓vn,↓vo,↓vp,↓vq,↓vt,↓vv,↓vw,↓vx,↓vy,↓vz,↓v0,↓v3,↓v4,↓v5,↓v7,↓v8,↓v9,↓ua,↓ub,↓uc,↓ud,↓ue,↓uf,↓ug,↓uh,ui,uj,uk,ul,um,uo,uq,ur,ut,uu,uv,uw,ux,uy,uz,u2,u3,u5,u6,u7,u8,Option.bind_some,u9,tj,tm,tq,tv,tw,tz,t3,t8,t9,sf,true_and,beq_self_eq_true,Bool.false_eq_true,c0,c1,Int.cast_ofNat_Int,Int.reduceEq,Int.reduceLT,Int.reduceLE,Int.reduceAdd,Int.reduceSub,↓reduceIte, eMeth, hb4, eq_self, lkUnd]
  refine undo_one (m1 := ⟨sm, sc, sq, sl, RS⟩) B4 (by decide) okm1 okm fun M5 B5 => ?_
  try simp -dsimp only [↓za,↓zb,↓zc,↓zd,↓ze,↓zf,↓zg,zh,zi,List.map_cons,List.map_nil,List.length_cons,List.length_nil,List.replicate_succ,List.replicate_zero,List.cons_append,List.nil_append,Nat.reduceAdd,Nat.reduceSub,List.set_cons_zero,List.set_cons_succ,List.getElem?_cons_zero,List.getElem?_cons_succ,Bool.not_true,Bool.not_false,decide_true,decide_false,↓zj,↓zk,↓zl,↓zm,↓zn,↓zo,↓zp,↓zq,↓zr,↓zt,↓zu,↓zv,zj,zk,zl,zm,zn,zo,zp,zq,zr,zt,zu,zv,↓zw,↓zx,↓zy,↓zz,↓z9,↓ya,↓yb,↓yc,↓yd,↓ye,↓yf,↓yg,↓yh,↓yi,↓yj,↓yk,↓yl,↓ym,↓yn,↓yo,↓yp,↓eC,↓yq,↓eB,↓yr,↓yt,↓yu,↓yw,↓yx,↓yy,↓yz,↓y5,↓y6,↓y8,↓y9,↓xa,↓xb,↓xc,↓xg,↓xh,↓xi,↓xj,↓xk,↓xl,↓xm,↓xn,↓xo,↓xp,↓xq,↓xr,↓xt,↓xu,↓xy,↓xz,↓x5,↓x6,↓x7,↓x8,↓x9,↓wa,↓wb,↓wc,↓wd,↓we,↓wf,↓wg,↓wh,↓wj,↓wl,↓wm,↓wn,↓wo,↓wp,↓wq,↓wt,↓wu,wv,ww,wx,wy,wz,w3,w4,↓x9,↓wa,↓w6,↓x8,↓w7,↓w8,↓w9,va,vb,↓vc,↓vd,↓vf,↓vg,↓vh,↓vi,↓vj,↓vk,↓vm,↓vn,↓vo,↓vp,↓vq,↓vt,↓vv,↓vw,↓vx,↓vy,↓vz,↓v0,↓v3,↓v4,↓v5,↓v7,↓v8,↓v9,↓ua,↓ub,↓uc,↓ud,↓ue,↓uf,↓ug,↓uh,ui,uj,uk,ul,um,uo,uq,ur,ut,uu,uv,uw,ux,uy,uz,u2,u3,u5,u6,u7,u8,Option.bind_some,u9,tj,tm,tq,tv,tw,tz,t3,t8,t9,sf,true_and,beq_self_eq_true,Bool.false_eq_true,c0,c1,Int.cast_ofNat_Int,Int.reduceEq,Int.reduceLT,Int.reduceLE,Int.reduceAdd,Int.reduceSub,↓reduceIte, cut4, cutA, cutB, cutC, cutE, cutF, cutG]
  have en : (n ++ [0]).map D.int = n.map D.int ++ [.int 0] := by rw [List.map_append]; rfl
  have bad0 : ∀ X, isRule ⟨sm, sc, sq, sl, X⟩ ⟨sm, n, pp, g, c, z⟩ = false := fun X => by
    unfold isRule
    rw [decide_eq_false (show ¬ sm < sm by omega)]
    simp only [Bool.and_false, Bool.false_and]
  have bad1 : ∀ X, isRule ⟨sm, sc, sq, sl, X⟩ ⟨a, n, pp, g, c, sm⟩ = false := fun X => by
    unfold isRule
    rw [decide_eq_false (show ¬ sm < sm by omega)]
    simp only [Bool.and_false, Bool.false_and]
  have bad2 : ∀ X, isRule ⟨sm, sc, sq, sl, X⟩ ⟨a, n ++ [0], pp, g, c, z⟩ = false := fun X => by
    have e : areNum (n ++ [0]) sc = false := by
      unfold areNum
      rw [decide_eq_false (by rw [List.length_append]; show ¬ ((n.length + 1 : Nat) : Int) = sc; omega), Bool.false_and]
    unfold isRule
    dsimp only
    rw [e]
    simp only [Bool.and_false, Bool.false_and]
  have bad3 : ∀ X, isRule ⟨sm, sc, sq, sl, X⟩ ⟨-1, n, pp, g, c, z⟩ = false := fun X => by
    unfold isRule
    rw [decide_eq_false (show ¬ (0 : Int) ≤ -1 by decide)]
    simp only [Bool.and_false, Bool.false_and]
  refine ⟨by decide, by decide, by decide, by decide, by decide, by rw [List.length_map]; omega, by decide, by decide, by decide, by decide, by decide, by decide, by decide, by decide, by decide, by decide, by decide, by decide, by decide, by decide, by decide, ?_⟩
  refine forS_told (m := ⟨sm, sc, sq, sl, RS⟩) B5 okm (fun v hv M0 Q0 xw0 e0 q0 => ?_) fun o => ?_
  · refine ⟨b, 0, v, rfl, q0, .inl ⟨rfl, ?_⟩⟩
    simp only [List.mem_cons, List.not_mem_nil, or_false] at hv
    rcases hv with rfl | rfl | rfl
    · refine ⟨⟨0, sc, sq, sl, RS⟩, _, rfl, .inl rfl, fun x hx => okm x hx, fun e => ?_⟩
      have h : 1 ≤ (0 : Int) ∧ (0 : Int) ≤ 6 := (fault_of e).1
      omega
    · refine ⟨⟨sm, sc, sq, sl, [⟨a, n ++ [0], pp, g, c, z⟩]⟩, _, rfl, .inr ?_, fun x hx => ?_, fault_bad (r := ⟨a, n ++ [0], pp, g, c, z⟩) List.mem_cons_self (bad2 _)⟩
      · show _ = D.lst [.tup [_, .tup ((n ++ [0]).map .int), _, _, _, _]]
        rw [en]
      · rw [List.mem_singleton.mp hx]; exact hno _ rfl
    · refine ⟨⟨sm, sc, sq, sl, List.replicate 21 ⟨a, n, pp, g, c, z⟩⟩, _, rfl, .inl rfl, fun x hx => ?_, fault_long (by show 20 < (List.replicate 21 _).length; rw [List.length_replicate]; decide)⟩
      rw [(List.mem_replicate.mp hx).2]; exact okr
  try simp -dsimp only [↓za,↓zb,↓zc,↓zd,↓ze,↓zf,↓zg,zh,zi,List.map_cons,List.map_nil,List.length_cons,List.length_nil,List.replicate_succ,List.replicate_zero,List.cons_append,List.nil_append,Nat.reduceAdd,Nat.reduceSub,List.set_cons_zero,List.set_cons_succ,List.getElem?_cons_zero,List.getElem?_cons_succ,Bool.not_true,Bool.not_false,decide_true,decide_false,↓zj,↓zk,↓zl,↓zm,↓zn,↓zo,↓zp,↓zq,↓zr,↓zt,↓zu,↓zv,zj,zk,zl,zm,zn,zo,zp,zq,zr,zt,zu,zv,↓zw,↓zx,↓zy,↓zz,↓z9,↓ya,↓yb,↓yc,↓yd,↓ye,↓yf,↓yg,↓yh,↓yi,↓yj,↓yk,↓yl,↓ym,↓yn,↓yo,↓yp,↓eC,↓yq,↓eB,↓yr,↓yt,↓yu,↓yw,↓yx,↓yy,↓yz,↓y5,↓y6,↓y8,↓y9,↓xa,↓xb,↓xc,↓xg,↓xh,↓xi,↓xj,↓xk,↓xl,↓xm,↓xn,↓xo,↓xp,↓xq,↓xr,↓xt,↓xu,↓xy,↓xz,↓x5,↓x6,↓x7,↓x8,↓x9,↓wa,↓wb,↓wc,↓wd,↓we,↓wf,↓wg,↓wh,↓wj,↓wl,↓wm,↓wn,↓wo,↓wp,↓wq,↓wt,↓wu,wv,ww,wx,wy,wz,w3,w4,↓x9,↓wa,↓w6,↓x8,↓w7,↓w8,↓w9,va,vb,↓vc,↓vd,↓vf,↓vg,↓vh,↓vi,↓vj,↓vk,↓vm,↓vn,↓vo,↓vp,↓vq,↓vt,↓vv,↓vw,↓vx,↓vy,↓vz,↓v0,↓v3,↓v4,↓v5,↓v7,↓v8,↓v9,↓ua,↓ub,↓uc,↓ud,↓ue,↓uf,↓ug,↓uh,ui,uj,uk,ul,um,uo,uq,ur,ut,uu,uv,uw,ux,uy,uz,u2,u3,u5,u6,u7,u8,Option.bind_some,u9,tj,tm,tq,tv,tw,tz,t3,t8,t9,sf,true_and,beq_self_eq_true,Bool.false_eq_true,c0,c1,Int.cast_ofNat_Int,Int.reduceEq,Int.reduceLT,Int.reduceLE,Int.reduceAdd,Int.reduceSub,↓reduceIte]
  refine forS_told (m := ⟨sm, sc, sq, sl, RS⟩) B5 okm (fun v hv M0 Q0 xw0 e0 q0 => ?_) fun o2 => ?_
  · subst e0
    refine ⟨b, 1, v, rfl, q0, .inr (.inl ⟨rfl, ⟨sm, sc, sq, sl, RS⟩, ?_⟩)⟩
    simp only [List.mem_cons, List.not_mem_nil, or_false] at hv
    have key : ∀ r0 : RRule, v = rrD r0 → r0.c = c → isRule ⟨sm, sc, sq, sl, RS ++ [r0]⟩ r0 = false → ∃ (r : RRule) (bh ah : List D), v = rrD r ∧ Ben cW M0 b ⟨sm, sc, sq, sl, RS⟩ bh ah ∧ bh.length < sizeLine ∧ RS.length < sizeLine ∧ RM.ok ⟨sm, sc, sq, sl, RS⟩ ∧ r.ok ∧ faultD ⟨sm, sc, sq, sl, RS ++ [r]⟩ ≠ .non := fun r0 e ec hb0 =>
      ⟨r0, _, _, e, B5, by decide, by omega, okm, hno _ ec, fault_bad (r := r0) (List.mem_append_right _ List.mem_cons_self) hb0⟩
    rcases hv with rfl | rfl | rfl | rfl
    · exact key ⟨sm, n, pp, g, c, z⟩ rfl rfl (bad0 _)
    · exact key ⟨a, n, pp, g, c, sm⟩ rfl rfl (bad1 _)
    · refine key ⟨a, n ++ [0], pp, g, c, z⟩ ?_ rfl (bad2 _)
      show _ = D.tup [_, .tup ((n ++ [0]).map .int), _, _, _, _]
      rw [en]
    · exact key ⟨-1, n, pp, g, c, z⟩ rfl rfl (bad3 _)
  rw [rm_mk]
  try simp -dsimp only [↓za,↓zb,↓zc,↓zd,↓ze,↓zf,↓zg,zh,zi,List.map_cons,List.map_nil,List.length_cons,List.length_nil,List.replicate_succ,List.replicate_zero,List.cons_append,List.nil_append,Nat.reduceAdd,Nat.reduceSub,List.set_cons_zero,List.set_cons_succ,List.getElem?_cons_zero,List.getElem?_cons_succ,Bool.not_true,Bool.not_false,decide_true,decide_false,↓zj,↓zk,↓zl,↓zm,↓zn,↓zo,↓zp,↓zq,↓zr,↓zt,↓zu,↓zv,zj,zk,zl,zm,zn,zo,zp,zq,zr,zt,zu,zv,↓zw,↓zx,↓zy,↓zz,↓z9,↓ya,↓yb,↓yc,↓yd,↓ye,↓yf,↓yg,↓yh,↓yi,↓yj,↓yk,↓yl,↓ym,↓yn,↓yo,↓yp,↓eC,↓yq,↓eB,↓yr,↓yt,↓yu,↓yw,↓yx,↓yy,↓yz,↓y5,↓y6,↓y8,↓y9,↓xa,↓xb,↓xc,↓xg,↓xh,↓xi,↓xj,↓xk,↓xl,↓xm,↓xn,↓xo,↓xp,↓xq,↓xr,↓xt,↓xu,↓xy,↓xz,↓x5,↓x6,↓x7,↓x8,↓x9,↓wa,↓wb,↓wc,↓wd,↓we,↓wf,↓wg,↓wh,↓wj,↓wl,↓wm,↓wn,↓wo,↓wp,↓wq,↓wt,↓wu,wv,ww,wx,wy,wz,w3,w4,↓x9,↓wa,↓w6,↓x8,↓w7,↓w8,↓w9,va,vb,↓vc,↓vd,↓vf,↓vg,↓vh,↓vi,↓vj,↓vk,↓vm,↓vn,↓vo,↓vp,↓vq,↓vt,↓vv,↓vw,↓vx,↓vy,↓vz,↓v0,↓v3,↓v4,↓v5,↓v7,↓v8,↓v9,↓ua,↓ub,↓uc,↓ud,↓ue,↓uf,↓ug,↓uh,ui,uj,uk,ul,um,uo,uq,ur,ut,uu,uv,uw,ux,uy,uz,u2,u3,u5,u6,u7,u8,Option.bind_some,u9,tj,tm,tq,tv,tw,tz,t3,t8,t9,sf,true_and,beq_self_eq_true,Bool.false_eq_true,c0,c1,Int.cast_ofNat_Int,Int.reduceEq,Int.reduceLT,Int.reduceLE,Int.reduceAdd,Int.reduceSub,↓reduceIte, List.length_map]
  refine ⟨by decide, ?_⟩
  refine forS_told (m := ⟨sm, sc, sq, sl, RS⟩) B5 okm (fun v hv M0 Q0 xw0 e0 q0 => ?_) fun o3 => ?_
  · subst e0
    simp only [List.mem_cons, List.not_mem_nil, or_false] at hv
    have key : ∀ k : Int, v = .int k → ¬ (0 ≤ k ∧ k < RS.length) → S_ltold cW [.loc b, .int 2, v] M0 Q0 xw0 := fun k e hk => ⟨b, 2, v, rfl, q0, .inr (.inr ⟨rfl, ⟨sm, sc, sq, sl, RS⟩, k, _, _, e, B5, hk⟩)⟩
    rcases hv with rfl | rfl | rfl
    · exact key _ rfl (by omega)
    · exact key _ rfl (by omega)
    · exact key _ rfl (by omega)
  obtain ⟨pb5, pa5, hb5⟩ := B5.at
  try simp -dsimp only [↓za,↓zb,↓zc,↓zd,↓ze,↓zf,↓zg,zh,zi,List.map_cons,List.map_nil,List.length_cons,List.length_nil,List.replicate_succ,List.replicate_zero,List.cons_append,List.nil_append,Nat.reduceAdd,Nat.reduceSub,List.set_cons_zero,List.set_cons_succ,List.getElem?_cons_zero,List.getElem?_cons_succ,Bool.not_true,Bool.not_false,decide_true,decide_false,↓zj,↓zk,↓zl,↓zm,↓zn,↓zo,↓zp,↓zq,↓zr,↓zt,↓zu,↓zv,zj,zk,zl,zm,zn,zo,zp,zq,zr,zt,zu,zv,↓zw,↓zx,↓zy,↓zz,↓z9,↓ya,↓yb,↓yc,↓yd,↓ye,↓yf,↓yg,↓yh,↓yi,↓yj,↓yk,↓yl,↓ym,↓yn,↓yo,↓yp,↓eC,↓yq,↓eB,↓yr,↓yt,↓yu,↓yw,↓yx,↓yy,↓yz,↓y5,↓y6,↓y8,↓y9,↓xa,↓xb,↓xc,↓xg,↓xh,↓xi,↓xj,↓xk,↓xl,↓xm,↓xn,↓xo,↓xp,↓xq,↓xr,↓xt,↓xu,↓xy,↓xz,↓x5,↓x6,↓x7,↓x8,↓x9,↓wa,↓wb,↓wc,↓wd,↓we,↓wf,↓wg,↓wh,↓wj,↓wl,↓wm,↓wn,↓wo,↓wp,↓wq,↓wt,↓wu,wv,ww,wx,wy,wz,w3,w4,↓x9,↓wa,↓w6,↓x8,↓w7,↓w8,↓w9,va,vb,↓vc,↓vd,↓vf,↓vg,↓vh,↓vi,↓vj,↓vk,↓vm,↓vn,↓vo,↓vp,↓vq,↓vt,↓vv,↓vw,↓vx,↓vy,↓vz,↓v0,↓v3,↓v4,↓v5,↓v7,↓v8,↓v9,↓ua,↓ub,↓uc,↓ud,↓ue,↓uf,↓ug,↓uh,ui,uj,uk,ul,um,uo,uq,ur,ut,uu,uv,uw,ux,uy,uz,u2,u3,u5,u6,u7,u8,Option.bind_some,u9,tj,tm,tq,tv,tw,tz,t3,t8,t9,sf,true_and,beq_self_eq_true,Bool.false_eq_true,c0,c1,Int.cast_ofNat_Int,Int.reduceEq,Int.reduceLT,Int.reduceLE,Int.reduceAdd,Int.reduceSub,↓reduceIte, eMeth, hb5, eq_self, lkUnd]
  refine undo_none B5 (by rw [hsz]; exact (by decide : 1 < 16777216)) okm ?_
  try simp -dsimp only [↓za,↓zb,↓zc,↓zd,↓ze,↓zf,↓zg,zh,zi,List.map_cons,List.map_nil,List.length_cons,List.length_nil,List.replicate_succ,List.replicate_zero,List.cons_append,List.nil_append,Nat.reduceAdd,Nat.reduceSub,List.set_cons_zero,List.set_cons_succ,List.getElem?_cons_zero,List.getElem?_cons_succ,Bool.not_true,Bool.not_false,decide_true,decide_false,↓zj,↓zk,↓zl,↓zm,↓zn,↓zo,↓zp,↓zq,↓zr,↓zt,↓zu,↓zv,zj,zk,zl,zm,zn,zo,zp,zq,zr,zt,zu,zv,↓zw,↓zx,↓zy,↓zz,↓z9,↓ya,↓yb,↓yc,↓yd,↓ye,↓yf,↓yg,↓yh,↓yi,↓yj,↓yk,↓yl,↓ym,↓yn,↓yo,↓yp,↓eC,↓yq,↓eB,↓yr,↓yt,↓yu,↓yw,↓yx,↓yy,↓yz,↓y5,↓y6,↓y8,↓y9,↓xa,↓xb,↓xc,↓xg,↓xh,↓xi,↓xj,↓xk,↓xl,↓xm,↓xn,↓xo,↓xp,↓xq,↓xr,↓xt,↓xu,↓xy,↓xz,↓x5,↓x6,↓x7,↓x8,↓x9,↓wa,↓wb,↓wc,↓wd,↓we,↓wf,↓wg,↓wh,↓wj,↓wl,↓wm,↓wn,↓wo,↓wp,↓wq,↓wt,↓wu,wv,ww,wx,wy,wz,w3,w4,↓x9,↓wa,↓w6,↓x8,↓w7,↓w8,↓w9,va,vb,↓vc,↓vd,↓vf,↓vg,↓vh,↓vi,↓vj,↓vk,↓vm,↓vn,↓vo,↓vp,↓vq,↓vt,↓vv,↓vw,↓vx,↓vy,↓vz,↓v0,↓v3,↓v4,↓v5,↓v7,↓v8,↓v9,↓ua,↓ub,↓uc,↓ud,↓ue,↓uf,↓ug,↓uh,ui,uj,uk,ul,um,uo,uq,ur,ut,uu,uv,uw,ux,uy,uz,u2,u3,u5,u6,u7,u8,Option.bind_some,u9,tj,tm,tq,tv,tw,tz,t3,t8,t9,sf,true_and,beq_self_eq_true,Bool.false_eq_true,c0,c1,Int.cast_ofNat_Int,Int.reduceEq,Int.reduceLT,Int.reduceLE,Int.reduceAdd,Int.reduceSub,↓reduceIte, eMeth, hb5, eq_self, lkRed]
  refine redo_one B5 (by decide) okm okm1 fun M6 => ?_
  try simp -dsimp only [↓za,↓zb,↓zc,↓zd,↓ze,↓zf,↓zg,zh,zi,List.map_cons,List.map_nil,List.length_cons,List.length_nil,List.replicate_succ,List.replicate_zero,List.cons_append,List.nil_append,Nat.reduceAdd,Nat.reduceSub,List.set_cons_zero,List.set_cons_succ,List.getElem?_cons_zero,List.getElem?_cons_succ,Bool.not_true,Bool.not_false,decide_true,decide_false,↓zj,↓zk,↓zl,↓zm,↓zn,↓zo,↓zp,↓zq,↓zr,↓zt,↓zu,↓zv,zj,zk,zl,zm,zn,zo,zp,zq,zr,zt,zu,zv,↓zw,↓zx,↓zy,↓zz,↓z9,↓ya,↓yb,↓yc,↓yd,↓ye,↓yf,↓yg,↓yh,↓yi,↓yj,↓yk,↓yl,↓ym,↓yn,↓yo,↓yp,↓eC,↓yq,↓eB,↓yr,↓yt,↓yu,↓yw,↓yx,↓yy,↓yz,↓y5,↓y6,↓y8,↓y9,↓xa,↓xb,↓xc,↓xg,↓xh,↓xi,↓xj,↓xk,↓xl,↓xm,↓xn,↓xo,↓xp,↓xq,↓xr,↓xt,↓xu,↓xy,↓xz,↓x5,↓x6,↓x7,↓x8,↓x9,↓wa,↓wb,↓wc,↓wd,↓we,↓wf,↓wg,↓wh,↓wj,↓wl,↓wm,↓wn,↓wo,↓wp,↓wq,↓wt,↓wu,wv,ww,wx,wy,wz,w3,w4,↓x9,↓wa,↓w6,↓x8,↓w7,↓w8,↓w9,va,vb,↓vc,↓vd,↓vf,↓vg,↓vh,↓vi,↓vj,↓vk,↓vm,↓vn,↓vo,↓vp,↓vq,↓vt,↓vv,↓vw,↓vx,↓vy,↓vz,↓v0,↓v3,↓v4,↓v5,↓v7,↓v8,↓v9,↓ua,↓ub,↓uc,↓ud,↓ue,↓uf,↓ug,↓uh,ui,uj,uk,ul,um,uo,uq,ur,ut,uu,uv,uw,ux,uy,uz,u2,u3,u5,u6,u7,u8,Option.bind_some,u9,tj,tm,tq,tv,tw,tz,t3,t8,t9,sf,true_and,beq_self_eq_true,Bool.false_eq_true,c0,c1,Int.cast_ofNat_Int,Int.reduceEq,Int.reduceLT,Int.reduceLE,Int.reduceAdd,Int.reduceSub,↓reduceIte, eExcs, eMake]
  refine ⟨by decide, fun pe => ⟨by decide, by decide, by decide, by decide, by decide, fun b2 hb2 => ?_⟩⟩
  have hrep : ∀ k : Nat, (List.replicate k ([.tup [.int a, .tup (n.map .int), .tup (pp.map wD), .tup (g.map .int), .tup (c.map actD), .int z]] : List D)).flatten = (List.replicate k (⟨a, n, pp, g, c, z⟩ : RRule)).map rrD := fun k => by
    induction k with
    | zero => rfl
    | succ k ih => rw [List.replicate_succ, List.flatten_cons, ih, List.replicate_succ, List.map_cons]; rfl
  obtain ⟨L, hL⟩ : ∃ L, List.replicate 20 (⟨a, n, pp, g, c, z⟩ : RRule) = L := ⟨_, rfl⟩
  have h20 : (List.replicate (Int.toNat 20) ([.tup [.int a, .tup (n.map .int), .tup (pp.map wD), .tup (g.map .int), .tup (c.map actD), .int z]] : List D)).flatten = L.map rrD := by rw [hrep, ← hL]; rfl
  have ll : L.length = 20 := by rw [← hL, List.length_replicate]
  have lm : ∀ x ∈ L, x = ⟨a, n, pp, g, c, z⟩ := fun x hx => by rw [← hL] at hx; exact (List.mem_replicate.mp hx).2
  clear hL hrep
  rw [h20]
  have ok20 : RM.ok ⟨sm, sc, sq, sl, L⟩ := fun x hx => by rw [lm x hx]; exact okr
  refine init_call (m := ⟨sm, sc, sq, sl, L⟩) hb2 ok20 (hf0 _ (by rw [ll]; decide) fun x hx => .inl (lm x hx)) fun M7 B7 => ?_
  obtain ⟨pb7, pa7, hb7⟩ := B7.at
  try simp -dsimp only [↓za,↓zb,↓zc,↓zd,↓ze,↓zf,↓zg,zh,zi,List.map_cons,List.map_nil,List.length_cons,List.length_nil,List.replicate_succ,List.replicate_zero,List.cons_append,List.nil_append,Nat.reduceAdd,Nat.reduceSub,List.set_cons_zero,List.set_cons_succ,List.getElem?_cons_zero,List.getElem?_cons_succ,Bool.not_true,Bool.not_false,decide_true,decide_false,↓zj,↓zk,↓zl,↓zm,↓zn,↓zo,↓zp,↓zq,↓zr,↓zt,↓zu,↓zv,zj,zk,zl,zm,zn,zo,zp,zq,zr,zt,zu,zv,↓zw,↓zx,↓zy,↓zz,↓z9,↓ya,↓yb,↓yc,↓yd,↓ye,↓yf,↓yg,↓yh,↓yi,↓yj,↓yk,↓yl,↓ym,↓yn,↓yo,↓yp,↓eC,↓yq,↓eB,↓yr,↓yt,↓yu,↓yw,↓yx,↓yy,↓yz,↓y5,↓y6,↓y8,↓y9,↓xa,↓xb,↓xc,↓xg,↓xh,↓xi,↓xj,↓xk,↓xl,↓xm,↓xn,↓xo,↓xp,↓xq,↓xr,↓xt,↓xu,↓xy,↓xz,↓x5,↓x6,↓x7,↓x8,↓x9,↓wa,↓wb,↓wc,↓wd,↓we,↓wf,↓wg,↓wh,↓wj,↓wl,↓wm,↓wn,↓wo,↓wp,↓wq,↓wt,↓wu,wv,ww,wx,wy,wz,w3,w4,↓x9,↓wa,↓w6,↓x8,↓w7,↓w8,↓w9,va,vb,↓vc,↓vd,↓vf,↓vg,↓vh,↓vi,↓vj,↓vk,↓vm,↓vn,↓vo,↓vp,↓vq,↓vt,↓vv,↓vw,↓vx,↓vy,↓vz,↓v0,↓v3,↓v4,↓v5,↓v7,↓v8,↓v9,↓ua,↓ub,↓uc,↓ud,↓ue,↓uf,↓ug,↓uh,ui,uj,uk,ul,um,uo,uq,ur,ut,uu,uv,uw,ux,uy,uz,u2,u3,u5,u6,u7,u8,Option.bind_some,u9,tj,tm,tq,tv,tw,tz,t3,t8,t9,sf,true_and,beq_self_eq_true,Bool.false_eq_true,c0,c1,Int.cast_ofNat_Int,Int.reduceEq,Int.reduceLT,Int.reduceLE,Int.reduceAdd,Int.reduceSub,↓reduceIte]
  refine ⟨b2, 1, _, rfl, ?_, .inr (.inl ⟨rfl, ⟨sm, sc, sq, sl, L⟩, ⟨a, n, pp, g, c, z⟩, [], [], rfl, B7, by decide, by show L.length < _; rw [ll]; decide, ok20, okr, fault_long (by show 20 < (L ++ [_]).length; rw [List.length_append, ll]; show 20 < 20 + 1; decide)⟩)⟩
  have hd := dle_rm ok20
  have he := eqD_refl (rmD ⟨sm, sc, sq, sl, L⟩)
  have hr : D.tup [.int sm, .int sc, .int sq, .int sl, .tup (L.map rrD)] = rmD ⟨sm, sc, sq, sl, L⟩ := rfl
  try simp -dsimp only [↓za,↓zb,↓zc,↓zd,↓ze,↓zf,↓zg,zh,zi,List.map_cons,List.map_nil,List.length_cons,List.length_nil,List.replicate_succ,List.replicate_zero,List.cons_append,List.nil_append,Nat.reduceAdd,Nat.reduceSub,List.set_cons_zero,List.set_cons_succ,List.getElem?_cons_zero,List.getElem?_cons_succ,Bool.not_true,Bool.not_false,decide_true,decide_false,↓zj,↓zk,↓zl,↓zm,↓zn,↓zo,↓zp,↓zq,↓zr,↓zt,↓zu,↓zv,zj,zk,zl,zm,zn,zo,zp,zq,zr,zt,zu,zv,↓zw,↓zx,↓zy,↓zz,↓z9,↓ya,↓yb,↓yc,↓yd,↓ye,↓yf,↓yg,↓yh,↓yi,↓yj,↓yk,↓yl,↓ym,↓yn,↓yo,↓yp,↓eC,↓yq,↓eB,↓yr,↓yt,↓yu,↓yw,↓yx,↓yy,↓yz,↓y5,↓y6,↓y8,↓y9,↓xa,↓xb,↓xc,↓xg,↓xh,↓xi,↓xj,↓xk,↓xl,↓xm,↓xn,↓xo,↓xp,↓xq,↓xr,↓xt,↓xu,↓xy,↓xz,↓x5,↓x6,↓x7,↓x8,↓x9,↓wa,↓wb,↓wc,↓wd,↓we,↓wf,↓wg,↓wh,↓wj,↓wl,↓wm,↓wn,↓wo,↓wp,↓wq,↓wt,↓wu,wv,ww,wx,wy,wz,w3,w4,↓x9,↓wa,↓w6,↓x8,↓w7,↓w8,↓w9,va,vb,↓vc,↓vd,↓vf,↓vg,↓vh,↓vi,↓vj,↓vk,↓vm,↓vn,↓vo,↓vp,↓vq,↓vt,↓vv,↓vw,↓vx,↓vy,↓vz,↓v0,↓v3,↓v4,↓v5,↓v7,↓v8,↓v9,↓ua,↓ub,↓uc,↓ud,↓ue,↓uf,↓ug,↓uh,ui,uj,uk,ul,um,uo,uq,ur,ut,uu,uv,uw,ux,uy,uz,u2,u3,u5,u6,u7,u8,Option.bind_some,u9,tj,tm,tq,tv,tw,tz,t3,t8,t9,sf,true_and,beq_self_eq_true,Bool.false_eq_true,c0,c1,Int.cast_ofNat_Int,Int.reduceEq,Int.reduceLT,Int.reduceLE,Int.reduceAdd,Int.reduceSub,↓reduceIte, eMeth, hb7, eq_self, lkMch]
  refine ⟨b2, pb7, pa7, _, rfl, hb7, ?_⟩
  generalize hm1 : rmD ⟨sm, sc, sq, sl, L⟩ = D1 at *
  have r1 : ∀ M, rsv M D1 = D1 := fun M => by rw [← hm1]; rfl
  try simp -dsimp only [↓za,↓zb,↓zc,↓zd,↓ze,↓zf,↓zg,zh,zi,List.map_cons,List.map_nil,List.length_cons,List.length_nil,List.replicate_succ,List.replicate_zero,List.cons_append,List.nil_append,Nat.reduceAdd,Nat.reduceSub,List.set_cons_zero,List.set_cons_succ,List.getElem?_cons_zero,List.getElem?_cons_succ,Bool.not_true,Bool.not_false,decide_true,decide_false,↓zj,↓zk,↓zl,↓zm,↓zn,↓zo,↓zp,↓zq,↓zr,↓zt,↓zu,↓zv,zj,zk,zl,zm,zn,zo,zp,zq,zr,zt,zu,zv,↓zw,↓zx,↓zy,↓zz,↓z9,↓ya,↓yb,↓yc,↓yd,↓ye,↓yf,↓yg,↓yh,↓yi,↓yj,↓yk,↓yl,↓ym,↓yn,↓yo,↓yp,↓eC,↓yq,↓eB,↓yr,↓yt,↓yu,↓yw,↓yx,↓yy,↓yz,↓y5,↓y6,↓y8,↓y9,↓xa,↓xb,↓xc,↓xg,↓xh,↓xi,↓xj,↓xk,↓xl,↓xm,↓xn,↓xo,↓xp,↓xq,↓xr,↓xt,↓xu,↓xy,↓xz,↓x5,↓x6,↓x7,↓x8,↓x9,↓wa,↓wb,↓wc,↓wd,↓we,↓wf,↓wg,↓wh,↓wj,↓wl,↓wm,↓wn,↓wo,↓wp,↓wq,↓wt,↓wu,wv,ww,wx,wy,wz,w3,w4,↓x9,↓wa,↓w6,↓x8,↓w7,↓w8,↓w9,va,vb,↓vc,↓vd,↓vf,↓vg,↓vh,↓vi,↓vj,↓vk,↓vm,↓vn,↓vo,↓vp,↓vq,↓vt,↓vv,↓vw,↓vx,↓vy,↓vz,↓v0,↓v3,↓v4,↓v5,↓v7,↓v8,↓v9,↓ua,↓ub,↓uc,↓ud,↓ue,↓uf,↓ug,↓uh,ui,uj,uk,ul,um,uo,uq,ur,ut,uu,uv,uw,ux,uy,uz,u2,u3,u5,u6,u7,u8,Option.bind_some,u9,tj,tm,tq,tv,tw,tz,t3,t8,t9,sf,true_and,beq_self_eq_true,Bool.false_eq_true,c0,c1,Int.cast_ofNat_Int,Int.reduceEq,Int.reduceLT,Int.reduceLE,Int.reduceAdd,Int.reduceSub,↓reduceIte, h20, hr, r1, he]
  exact ⟨by decide, by decide, by decide, by decide, hd, hd, post _⟩
end U

set_option Elab.async false
set_option linter.all false
set_option maxRecDepth 100000
set_option maxHeartbeats 1000000
namespace U
open PySem PySem.Spec PyProof.Rows L2
def top (i : Nat) : Stmt := PySem.Challenge.pw_upwall_k40_workbenches_refuse.main.body.getD i (.Pass ⟨0, 0, 0, 0⟩)
def mthOf : Stmt → Nat → Stmt
  | .ClassDef _ _ _ b _ _ _ _ _ _ _, j => b.getD j (.Pass ⟨0, 0, 0, 0⟩)
  | s, _ => s
section
variable {P : Program} {w : World} {K : PySem.W.Frag} {mg : Str → Option Value} {base : Heap} {T : List Addr} {k : Nat} {W : WX} {X : Cx}
abbrev s_are_numbers : Stmt := top 15
def NN_are_numbers : List Str := ["row", "count", "one"]
theorem sc_are_numbers : FnScope NN_are_numbers ["row", "count"] (defScope s_are_numbers) := ⟨rfl, rfl, rfl, by decide +kernel, rfl, by decide +kernel, by decide +kernel⟩
theorem d_are_numbers (F : Fr mg) (C : Cod X T) {t_MOST_NUMBER : Tok} (i_MOST_NUMBER : mg "MOST_NUMBER" = some (.int 20 t_MOST_NUMBER)) (g : Std P w K mg base NN_are_numbers (defScope s_are_numbers) (fun _ => true) (k + 1) W X) : DSs X T W (defBody s_are_numbers) (f_are_numbers) :=
  dss_one (ds_ret (de_and (n_eq g (n_len g F (l_cons g (n_nm g 0) da_nil)) (n_nm g 1)) (de_one (n_allG g F C [("one", 2)] (di0_seq (n_nm g 0)) (by decide +kernel) (fun _ g => ⟨g_nm g 2, n_leLe g de_int (n_nm g 2) (n_gint g i_MOST_NUMBER)⟩)))))
abbrev s_is_pour : Stmt := top 16
def NN_is_pour : List Str := ["pour", "counters"]
theorem sc_is_pour : FnScope NN_is_pour ["pour", "counters"] (defScope s_is_pour) := ⟨rfl, rfl, rfl, by decide +kernel, rfl, by decide +kernel, by decide +kernel⟩
theorem d_is_pour (F : Fr mg) {t_MOST_FACTOR : Tok} (i_MOST_FACTOR : mg "MOST_FACTOR" = some (.int 3 t_MOST_FACTOR)) (g : Std P w K mg base NN_is_pour (defScope s_is_pour) (fun _ => true) k W X) : DSs X T W (defBody s_is_pour) (f_is_pour) :=
  dss_one (ds_ret (de_and (n_eq g (n_len g F (l_cons g (n_nm g 0) da_nil)) de_int) (de_and (n_leLt g (n_neg g de_int) (n_ix g (n_nm g 0) de_int) (n_nm g 1)) (de_one (n_leLe g de_int (n_ix g (n_nm g 0) de_int) (n_gint g i_MOST_FACTOR))))))
abbrev s_is_act : Stmt := top 17
def NN_is_act : List Str := ["act", "letters"]
theorem sc_is_act : FnScope NN_is_act ["act", "letters"] (defScope s_is_act) := ⟨rfl, rfl, rfl, by decide +kernel, rfl, by decide +kernel, by decide +kernel⟩
theorem d_is_act (F : Fr mg) (g : Std P w K mg base NN_is_act (defScope s_is_act) (fun _ => true) k W X) : DSs X T W (defBody s_is_act) (f_is_act) :=
  dss_cons (ds_if (t_eq g (n_nm g 0) (n_tup g da_nil)) (dss_one (ds_ret de_bl)) dss_nil) (dss_one (ds_ret (de_and (n_eq g (n_len g F (l_cons g (n_nm g 0) da_nil)) de_int) (de_and (n_in g (n_ix g (n_nm g 0) de_int) (n_tup g (l_cons g de_str (l_cons g de_str da_nil)))) (de_one (n_leLt g de_int (n_ix g (n_nm g 0) de_int) (n_nm g 1)))))))
abbrev s_is_rule : Stmt := top 18
def NN_is_rule : List Str := ["machine", "rule", "modes", "counters", "queues", "letters", "_", "pour", "act"]
theorem sc_is_rule : FnScope NN_is_rule ["machine", "rule"] (defScope s_is_rule) := ⟨rfl, rfl, rfl, by decide +kernel, rfl, by decide +kernel, by decide +kernel⟩
theorem d_is_rule {S_are_numbers : FSpec} {S_is_pour : FSpec} {S_is_act : FSpec} (F : Fr mg) (C : Cod X T) (F_are_numbers : Fn P w K mg base T k "are_numbers" S_are_numbers) (F_is_pour : Fn P w K mg base T k "is_pour" S_is_pour) (F_is_act : Fn P w K mg base T k "is_act" S_is_act) (g : Std P w K mg base NN_is_rule (defScope s_is_rule) (fun _ => true) (k + 1) W X) : DSs X T W (defBody s_is_rule) (f_is_rule S_are_numbers S_is_pour S_is_act) :=
  dss_cons (s_asg g (vs := [2, 3, 4, 5, 6]) (n_nm g 0) (g_tup g (g_cons g (g_nm g 2) (g_cons g (g_nm g 3) (g_cons g (g_nm g 4) (g_cons g (g_nm g 5) (g_cons g (g_nm g 6) dgs_nil))))))) (dss_cons (ds_if ((dw_or (t_ne g (n_len g F (l_cons g (n_nm g 1) da_nil)) de_int) (dw_or (dt_not (t_leLt g de_int (n_ix g (n_nm g 1) de_int) (n_nm g 2))) (dw_or1 (dt_not (t_leLt g de_int (n_ix g (n_nm g 1) de_int) (n_nm g 2)))))).dt) (dss_one (ds_ret de_bl)) dss_nil) (dss_cons (ds_if ((dw_or (dt_not (t_tr g (n_call g (F_are_numbers.mono (Nat.le_succ _)) (l_cons g (n_ix g (n_nm g 1) de_int) (l_cons g (n_nm g 3) da_nil))))) (dw_or1 (dt_not (t_tr g (n_call g (F_are_numbers.mono (Nat.le_succ _)) (l_cons g (n_ix g (n_nm g 1) de_int) (l_cons g (n_nm g 3) da_nil))))))).dt) (dss_one (ds_ret de_bl)) dss_nil) (dss_cons (ds_if ((dw_or (t_ne g (n_len g F (l_cons g (n_ix g (n_nm g 1) de_int) da_nil)) (n_nm g 3)) (dw_or1 (dt_not (t_tr g (n_allG g F C [("pour", 7)] (di0_seq (n_ix g (n_nm g 1) de_int)) (by decide +kernel) (fun _ g => ⟨g_nm g 7, n_call g F_is_pour (l_cons g (n_nm g 7) (l_cons g (n_nm g 3) da_nil))⟩)))))).dt) (dss_one (ds_ret de_bl)) dss_nil) (dss_one (ds_ret (de_and (n_eq g (n_len g F (l_cons g (n_ix g (n_nm g 1) de_int) da_nil)) (n_nm g 4)) (de_one (n_allG g F C [("act", 8)] (di0_seq (n_ix g (n_nm g 1) de_int)) (by decide +kernel) (fun _ g => ⟨g_nm g 8, n_call g F_is_act (l_cons g (n_nm g 8) (l_cons g (n_nm g 5) da_nil))⟩)))))))))
abbrev s_fault : Stmt := top 19
def NN_fault : List Str := ["machine", "modes", "counters", "queues", "letters", "rules", "number", "rule"]
theorem sc_fault : FnScope NN_fault ["machine"] (defScope s_fault) := ⟨rfl, rfl, rfl, by decide +kernel, rfl, by decide +kernel, by decide +kernel⟩
theorem d_fault {S_is_rule : FSpec} (F : Fr mg) (F_is_rule : Fn P w K mg base T k "is_rule" S_is_rule) {t_MOST_MODES : Tok} (i_MOST_MODES : mg "MOST_MODES" = some (.int 6 t_MOST_MODES)) {t_MOST_COUNTERS : Tok} (i_MOST_COUNTERS : mg "MOST_COUNTERS" = some (.int 4 t_MOST_COUNTERS)) {t_MOST_QUEUES : Tok} (i_MOST_QUEUES : mg "MOST_QUEUES" = some (.int 2 t_MOST_QUEUES)) {t_MOST_LETTERS : Tok} (i_MOST_LETTERS : mg "MOST_LETTERS" = some (.int 3 t_MOST_LETTERS)) {t_MOST_RULES : Tok} (i_MOST_RULES : mg "MOST_RULES" = some (.int 20 t_MOST_RULES)) (g : Std P w K mg base NN_fault (defScope s_fault) (fun _ => true) k W X) : DSs X T W (defBody s_fault) (f_fault S_is_rule) :=
  dss_cons (s_asg g (vs := [1, 2, 3, 4, 5]) (n_nm g 0) (g_tup g (g_cons g (g_nm g 1) (g_cons g (g_nm g 2) (g_cons g (g_nm g 3) (g_cons g (g_nm g 4) (g_cons g (g_nm g 5) dgs_nil))))))) (dss_cons (ds_if (dt_not (t_leLe g de_int (n_nm g 1) (n_gint g i_MOST_MODES))) (dss_one (ds_ret (n_tup g (l_cons g de_str da_nil)))) dss_nil) (dss_cons (ds_if (dt_not (t_leLe g de_int (n_nm g 2) (n_gint g i_MOST_COUNTERS))) (dss_one (ds_ret (n_tup g (l_cons g de_str da_nil)))) dss_nil) (dss_cons (ds_if (dt_not (t_leLe g de_int (n_nm g 3) (n_gint g i_MOST_QUEUES))) (dss_one (ds_ret (n_tup g (l_cons g de_str da_nil)))) dss_nil) (dss_cons (ds_if (dt_not (t_leLe g de_int (n_nm g 4) (n_gint g i_MOST_LETTERS))) (dss_one (ds_ret (n_tup g (l_cons g de_str da_nil)))) dss_nil) (dss_cons (ds_if (t_gt g (n_len g F (l_cons g (n_nm g 5) da_nil)) (n_gint g i_MOST_RULES)) (dss_one (ds_ret (n_tup g (l_cons g de_str da_nil)))) dss_nil) (dss_cons (s_for g (vs := [6, 7]) (i_en1 g F (l_cons g (n_nm g 5) da_nil)) (g_tup g (g_cons g (g_nm g 6) (g_cons g (g_nm g 7) dgs_nil))) (dss_one (ds_if (dt_not (t_tr g (n_call g F_is_rule (l_cons g (n_nm g 0) (l_cons g (n_nm g 7) da_nil))))) (dss_one (ds_ret (n_tup g (l_cons g de_str (l_cons g (n_nm g 6) da_nil))))) dss_nil))) (dss_one (ds_ret de_non))))))))
abbrev s_ldraw : Stmt := top 23
def NN_ldraw : List Str := ["_law_state", "_law_limit", "_law_position", "_law_cell", "_law_mixed", "_law_digit"]
theorem sc_ldraw : FnScope NN_ldraw ["_law_state", "_law_limit"] (defScope s_ldraw) := ⟨rfl, rfl, rfl, by decide +kernel, rfl, by decide +kernel, by decide +kernel⟩
theorem d_ldraw (F : Fr mg) (g : Std P w K mg base NN_ldraw (defScope s_ldraw) (fun _ => true) k W X) : DSs X T W (defBody s_ldraw) (f_ldraw) :=
  dss_cons (ds_if (t_lt g (n_ix g (n_nm g 0) de_int) (n_nm g 1)) (dss_cons (s_set g (n_ix g (n_nm g 0) de_int)) (dss_cons (s_setIx g (n_nm g 0) de_int (n_add g (n_nm g 2) de_int)) (dss_cons (s_set g de_int) (dss_cons (ds_if (t_lt g (n_nm g 2) (n_len g F (l_cons g (n_ix g (n_nm g 0) de_int) da_nil))) (dss_one (s_set g (n_ix g (n_ix g (n_nm g 0) de_int) (n_nm g 2)))) dss_nil) (dss_one (ds_if (t_ge g (n_nm g 3) (n_pow g de_int de_int)) (dss_one (s_setIx g (n_nm g 0) de_int (n_nm g 3))) (dss_cons (s_setIx g (n_nm g 0) de_int (n_mod g (n_int1 g F (l_cons g (n_mul g (n_add g (n_add g (n_add g (n_ix g (n_nm g 0) de_int) (n_mod g (n_int1 g F (l_cons g (n_nm g 3) da_nil)) de_int)) (n_nm g 2)) de_int) de_int) da_nil)) de_int)) (dss_cons (s_set g (n_mod g (n_int1 g F (l_cons g (n_add g (n_mul g (n_ix g (n_nm g 0) de_int) de_int) de_int) da_nil)) de_int)) (dss_one (s_setIx g (n_nm g 0) de_int (n_add g (n_mul g (n_nm g 4) de_int) (n_mod g (n_int1 g F (l_cons g (n_add g (n_mul g (n_nm g 4) de_int) (n_ix g (n_nm g 0) de_int)) da_nil)) de_int)))))))))))) dss_nil) (dss_cons (s_set g (n_mod g (n_int1 g F (l_cons g (n_ix g (n_nm g 0) de_int) da_nil)) (n_nm g 1))) (dss_cons (s_setIx g (n_nm g 0) de_int (n_fdiv g (n_ix g (n_nm g 0) de_int) (n_nm g 1))) (dss_one (ds_ret (n_nm g 5)))))
abbrev s_lshape : Stmt := top 24
def NN_lshape : List Str := ["_law_state", "_law_shapes"]
theorem sc_lshape : FnScope NN_lshape ["_law_state"] (defScope s_lshape) := ⟨rfl, rfl, rfl, by decide +kernel, rfl, by decide +kernel, by decide +kernel⟩
theorem d_lshape {S_ldraw : FSpec} (F_ldraw : Fn P w K mg base T k "_law_draw" S_ldraw) (g : Std P w K mg base NN_lshape (defScope s_lshape) (fun _ => true) k W X) : DSs X T W (defBody s_lshape) (f_lshape S_ldraw) :=
  dss_cons (s_set g ((n_lst g (l_cons g (n_tup g (l_cons g de_int (l_cons g de_int (l_cons g de_int (l_cons g de_int da_nil))))) (l_cons g (n_tup g (l_cons g de_int (l_cons g de_int (l_cons g de_int (l_cons g de_int da_nil))))) (l_cons g (n_tup g (l_cons g de_int (l_cons g de_int (l_cons g de_int (l_cons g de_int da_nil))))) (l_cons g (n_tup g (l_cons g de_int (l_cons g de_int (l_cons g de_int (l_cons g de_int da_nil))))) (l_cons g (n_tup g (l_cons g de_int (l_cons g de_int (l_cons g de_int (l_cons g de_int da_nil))))) (l_cons g (n_tup g (l_cons g de_int (l_cons g de_int (l_cons g de_int (l_cons g de_int da_nil))))) (l_cons g (n_tup g (l_cons g de_int (l_cons g de_int (l_cons g de_int (l_cons g de_int da_nil))))) (l_cons g (n_tup g (l_cons g de_int (l_cons g de_int (l_cons g de_int (l_cons g de_int da_nil))))) (l_cons g (n_tup g (l_cons g de_int (l_cons g de_int (l_cons g de_int (l_cons g de_int da_nil))))) (l_cons g (n_tup g (l_cons g de_int (l_cons g de_int (l_cons g de_int (l_cons g de_int da_nil))))) (l_cons g (n_tup g (l_cons g de_int (l_cons g de_int (l_cons g de_int (l_cons g de_int da_nil))))) (l_cons g (n_tup g (l_cons g de_int (l_cons g de_int (l_cons g de_int (l_cons g de_int da_nil))))) (l_cons g (n_tup g (l_cons g de_int (l_cons g de_int (l_cons g de_int (l_cons g de_int da_nil))))) (l_cons g (n_tup g (l_cons g de_int (l_cons g de_int (l_cons g de_int (l_cons g de_int da_nil))))) (l_cons g (n_tup g (l_cons g de_int (l_cons g de_int (l_cons g de_int (l_cons g de_int da_nil))))) (l_cons g (n_tup g (l_cons g de_int (l_cons g de_int (l_cons g de_int (l_cons g de_int da_nil))))) da_nil))))))))))))))))).e)) (dss_one (ds_ret (n_ix g (n_nm g 1) (n_call g F_ldraw (l_cons g (n_nm g 0) (l_cons g de_int da_nil))))))
abbrev s_lrule : Stmt := top 25
def NN_lrule : List Str := ["_law_state", "_law_shape_here", "_law_modes", "_law_counters", "_law_queues", "_law_letters", "_law_needs", "_law_pours", "_law_k", "_law_choice", "_law_gives", "_law_acts", "_law_name"]
theorem sc_lrule : FnScope NN_lrule ["_law_state", "_law_shape_here"] (defScope s_lrule) := ⟨rfl, rfl, rfl, by decide +kernel, rfl, by decide +kernel, by decide +kernel⟩
theorem d_lrule {S_ldraw : FSpec} (F : Fr mg) (F_ldraw : Fn P w K mg base T k "_law_draw" S_ldraw) (g : Std P w K mg base NN_lrule (defScope s_lrule) (fun _ => true) k W X) : DSs X T W (defBody s_lrule) (f_lrule S_ldraw) :=
  dss_cons (s_asg g (vs := [2, 3, 4, 5]) (n_nm g 1) (g_tup g (g_cons g (g_nm g 2) (g_cons g (g_nm g 3) (g_cons g (g_nm g 4) (g_cons g (g_nm g 5) dgs_nil)))))) (dss_cons (s_set g (n_tuple g F (l_cons g ((n_lc g [("_law_k", 8)] (i_rng1 g F (l_cons g (n_nm g 3) da_nil)) (by decide +kernel) (fun _ g => ⟨g_nm g 8, dts_nil, n_ix g ((n_lst g (l_cons g de_int (l_cons g de_int (l_cons g de_int (l_cons g de_int da_nil))))).e) (n_call g F_ldraw (l_cons g (n_nm g 0) (l_cons g de_int da_nil)))⟩)).e) da_nil))) (dss_cons (s_own g (n_lst g da_nil)) (dss_cons (s_for g (vs := [8]) (i_rng1 g F (l_cons g (n_nm g 3) da_nil)) (g_nm g 8) (dss_cons (s_set g (n_call g F_ldraw (l_cons g (n_nm g 0) (l_cons g de_int da_nil)))) (dss_cons (s_expr g (n_append g (n_nm g 7) (l_cons g (n_tup g (l_cons g (n_nm g 8) (l_cons g de_int da_nil))) da_nil))) (dss_cons (ds_if (t_eq g (n_nm g 9) de_int) (dss_one (s_setIx g (n_nm g 7) (n_nm g 8) (n_tup g (l_cons g (n_call g F_ldraw (l_cons g (n_nm g 0) (l_cons g (n_nm g 3) da_nil))) (l_cons g (n_add g de_int (n_call g F_ldraw (l_cons g (n_nm g 0) (l_cons g de_int da_nil)))) da_nil))))) dss_nil) (dss_cons (ds_if (t_eq g (n_nm g 9) de_int) (dss_one (s_setIx g (n_nm g 7) (n_nm g 8) (n_tup g (l_cons g (n_sub g de_int de_int) (l_cons g de_int da_nil))))) dss_nil) (dss_one (ds_if (t_eq g (n_nm g 9) de_int) (dss_one (s_setIx g (n_nm g 7) (n_nm g 8) (n_tup g (l_cons g (n_nm g 8) (l_cons g (n_add g de_int (n_call g F_ldraw (l_cons g (n_nm g 0) (l_cons g de_int da_nil)))) da_nil))))) dss_nil))))))) (dss_frz (dss_cons (s_set g (n_tuple g F (l_cons g ((n_lc g [("_law_k", 8)] (i_rng1 g F (l_cons g (n_nm g 3) da_nil)) (by decide +kernel) (fun _ g => ⟨g_nm g 8, dts_nil, n_ix g ((n_lst g (l_cons g de_int (l_cons g de_int (l_cons g de_int (l_cons g de_int da_nil))))).e) (n_call g F_ldraw (l_cons g (n_nm g 0) (l_cons g de_int da_nil)))⟩)).e) da_nil))) (dss_cons (s_own g (n_lst g da_nil)) (dss_cons (s_for g (vs := [8]) (i_rng1 g F (l_cons g (n_nm g 4) da_nil)) (g_nm g 8) (dss_cons (s_set g (n_ix g ((n_lst g (l_cons g de_str (l_cons g de_str da_nil))).e) (n_call g F_ldraw (l_cons g (n_nm g 0) (l_cons g de_int da_nil))))) (dss_one (ds_if ((dw_or (t_eq g (n_nm g 5) de_int) (dw_or1 (t_eq g (n_call g F_ldraw (l_cons g (n_nm g 0) (l_cons g de_int da_nil))) de_int))).dt) (dss_one (s_expr g (n_append g (n_nm g 11) (l_cons g (n_tup g da_nil) da_nil)))) (dss_one (s_expr g (n_append g (n_nm g 11) (l_cons g (n_tup g (l_cons g (n_nm g 12) (l_cons g (n_call g F_ldraw (l_cons g (n_nm g 0) (l_cons g (n_nm g 5) da_nil))) da_nil))) da_nil)))))))) (dss_frz (dss_one (ds_ret (n_tup g (l_cons g (n_call g F_ldraw (l_cons g (n_nm g 0) (l_cons g (n_nm g 2) da_nil))) (l_cons g (n_nm g 6) (l_cons g (n_tuple g F (l_cons g (n_nm g 7) da_nil)) (l_cons g (n_nm g 10) (l_cons g (n_tuple g F (l_cons g (n_nm g 11) da_nil)) (l_cons g (n_call g F_ldraw (l_cons g (n_nm g 0) (l_cons g (n_nm g 2) da_nil))) da_nil)))))))))))))))))
abbrev s_lmachine : Stmt := top 26
def NN_lmachine : List Str := ["_law_state", "_law_most", "_law_shape_here", "_law_k"]
theorem sc_lmachine : FnScope NN_lmachine ["_law_state", "_law_most"] (defScope s_lmachine) := ⟨rfl, rfl, rfl, by decide +kernel, rfl, by decide +kernel, by decide +kernel⟩
theorem d_lmachine {S_lshape : FSpec} {S_ldraw : FSpec} {S_lrule : FSpec} (F : Fr mg) (F_lshape : Fn P w K mg base T k "_law_shape" S_lshape) (F_ldraw : Fn P w K mg base T k "_law_draw" S_ldraw) (F_lrule : Fn P w K mg base T k "_law_rule" S_lrule) (g : Std P w K mg base NN_lmachine (defScope s_lmachine) (fun _ => true) k W X) : DSs X T W (defBody s_lmachine) (f_lmachine S_lshape S_ldraw S_lrule) :=
  dss_cons (s_set g (n_call g F_lshape (l_cons g (n_nm g 0) da_nil))) (dss_one (ds_ret (n_add g (n_nm g 2) (n_tup g (l_cons g (n_tuple g F (l_cons g ((n_lc g [("_law_k", 3)] (i_rng1 g F (l_cons g (n_call g F_ldraw (l_cons g (n_nm g 0) (l_cons g (n_add g (n_nm g 1) de_int) da_nil))) da_nil)) (by decide +kernel) (fun _ g => ⟨g_nm g 3, dts_nil, n_call g F_lrule (l_cons g (n_nm g 0) (l_cons g (n_nm g 2) da_nil))⟩)).e) da_nil)) da_nil)))))
abbrev s_ltold : Stmt := top 27
def NN_ltold : List Str := ["_law_bench", "_law_choice", "_law_value", "_law_error"]
theorem sc_ltold : FnScope NN_ltold ["_law_bench", "_law_choice", "_law_value"] (defScope s_ltold) := ⟨rfl, rfl, rfl, by decide +kernel, rfl, by decide +kernel, by decide +kernel⟩
theorem d_ltold {S_Workbench____init__ : FSpec} {S_Workbench__add_rule : FSpec} {S_Workbench__drop_rule : FSpec} {c_NotFitting : Addr} {c_UnknownRule : Addr} {c_Workbench : Addr} (F : Fr mg) (F_Workbench____init__ : FnM P w K mg base T k c_Workbench "__init__" S_Workbench____init__) (F_Workbench__add_rule : FnM P w K mg base T k c_Workbench "add_rule" S_Workbench__add_rule) (F_Workbench__drop_rule : FnM P w K mg base T k c_Workbench "drop_rule" S_Workbench__drop_rule) (m_NotFitting : mg "NotFitting" = some (.ref c_NotFitting)) (t_NotFitting : PySem.W.exmOne K (.ref c_NotFitting) (.ref c_NotFitting) = some true) (x_NotFitting : ExcC K c_NotFitting) (k_NotFitting_TooManyStates : Kn K mg c_NotFitting "TooManyStates" false) (k_NotFitting_InvalidLine : Kn K mg c_NotFitting "InvalidLine" false) (k_NotFitting_UpwallError : Kn K mg c_NotFitting "UpwallError" true) (k_NotFitting_UnknownRule : Kn K mg c_NotFitting "UnknownRule" false) (m_UnknownRule : mg "UnknownRule" = some (.ref c_UnknownRule)) (t_UnknownRule : PySem.W.exmOne K (.ref c_UnknownRule) (.ref c_UnknownRule) = some true) (tx_UnknownRule_NotFitting : PySem.W.exmOne K (.ref c_UnknownRule) (.ref c_NotFitting) = some false) (x_UnknownRule : ExcC K c_UnknownRule) (k_UnknownRule_TooManyStates : Kn K mg c_UnknownRule "TooManyStates" false) (k_UnknownRule_InvalidLine : Kn K mg c_UnknownRule "InvalidLine" false) (k_UnknownRule_NotFitting : Kn K mg c_UnknownRule "NotFitting" false) (k_UnknownRule_UpwallError : Kn K mg c_UnknownRule "UpwallError" true) (k_UnknownRule_ValueError : Kn K mg c_UnknownRule "ValueError" true) (m_Workbench : mg "Workbench" = some (.ref c_Workbench)) (cl_Workbench : Cls K c_Workbench) {g0_Workbench : Addr} (mk_Workbench : L2.Mk K c_Workbench g0_Workbench) (g : Std P w K mg base NN_ltold (defScope s_ltold) (fun _ => true) (k + 1) W X) (fr : Fram X) : DSs X T W (defBody s_ltold) (f_ltold S_Workbench____init__ S_Workbench__add_rule S_Workbench__drop_rule c_NotFitting c_UnknownRule c_Workbench) :=
  dss_cons (s_try2 g fr m_NotFitting m_UnknownRule t_NotFitting tx_UnknownRule_NotFitting t_UnknownRule (i := 3) (j := 1) (fun _ _ g => dss_one (ds_if (t_eq g (n_nm g 1) de_int) (dss_one (s_expr g (n_make g mk_Workbench F_Workbench____init__ m_Workbench (l_cons g (n_nm g 2) (l_cons g ((n_lst g da_nil).e) da_nil))))) (dss_one (ds_if (t_eq g (n_nm g 1) de_int) (dss_one (s_expr g (n_meth g cl_Workbench (F_Workbench__add_rule.mono (Nat.le_succ _)) (n_nm g 0) (l_cons g (n_nm g 2) da_nil)))) (dss_one (s_expr g (n_meth g cl_Workbench (F_Workbench__drop_rule.mono (Nat.le_succ _)) (n_nm g 0) (l_cons g (n_nm g 2) da_nil)))))))) (fun _ _ hs => srg_if_f (SW.sb (sw_or (n_isE g F hs x_NotFitting k_NotFitting_TooManyStates) (sw_or1 (n_isE g F hs x_NotFitting k_NotFitting_InvalidLine)))) (srg_ret (sg_and (n_ltG g hs) (sg_and (n_isG g F hs x_NotFitting k_NotFitting_UpwallError) (sg_and1 (sg_not (n_isG g F hs x_NotFitting k_NotFitting_UnknownRule))))))) (fun _ _ hs => srg_if_f (SW.sb (sw_or (n_isE g F hs x_UnknownRule k_UnknownRule_TooManyStates) (sw_or (n_isE g F hs x_UnknownRule k_UnknownRule_InvalidLine) (sw_or1 (n_isE g F hs x_UnknownRule k_UnknownRule_NotFitting))))) (srg_ret (sg_and (n_eqG g hs) (sg_and (n_isG g F hs x_UnknownRule k_UnknownRule_UpwallError) (sg_and1 (n_isG g F hs x_UnknownRule k_UnknownRule_ValueError))))))) (dss_one (ds_ret de_bl))
abbrev s_law : Stmt := top 28
def NN_law : List Str := ["_law_script", "_law_state", "_law_machine_here", "_law_shape_here", "_law_rule_here", "_law_bench", "_law_odd", "_law_wrong", "_law_value", "_law_error", "_law_full"]
theorem sc_law : FnScope NN_law ["_law_script"] (defScope s_law) := ⟨rfl, rfl, rfl, by decide +kernel, rfl, by decide +kernel, by decide +kernel⟩
theorem d_law {S_lmachine : FSpec} {S_lrule : FSpec} {S_Workbench____init__ : FSpec} {S_Workbench__add_rule : FSpec} {S_Workbench__undo : FSpec} {S_ltold : FSpec} {S_Workbench__machine : FSpec} {S_Workbench__redo : FSpec} {c_NotFitting : Addr} {c_Workbench : Addr} {c_InvalidLine : Addr} {c_UpwallError : Addr} {c_TooManyStates : Addr} {c_UnknownRule : Addr} (F : Fr mg) (F_lmachine : Fn P w K mg base T k "_law_machine" S_lmachine) (F_lrule : Fn P w K mg base T k "_law_rule" S_lrule) (F_Workbench____init__ : FnM P w K mg base T k c_Workbench "__init__" S_Workbench____init__) (F_Workbench__add_rule : FnM P w K mg base T k c_Workbench "add_rule" S_Workbench__add_rule) (F_Workbench__undo : FnM P w K mg base T k c_Workbench "undo" S_Workbench__undo) (F_ltold : Fn P w K mg base T k "_law_told" S_ltold) (F_Workbench__machine : FnM P w K mg base T k c_Workbench "machine" S_Workbench__machine) (F_Workbench__redo : FnM P w K mg base T k c_Workbench "redo" S_Workbench__redo) (m_NotFitting : mg "NotFitting" = some (.ref c_NotFitting)) (e_NotFitting : ExcF K c_NotFitting) (x_NotFitting : ExcC K c_NotFitting) (k_NotFitting_UpwallError : Kn K mg c_NotFitting "UpwallError" true) (k_NotFitting_ValueError : Kn K mg c_NotFitting "ValueError" true) (m_Workbench : mg "Workbench" = some (.ref c_Workbench)) (cl_Workbench : Cls K c_Workbench) {g0_Workbench : Addr} (mk_Workbench : L2.Mk K c_Workbench g0_Workbench) (m_InvalidLine : mg "InvalidLine" = some (.ref c_InvalidLine)) (i_InvalidLine : IlC P K c_InvalidLine "line " " cannot be read") (x_InvalidLine : ExcC K c_InvalidLine) (k_InvalidLine_UpwallError : Kn K mg c_InvalidLine "UpwallError" true) (k_InvalidLine_ValueError : Kn K mg c_InvalidLine "ValueError" true) (m_UpwallError : mg "UpwallError" = some (.ref c_UpwallError)) (e_UpwallError : ExcF K c_UpwallError) (x_UpwallError : ExcC K c_UpwallError) (k_UpwallError_UpwallError : Kn K mg c_UpwallError "UpwallError" true) (k_UpwallError_ValueError : Kn K mg c_UpwallError "ValueError" true) (m_TooManyStates : mg "TooManyStates" = some (.ref c_TooManyStates)) (e_TooManyStates : ExcF K c_TooManyStates) (x_TooManyStates : ExcC K c_TooManyStates) (k_TooManyStates_UpwallError : Kn K mg c_TooManyStates "UpwallError" true) (k_TooManyStates_ValueError : Kn K mg c_TooManyStates "ValueError" true) (m_UnknownRule : mg "UnknownRule" = some (.ref c_UnknownRule)) (e_UnknownRule : ExcF K c_UnknownRule) (x_UnknownRule : ExcC K c_UnknownRule) (k_UnknownRule_UpwallError : Kn K mg c_UnknownRule "UpwallError" true) (k_UnknownRule_ValueError : Kn K mg c_UnknownRule "ValueError" true) (g : Std P w K mg base NN_law (defScope s_law) (fun _ => true) (k + 1) W X) : DSs X T W (defBody s_law) (f_law S_lmachine S_lrule S_Workbench____init__ S_Workbench__add_rule S_Workbench__undo S_ltold S_Workbench__machine S_Workbench__redo c_NotFitting c_Workbench c_InvalidLine c_UpwallError c_TooManyStates c_UnknownRule) :=
  dss_cons (s_own g (n_lst g (l_cons g de_int (l_cons g de_int (l_cons g ((n_list g F (l_cons g (n_nm g 0) da_nil)).e) (l_cons g de_int da_nil)))))) (dss_cons (s_set g (n_call g (F_lmachine.mono (Nat.le_succ _)) (l_cons g (n_nm g 1) (l_cons g de_int da_nil)))) (dss_cons (s_set g (de_sl (n_nm g 2) do_no (do_some de_int))) (dss_cons (s_set g (n_call g (F_lrule.mono (Nat.le_succ _)) (l_cons g (n_nm g 1) (l_cons g (n_nm g 3) da_nil)))) (dss_cons (s_set g (n_make g mk_Workbench F_Workbench____init__ m_Workbench (l_cons g (n_nm g 2) (l_cons g ((n_lst g da_nil).e) da_nil)))) (dss_cons (s_expr g (n_meth g cl_Workbench (F_Workbench__add_rule.mono (Nat.le_succ _)) (n_nm g 5) (l_cons g (n_nm g 4) da_nil))) (dss_cons (s_expr g (n_meth0 g cl_Workbench (F_Workbench__undo.mono (Nat.le_succ _)) (n_nm g 5))) (dss_cons (s_set g ((n_lst g (l_cons g (n_add g (n_tup g (l_cons g (n_ix g (n_nm g 3) de_int) da_nil)) (de_sl (n_nm g 4) (do_some de_int) do_no)) (l_cons g (n_add g (de_sl (n_nm g 4) do_no (do_some de_int)) (n_tup g (l_cons g (n_ix g (n_nm g 3) de_int) da_nil))) (l_cons g (n_add g (n_add g (de_sl (n_nm g 4) do_no (do_some de_int)) (n_tup g (l_cons g (n_add g (n_ix g (n_nm g 4) de_int) (n_tup g (l_cons g de_int da_nil))) da_nil))) (de_sl (n_nm g 4) (do_some de_int) do_no)) (l_cons g (n_add g (n_tup g (l_cons g (n_sub g de_int de_int) da_nil)) (de_sl (n_nm g 4) (do_some de_int) do_no)) da_nil))))).e)) (dss_cons (s_set g ((n_lst g (l_cons g (n_add g (n_tup g (l_cons g de_int da_nil)) (de_sl (n_nm g 2) (do_some de_int) do_no)) (l_cons g (n_add g (de_sl (n_nm g 2) do_no (do_some de_int)) (n_tup g (l_cons g (de_sl (n_nm g 6) (do_some de_int) (do_some de_int)) da_nil))) (l_cons g (n_add g (de_sl (n_nm g 2) do_no (do_some de_int)) (n_tup g (l_cons g (n_mul g (n_tup g (l_cons g (n_nm g 4) da_nil)) de_int) da_nil))) da_nil)))).e)) (dss_cons (s_for g (vs := [8]) (di_seq (n_nm g 7)) (g_nm g 8) (dss_one (ds_if ((dw_or (dt_not (t_tr g (n_call g (F_ltold.mono (Nat.le_succ _)) (l_cons g (n_nm g 5) (l_cons g de_int (l_cons g (n_nm g 8) da_nil)))))) (dw_or1 (t_ne g (n_meth0 g cl_Workbench (F_Workbench__machine.mono (Nat.le_succ _)) (n_nm g 5)) (n_nm g 2)))).dt) (dss_one (ds_ret de_bl)) dss_nil))) (dss_cons (s_for g (vs := [8]) (di_seq (n_nm g 6)) (g_nm g 8) (dss_one (ds_if ((dw_or (dt_not (t_tr g (n_call g (F_ltold.mono (Nat.le_succ _)) (l_cons g (n_nm g 5) (l_cons g de_int (l_cons g (n_nm g 8) da_nil)))))) (dw_or1 (t_ne g (n_meth0 g cl_Workbench (F_Workbench__machine.mono (Nat.le_succ _)) (n_nm g 5)) (n_nm g 2)))).dt) (dss_one (ds_ret de_bl)) dss_nil))) (dss_cons (s_for g (vs := [8]) (di_seq ((n_lst g (l_cons g (n_sub g de_int de_int) (l_cons g (n_len g F (l_cons g (n_ix g (n_nm g 2) de_int) da_nil)) (l_cons g de_int da_nil)))).e)) (g_nm g 8) (dss_one (ds_if ((dw_or (dt_not (t_tr g (n_call g (F_ltold.mono (Nat.le_succ _)) (l_cons g (n_nm g 5) (l_cons g de_int (l_cons g (n_nm g 8) da_nil)))))) (dw_or1 (t_ne g (n_meth0 g cl_Workbench (F_Workbench__machine.mono (Nat.le_succ _)) (n_nm g 5)) (n_nm g 2)))).dt) (dss_one (ds_ret de_bl)) dss_nil))) (dss_cons (ds_if ((dw_or (t_isNot g (n_meth0 g cl_Workbench (F_Workbench__undo.mono (Nat.le_succ _)) (n_nm g 5)) de_bl) (dw_or1 (t_isNot g (n_meth0 g cl_Workbench (F_Workbench__redo.mono (Nat.le_succ _)) (n_nm g 5)) de_bl))).dt) (dss_one (ds_ret de_bl)) dss_nil) (dss_cons (s_excs (Cs := [c_NotFitting, c_UnknownRule, c_TooManyStates, c_UpwallError, c_InvalidLine]) (i := 9) g (pxs_cons (n_X1 g m_NotFitting e_NotFitting) (pxs_cons (n_X1 g m_UnknownRule e_UnknownRule) (pxs_cons (n_X1 g m_TooManyStates e_TooManyStates) (pxs_cons (n_X1 g m_UpwallError e_UpwallError) (pxs_cons (n_XN g m_InvalidLine i_InvalidLine) (pxs_nil) rfl) rfl) rfl) rfl) rfl) (n_notX (n_isX g F (List.forall_mem_cons.mpr ⟨x_NotFitting, (List.forall_mem_cons.mpr ⟨x_UnknownRule, (List.forall_mem_cons.mpr ⟨x_TooManyStates, (List.forall_mem_cons.mpr ⟨x_UpwallError, (List.forall_mem_cons.mpr ⟨x_InvalidLine, List.forall_mem_nil _⟩)⟩)⟩)⟩)⟩) (kn_all (by exact fun h => nomatch h) (List.forall_mem_cons.mpr ⟨k_NotFitting_UpwallError, (List.forall_mem_cons.mpr ⟨k_UnknownRule_UpwallError, (List.forall_mem_cons.mpr ⟨k_TooManyStates_UpwallError, (List.forall_mem_cons.mpr ⟨k_UpwallError_UpwallError, (List.forall_mem_cons.mpr ⟨k_InvalidLine_UpwallError, List.forall_mem_nil _⟩)⟩)⟩)⟩)⟩))) (n_isX g F (List.forall_mem_cons.mpr ⟨x_NotFitting, (List.forall_mem_cons.mpr ⟨x_UnknownRule, (List.forall_mem_cons.mpr ⟨x_TooManyStates, (List.forall_mem_cons.mpr ⟨x_UpwallError, (List.forall_mem_cons.mpr ⟨x_InvalidLine, List.forall_mem_nil _⟩)⟩)⟩)⟩)⟩) (kn_all (by exact fun h => nomatch h) (List.forall_mem_cons.mpr ⟨k_NotFitting_ValueError, (List.forall_mem_cons.mpr ⟨k_UnknownRule_ValueError, (List.forall_mem_cons.mpr ⟨k_TooManyStates_ValueError, (List.forall_mem_cons.mpr ⟨k_UpwallError_ValueError, (List.forall_mem_cons.mpr ⟨k_InvalidLine_ValueError, List.forall_mem_nil _⟩)⟩)⟩)⟩)⟩))))) (dss_cons (s_set g (n_make g mk_Workbench F_Workbench____init__ m_Workbench (l_cons g (n_add g (n_nm g 3) (n_tup g (l_cons g (n_mul g (n_tup g (l_cons g (n_nm g 4) da_nil)) de_int) da_nil))) (l_cons g ((n_lst g da_nil).e) da_nil)))) (dss_one (ds_ret (de_and (n_call g (F_ltold.mono (Nat.le_succ _)) (l_cons g (n_nm g 10) (l_cons g de_int (l_cons g (n_nm g 4) da_nil)))) (de_one (n_eq g (n_meth0 g cl_Workbench (F_Workbench__machine.mono (Nat.le_succ _)) (n_nm g 10)) (n_add g (n_nm g 3) (n_tup g (l_cons g (n_mul g (n_tup g (l_cons g (n_nm g 4) da_nil)) de_int) da_nil))))))))))))))))))))))
abbrev s_Workbench____init__ : Stmt := mthOf (top 21) 0
def NN_Workbench____init__ : List Str := ["self", "machine", "goal"]
theorem sc_Workbench____init__ : FnScope NN_Workbench____init__ ["self", "machine", "goal"] (defScope s_Workbench____init__) := ⟨rfl, rfl, rfl, by decide +kernel, rfl, by decide +kernel, by decide +kernel⟩
theorem d_Workbench____init__ {S_fault : FSpec} {c_NotFitting : Addr} {c_Workbench : Addr} (F : Fr mg) (F_fault : Fn P w K mg base T k "fault" S_fault) (m_NotFitting : mg "NotFitting" = some (.ref c_NotFitting)) (e_NotFitting : ExcF K c_NotFitting) (m_Workbench : mg "Workbench" = some (.ref c_Workbench)) (cl_Workbench : Cls K c_Workbench) (na_Workbench__machine : NoAttr K c_Workbench "_machine") (na_Workbench__goal : NoAttr K c_Workbench "_goal") (na_Workbench__floor : NoAttr K c_Workbench "_floor") (na_Workbench__made : NoAttr K c_Workbench "_made") (na_Workbench__behind : NoAttr K c_Workbench "_behind") (na_Workbench__ahead : NoAttr K c_Workbench "_ahead") (g : Std P w K mg base NN_Workbench____init__ (defScope s_Workbench____init__) (fun _ => true) k W X) : DSs X T W (defBody s_Workbench____init__) (f_Workbench____init__ S_fault c_NotFitting c_Workbench) :=
  dss_cons (ds_if (t_isNot g (n_call g F_fault (l_cons g (n_nm g 1) da_nil)) de_non) (dss_one (s_raise g m_NotFitting e_NotFitting)) dss_nil) (dss_cons (s_setF g cl_Workbench na_Workbench__machine (n_nm g 0) (n_nm g 1)) (dss_cons (s_setF g cl_Workbench na_Workbench__goal (n_nm g 0) ((n_list g F (l_cons g (n_nm g 2) da_nil)).e)) (dss_cons (s_setF g cl_Workbench na_Workbench__floor (n_nm g 0) de_non) (dss_cons (s_setF g cl_Workbench na_Workbench__made (n_nm g 0) de_int) (dss_cons (s_ownF g cl_Workbench na_Workbench__behind (n_nm g 0) (n_lst g da_nil)) (dss_one (s_ownF g cl_Workbench na_Workbench__ahead (n_nm g 0) (n_lst g da_nil))))))))
abbrev s_Workbench__machine : Stmt := mthOf (top 21) 1
def NN_Workbench__machine : List Str := ["self"]
theorem sc_Workbench__machine : FnScope NN_Workbench__machine ["self"] (defScope s_Workbench__machine) := ⟨rfl, rfl, rfl, by decide +kernel, rfl, by decide +kernel, by decide +kernel⟩
theorem d_Workbench__machine {c_Workbench : Addr} (m_Workbench : mg "Workbench" = some (.ref c_Workbench)) (cl_Workbench : Cls K c_Workbench) (na_Workbench__machine : NoAttr K c_Workbench "_machine") (g : Std P w K mg base NN_Workbench__machine (defScope s_Workbench__machine) (fun _ => true) k W X) : DSs X T W (defBody s_Workbench__machine) (f_Workbench__machine c_Workbench) :=
  dss_one (ds_ret (n_fld g cl_Workbench na_Workbench__machine (n_nm g 0)))
abbrev s_Workbench___set : Stmt := mthOf (top 21) 2
def NN_Workbench___set : List Str := ["self", "machine"]
theorem sc_Workbench___set : FnScope NN_Workbench___set ["self", "machine"] (defScope s_Workbench___set) := ⟨rfl, rfl, rfl, by decide +kernel, rfl, by decide +kernel, by decide +kernel⟩
theorem d_Workbench___set {c_Workbench : Addr} (m_Workbench : mg "Workbench" = some (.ref c_Workbench)) (cl_Workbench : Cls K c_Workbench) (na_Workbench__machine : NoAttr K c_Workbench "_machine") (na_Workbench__floor : NoAttr K c_Workbench "_floor") (g : Std P w K mg base NN_Workbench___set (defScope s_Workbench___set) (fun _ => true) k W X) : DSs X T W (defBody s_Workbench___set) (f_Workbench___set c_Workbench) :=
  dss_cons (ds_if (t_ne g (n_nm g 1) (n_fld g cl_Workbench na_Workbench__machine (n_nm g 0))) (dss_one (s_setF g cl_Workbench na_Workbench__floor (n_nm g 0) de_non)) dss_nil) (dss_one (s_setF g cl_Workbench na_Workbench__machine (n_nm g 0) (n_nm g 1)))
abbrev s_Workbench___change : Stmt := mthOf (top 21) 3
def NN_Workbench___change : List Str := ["self", "rules", "machine"]
theorem sc_Workbench___change : FnScope NN_Workbench___change ["self", "rules"] (defScope s_Workbench___change) := ⟨rfl, rfl, rfl, by decide +kernel, rfl, by decide +kernel, by decide +kernel⟩
theorem d_Workbench___change {S_fault : FSpec} {S_Workbench___set : FSpec} {c_Workbench : Addr} {c_NotFitting : Addr} (F_fault : Fn P w K mg base T k "fault" S_fault) (F_Workbench___set : FnM P w K mg base T k c_Workbench "_set" S_Workbench___set) (m_Workbench : mg "Workbench" = some (.ref c_Workbench)) (cl_Workbench : Cls K c_Workbench) (na_Workbench__machine : NoAttr K c_Workbench "_machine") (na_Workbench__behind : NoAttr K c_Workbench "_behind") (na_Workbench__ahead : NoAttr K c_Workbench "_ahead") (m_NotFitting : mg "NotFitting" = some (.ref c_NotFitting)) (e_NotFitting : ExcF K c_NotFitting) (g : Std P w K mg base NN_Workbench___change (defScope s_Workbench___change) (fun _ => true) k W X) : DSs X T W (defBody s_Workbench___change) (f_Workbench___change S_fault S_Workbench___set c_Workbench c_NotFitting) :=
  dss_cons (s_set g (n_add g (de_sl (n_fld g cl_Workbench na_Workbench__machine (n_nm g 0)) do_no (do_some de_int)) (n_tup g (l_cons g (n_nm g 1) da_nil)))) (dss_cons (ds_if (t_isNot g (n_call g F_fault (l_cons g (n_nm g 2) da_nil)) de_non) (dss_one (s_raise g m_NotFitting e_NotFitting)) dss_nil) (dss_cons (s_expr g (n_append g (n_fld g cl_Workbench na_Workbench__behind (n_nm g 0)) (l_cons g (n_fld g cl_Workbench na_Workbench__machine (n_nm g 0)) da_nil))) (dss_cons (s_ownF g cl_Workbench na_Workbench__ahead (n_nm g 0) (n_lst g da_nil)) (dss_one (s_expr g (n_meth g cl_Workbench F_Workbench___set (n_nm g 0) (l_cons g (n_nm g 2) da_nil)))))))
abbrev s_Workbench__add_rule : Stmt := mthOf (top 21) 4
def NN_Workbench__add_rule : List Str := ["self", "rule"]
theorem sc_Workbench__add_rule : FnScope NN_Workbench__add_rule ["self", "rule"] (defScope s_Workbench__add_rule) := ⟨rfl, rfl, rfl, by decide +kernel, rfl, by decide +kernel, by decide +kernel⟩
theorem d_Workbench__add_rule {S_Workbench___change : FSpec} {c_NotFitting : Addr} {c_Workbench : Addr} (F_Workbench___change : FnM P w K mg base T k c_Workbench "_change" S_Workbench___change) (m_NotFitting : mg "NotFitting" = some (.ref c_NotFitting)) (m_Workbench : mg "Workbench" = some (.ref c_Workbench)) (cl_Workbench : Cls K c_Workbench) (na_Workbench__machine : NoAttr K c_Workbench "_machine") (g : Std P w K mg base NN_Workbench__add_rule (defScope s_Workbench__add_rule) (fun _ => true) k W X) : DSs X T W (defBody s_Workbench__add_rule) (f_Workbench__add_rule S_Workbench___change c_NotFitting c_Workbench) :=
  dss_one (s_expr g (n_meth g cl_Workbench F_Workbench___change (n_nm g 0) (l_cons g (n_add g (n_ix g (n_fld g cl_Workbench na_Workbench__machine (n_nm g 0)) de_int) (n_tup g (l_cons g (n_nm g 1) da_nil))) da_nil)))
abbrev s_Workbench__drop_rule : Stmt := mthOf (top 21) 5
def NN_Workbench__drop_rule : List Str := ["self", "number", "rules"]
theorem sc_Workbench__drop_rule : FnScope NN_Workbench__drop_rule ["self", "number"] (defScope s_Workbench__drop_rule) := ⟨rfl, rfl, rfl, by decide +kernel, rfl, by decide +kernel, by decide +kernel⟩
theorem d_Workbench__drop_rule {S_Workbench___change : FSpec} {c_Workbench : Addr} {c_UnknownRule : Addr} {c_NotFitting : Addr} (F : Fr mg) (F_Workbench___change : FnM P w K mg base T k c_Workbench "_change" S_Workbench___change) (m_Workbench : mg "Workbench" = some (.ref c_Workbench)) (cl_Workbench : Cls K c_Workbench) (na_Workbench__machine : NoAttr K c_Workbench "_machine") (m_UnknownRule : mg "UnknownRule" = some (.ref c_UnknownRule)) (e_UnknownRule : ExcF K c_UnknownRule) (m_NotFitting : mg "NotFitting" = some (.ref c_NotFitting)) (g : Std P w K mg base NN_Workbench__drop_rule (defScope s_Workbench__drop_rule) (fun _ => true) k W X) : DSs X T W (defBody s_Workbench__drop_rule) (f_Workbench__drop_rule S_Workbench___change c_Workbench c_UnknownRule c_NotFitting) :=
  dss_cons (s_set g (n_ix g (n_fld g cl_Workbench na_Workbench__machine (n_nm g 0)) de_int)) (dss_cons (ds_if (dt_not (t_leLt g de_int (n_nm g 1) (n_len g F (l_cons g (n_nm g 2) da_nil)))) (dss_one (s_raise g m_UnknownRule e_UnknownRule)) dss_nil) (dss_one (s_expr g (n_meth g cl_Workbench F_Workbench___change (n_nm g 0) (l_cons g (n_add g (de_sl (n_nm g 2) do_no (do_some (n_nm g 1))) (de_sl (n_nm g 2) (do_some (n_add g (n_nm g 1) de_int)) do_no)) da_nil)))))
abbrev s_Workbench__undo : Stmt := mthOf (top 21) 6
def NN_Workbench__undo : List Str := ["self"]
theorem sc_Workbench__undo : FnScope NN_Workbench__undo ["self"] (defScope s_Workbench__undo) := ⟨rfl, rfl, rfl, by decide +kernel, rfl, by decide +kernel, by decide +kernel⟩
theorem d_Workbench__undo {S_Workbench___set : FSpec} {c_Workbench : Addr} (F_Workbench___set : FnM P w K mg base T k c_Workbench "_set" S_Workbench___set) (m_Workbench : mg "Workbench" = some (.ref c_Workbench)) (cl_Workbench : Cls K c_Workbench) (na_Workbench__behind : NoAttr K c_Workbench "_behind") (na_Workbench__ahead : NoAttr K c_Workbench "_ahead") (na_Workbench__machine : NoAttr K c_Workbench "_machine") (g : Std P w K mg base NN_Workbench__undo (defScope s_Workbench__undo) (fun _ => true) k W X) : DSs X T W (defBody s_Workbench__undo) (f_Workbench__undo S_Workbench___set c_Workbench) :=
  dss_cons (ds_if (dt_not (t_tr g (n_fld g cl_Workbench na_Workbench__behind (n_nm g 0)))) (dss_one (ds_ret de_bl)) dss_nil) (dss_cons (s_expr g (n_append g (n_fld g cl_Workbench na_Workbench__ahead (n_nm g 0)) (l_cons g (n_fld g cl_Workbench na_Workbench__machine (n_nm g 0)) da_nil))) (dss_cons (s_expr g (n_meth g cl_Workbench F_Workbench___set (n_nm g 0) (l_cons g (n_pop g (n_fld g cl_Workbench na_Workbench__behind (n_nm g 0))) da_nil))) (dss_one (ds_ret de_bl))))
abbrev s_Workbench__redo : Stmt := mthOf (top 21) 7
def NN_Workbench__redo : List Str := ["self"]
theorem sc_Workbench__redo : FnScope NN_Workbench__redo ["self"] (defScope s_Workbench__redo) := ⟨rfl, rfl, rfl, by decide +kernel, rfl, by decide +kernel, by decide +kernel⟩
theorem d_Workbench__redo {S_Workbench___set : FSpec} {c_Workbench : Addr} (F_Workbench___set : FnM P w K mg base T k c_Workbench "_set" S_Workbench___set) (m_Workbench : mg "Workbench" = some (.ref c_Workbench)) (cl_Workbench : Cls K c_Workbench) (na_Workbench__ahead : NoAttr K c_Workbench "_ahead") (na_Workbench__behind : NoAttr K c_Workbench "_behind") (na_Workbench__machine : NoAttr K c_Workbench "_machine") (g : Std P w K mg base NN_Workbench__redo (defScope s_Workbench__redo) (fun _ => true) k W X) : DSs X T W (defBody s_Workbench__redo) (f_Workbench__redo S_Workbench___set c_Workbench) :=
  dss_cons (ds_if (dt_not (t_tr g (n_fld g cl_Workbench na_Workbench__ahead (n_nm g 0)))) (dss_one (ds_ret de_bl)) dss_nil) (dss_cons (s_expr g (n_append g (n_fld g cl_Workbench na_Workbench__behind (n_nm g 0)) (l_cons g (n_fld g cl_Workbench na_Workbench__machine (n_nm g 0)) da_nil))) (dss_cons (s_expr g (n_meth g cl_Workbench F_Workbench___set (n_nm g 0) (l_cons g (n_pop g (n_fld g cl_Workbench na_Workbench__ahead (n_nm g 0))) da_nil))) (dss_one (ds_ret de_bl))))
end
abbrev FnP (K : PySem.W.Frag) (x : Str) (st : Stmt) (f : Addr) (fd : FuncData) : Prop := FunD K x x (defArgs st) (defBody st) (defScope st) [] [] f fd
def dD (x : Str) (st : Stmt) : He.DefD := ⟨(x, none), x, x, defArgs st, defBody st, defScope st, [], []⟩
def tfD : List He.Defn := [("are_numbers", none), ("is_rule", none)]
abbrev FnQ (K : PySem.W.Frag) (m q : Str) (st : Stmt) (f : Addr) (fd : FuncData) : Prop := FunD K m q (defArgs st) (defBody st) (defScope st) [] [] f fd
def dM (C m q : Str) (st : Stmt) : He.DefD := ⟨(C, some m), m, q, defArgs st, defBody st, defScope st, [], []⟩
def fnD : List He.DefD := [dD "are_numbers" s_are_numbers, dD "is_pour" s_is_pour, dD "is_act" s_is_act, dD "is_rule" s_is_rule, dD "fault" s_fault, dD "_law_draw" s_ldraw, dD "_law_shape" s_lshape, dD "_law_rule" s_lrule, dD "_law_machine" s_lmachine, dD "_law_told" s_ltold, dD "law" s_law, dM "Workbench" "__init__" "Workbench.__init__" s_Workbench____init__, dM "Workbench" "machine" "Workbench.machine" s_Workbench__machine, dM "Workbench" "_set" "Workbench._set" s_Workbench___set, dM "Workbench" "_change" "Workbench._change" s_Workbench___change, dM "Workbench" "add_rule" "Workbench.add_rule" s_Workbench__add_rule, dM "Workbench" "drop_rule" "Workbench.drop_rule" s_Workbench__drop_rule, dM "Workbench" "undo" "Workbench.undo" s_Workbench__undo, dM "Workbench" "redo" "Workbench.redo" s_Workbench__redo]
def faD : List He.Fa := (fnD.take 11).map (fun d => .glo d.name) ++ frNames.map .free ++ [.int "MOST_MODES" 6, .int "MOST_COUNTERS" 4, .int "MOST_QUEUES" 2, .int "MOST_LETTERS" 3, .int "MOST_RULES" 20, .int "MOST_NUMBER" 20, .int "MOST_FACTOR" 3, .glo "NotFitting", .exm "NotFitting" "NotFitting" true, .glo "TooManyStates", .glo "InvalidLine", .glo "UpwallError", .glo "UnknownRule", .exm "UnknownRule" "UnknownRule" true, .exm "UnknownRule" "NotFitting" false, .free "ValueError", .glo "Workbench", .cls "Workbench", .meth "Workbench" "__init__", .meth "Workbench" "machine", .meth "Workbench" "_set", .meth "Workbench" "_change", .meth "Workbench" "add_rule", .meth "Workbench" "drop_rule", .meth "Workbench" "undo", .meth "Workbench" "redo", .mkr "Workbench", .exc "NotFitting", .exc "UpwallError", .exc "TooManyStates", .exc "UnknownRule", .noat "Workbench" "_machine", .noat "Workbench" "_goal", .noat "Workbench" "_floor", .noat "Workbench" "_made", .noat "Workbench" "_behind", .noat "Workbench" "_ahead"]
abbrev RR : PySem.W.OpenRow := PySem.W.OpenLaw.row PySem.Challenge.rw_upwall_k40_workbenches_refuse
def exD : PySem.W.Frag → Bool := fun K => (excB K (He.ga K "NotFitting") && (decide (PySem.W.kitOne K (.ref (He.ga K "NotFitting")) (.ref (He.ga K "TooManyStates")) = some false) && (decide (PySem.W.kitOne K (.ref (He.ga K "NotFitting")) (.ref (He.ga K "InvalidLine")) = some false) && (decide (PySem.W.kitOne K (.ref (He.ga K "NotFitting")) (.ref (He.ga K "UpwallError")) = some true) && (decide (PySem.W.kitOne K (.ref (He.ga K "NotFitting")) (.ref (He.ga K "UnknownRule")) = some false) && (excB K (He.ga K "UnknownRule") && (decide (PySem.W.kitOne K (.ref (He.ga K "UnknownRule")) (.ref (He.ga K "TooManyStates")) = some false) && (decide (PySem.W.kitOne K (.ref (He.ga K "UnknownRule")) (.ref (He.ga K "InvalidLine")) = some false) && (decide (PySem.W.kitOne K (.ref (He.ga K "UnknownRule")) (.ref (He.ga K "NotFitting")) = some false) && (decide (PySem.W.kitOne K (.ref (He.ga K "UnknownRule")) (.ref (He.ga K "UpwallError")) = some true) && (decide (PySem.W.kitOne K (.ref (He.ga K "UnknownRule")) (.type "ValueError") = some true) && (decide (PySem.W.kitOne K (.ref (He.ga K "NotFitting")) (.type "ValueError") = some true) && (ilB RR.prog K "InvalidLine" && (xfB K (He.ga K "InvalidLine") && (excB K (He.ga K "InvalidLine") && (decide (PySem.W.kitOne K (.ref (He.ga K "InvalidLine")) (.ref (He.ga K "UpwallError")) = some true) && (decide (PySem.W.kitOne K (.ref (He.ga K "InvalidLine")) (.type "ValueError") = some true) && (excB K (He.ga K "UpwallError") && (decide (PySem.W.kitOne K (.ref (He.ga K "UpwallError")) (.ref (He.ga K "UpwallError")) = some true) && (decide (PySem.W.kitOne K (.ref (He.ga K "UpwallError")) (.type "ValueError") = some true) && (excB K (He.ga K "TooManyStates") && (decide (PySem.W.kitOne K (.ref (He.ga K "TooManyStates")) (.ref (He.ga K "UpwallError")) = some true) && (decide (PySem.W.kitOne K (.ref (He.ga K "TooManyStates")) (.type "ValueError") = some true) && true)))))))))))))))))))))))
def mth_InvalidLine : Stmt := match top 4 with
  | .ClassDef _ _ _ b _ _ _ _ _ _ _ => b.getD 0 (.Pass ⟨0, 0, 0, 0⟩)
  | s => s
def clD : List (Str × Option Str) := [("InvalidLine", some "__init__")]
def cvD : List FnC := [some ("__init__", "InvalidLine.__init__", defArgs mth_InvalidLine, FuncBody.stmts (defBody mth_InvalidLine), defScope mth_InvalidLine, mainGlobals, [("__class__" : Str)], builtinsNs)]
abbrev hk : PySem.W.Hook := hookY 5 faD fnD tfD exD clD cvD
def ob (s : PySem.W.SharedT) : AlY := obsY 5 faD fnD tfD exD clD (HandSHeadRun.getT s)
theorem ob_eq (s : PySem.W.SharedT) : ob s = hk.obs s.abs := obsY_eq (HandSHeadRun.getT_eq s)
def loose : List Str := (["_wall", "__name__", "UpwallError", "TooManyStates", "InvalidLine", "UnknownRule", "NotFitting", "MOST_MODES", "MOST_COUNTERS", "MOST_QUEUES", "MOST_LETTERS", "MOST_RULES", "MOST_NUMBER", "MOST_FACTOR", "are_numbers", "is_pour", "is_act", "is_rule", "fault", "Workbench", "_law_draw", "_law_shape", "_law_rule", "_law_machine", "_law_told"] : List Str)
theorem run (w : World) : HandSHeadRun.RunEq RR (PySem.W.view RR.prog [28]) hk ob 6000 loose w := by
  intro os
  kernel_rfl
section
variable {K : PySem.W.Frag} {h : Heap} {mg : Str → Option Value}
theorem h_are_numbers (KX : K.In h) (G : h.Ns mainGlobals mg) (c : He.SaysD faD fnD K) : ∃ fd, FnP K "are_numbers" s_are_numbers (He.fAd K ("are_numbers", none)) fd ∧ mg "are_numbers" = some (.ref (He.fAd K ("are_numbers", none))) ∧ Binds K fd ["row", "count"] [] := by
  obtain ⟨fd, F⟩ := c.def_ 0 (d := dD "are_numbers" s_are_numbers) rfl
  exact ⟨fd, F, He.glo_ok KX G (c.fact 0 (f := .glo "are_numbers") rfl), FunD.bindsN (ps := ["row", "count"]) F fun _ _ _ _ _ _ us hl => match us, hl with | [_, _], _ => rfl⟩
theorem h_is_pour (KX : K.In h) (G : h.Ns mainGlobals mg) (c : He.SaysD faD fnD K) : ∃ fd, FnP K "is_pour" s_is_pour (He.fAd K ("is_pour", none)) fd ∧ mg "is_pour" = some (.ref (He.fAd K ("is_pour", none))) ∧ Binds K fd ["pour", "counters"] [] := by
  obtain ⟨fd, F⟩ := c.def_ 1 (d := dD "is_pour" s_is_pour) rfl
  exact ⟨fd, F, He.glo_ok KX G (c.fact 1 (f := .glo "is_pour") rfl), FunD.bindsN (ps := ["pour", "counters"]) F fun _ _ _ _ _ _ us hl => match us, hl with | [_, _], _ => rfl⟩
theorem h_is_act (KX : K.In h) (G : h.Ns mainGlobals mg) (c : He.SaysD faD fnD K) : ∃ fd, FnP K "is_act" s_is_act (He.fAd K ("is_act", none)) fd ∧ mg "is_act" = some (.ref (He.fAd K ("is_act", none))) ∧ Binds K fd ["act", "letters"] [] := by
  obtain ⟨fd, F⟩ := c.def_ 2 (d := dD "is_act" s_is_act) rfl
  exact ⟨fd, F, He.glo_ok KX G (c.fact 2 (f := .glo "is_act") rfl), FunD.bindsN (ps := ["act", "letters"]) F fun _ _ _ _ _ _ us hl => match us, hl with | [_, _], _ => rfl⟩
theorem h_is_rule (KX : K.In h) (G : h.Ns mainGlobals mg) (c : He.SaysD faD fnD K) : ∃ fd, FnP K "is_rule" s_is_rule (He.fAd K ("is_rule", none)) fd ∧ mg "is_rule" = some (.ref (He.fAd K ("is_rule", none))) ∧ Binds K fd ["machine", "rule"] [] := by
  obtain ⟨fd, F⟩ := c.def_ 3 (d := dD "is_rule" s_is_rule) rfl
  exact ⟨fd, F, He.glo_ok KX G (c.fact 3 (f := .glo "is_rule") rfl), FunD.bindsN (ps := ["machine", "rule"]) F fun _ _ _ _ _ _ us hl => match us, hl with | [_, _], _ => rfl⟩
theorem h_fault (KX : K.In h) (G : h.Ns mainGlobals mg) (c : He.SaysD faD fnD K) : ∃ fd, FnP K "fault" s_fault (He.fAd K ("fault", none)) fd ∧ mg "fault" = some (.ref (He.fAd K ("fault", none))) ∧ Binds K fd ["machine"] [] := by
  obtain ⟨fd, F⟩ := c.def_ 4 (d := dD "fault" s_fault) rfl
  exact ⟨fd, F, He.glo_ok KX G (c.fact 4 (f := .glo "fault") rfl), FunD.bindsN (ps := ["machine"]) F fun _ _ _ _ _ _ us hl => match us, hl with | [_], _ => rfl⟩
theorem h_ldraw (KX : K.In h) (G : h.Ns mainGlobals mg) (c : He.SaysD faD fnD K) : ∃ fd, FnP K "_law_draw" s_ldraw (He.fAd K ("_law_draw", none)) fd ∧ mg "_law_draw" = some (.ref (He.fAd K ("_law_draw", none))) ∧ Binds K fd ["_law_state", "_law_limit"] [] := by
  obtain ⟨fd, F⟩ := c.def_ 5 (d := dD "_law_draw" s_ldraw) rfl
  exact ⟨fd, F, He.glo_ok KX G (c.fact 5 (f := .glo "_law_draw") rfl), FunD.bindsN (ps := ["_law_state", "_law_limit"]) F fun _ _ _ _ _ _ us hl => match us, hl with | [_, _], _ => rfl⟩
theorem h_lshape (KX : K.In h) (G : h.Ns mainGlobals mg) (c : He.SaysD faD fnD K) : ∃ fd, FnP K "_law_shape" s_lshape (He.fAd K ("_law_shape", none)) fd ∧ mg "_law_shape" = some (.ref (He.fAd K ("_law_shape", none))) ∧ Binds K fd ["_law_state"] [] := by
  obtain ⟨fd, F⟩ := c.def_ 6 (d := dD "_law_shape" s_lshape) rfl
  exact ⟨fd, F, He.glo_ok KX G (c.fact 6 (f := .glo "_law_shape") rfl), FunD.bindsN (ps := ["_law_state"]) F fun _ _ _ _ _ _ us hl => match us, hl with | [_], _ => rfl⟩
theorem h_lrule (KX : K.In h) (G : h.Ns mainGlobals mg) (c : He.SaysD faD fnD K) : ∃ fd, FnP K "_law_rule" s_lrule (He.fAd K ("_law_rule", none)) fd ∧ mg "_law_rule" = some (.ref (He.fAd K ("_law_rule", none))) ∧ Binds K fd ["_law_state", "_law_shape_here"] [] := by
  obtain ⟨fd, F⟩ := c.def_ 7 (d := dD "_law_rule" s_lrule) rfl
  exact ⟨fd, F, He.glo_ok KX G (c.fact 7 (f := .glo "_law_rule") rfl), FunD.bindsN (ps := ["_law_state", "_law_shape_here"]) F fun _ _ _ _ _ _ us hl => match us, hl with | [_, _], _ => rfl⟩
theorem h_lmachine (KX : K.In h) (G : h.Ns mainGlobals mg) (c : He.SaysD faD fnD K) : ∃ fd, FnP K "_law_machine" s_lmachine (He.fAd K ("_law_machine", none)) fd ∧ mg "_law_machine" = some (.ref (He.fAd K ("_law_machine", none))) ∧ Binds K fd ["_law_state", "_law_most"] [] := by
  obtain ⟨fd, F⟩ := c.def_ 8 (d := dD "_law_machine" s_lmachine) rfl
  exact ⟨fd, F, He.glo_ok KX G (c.fact 8 (f := .glo "_law_machine") rfl), FunD.bindsN (ps := ["_law_state", "_law_most"]) F fun _ _ _ _ _ _ us hl => match us, hl with | [_, _], _ => rfl⟩
theorem h_ltold (KX : K.In h) (G : h.Ns mainGlobals mg) (c : He.SaysD faD fnD K) : ∃ fd, FnP K "_law_told" s_ltold (He.fAd K ("_law_told", none)) fd ∧ mg "_law_told" = some (.ref (He.fAd K ("_law_told", none))) ∧ Binds K fd ["_law_bench", "_law_choice", "_law_value"] [] := by
  obtain ⟨fd, F⟩ := c.def_ 9 (d := dD "_law_told" s_ltold) rfl
  exact ⟨fd, F, He.glo_ok KX G (c.fact 9 (f := .glo "_law_told") rfl), FunD.bindsN (ps := ["_law_bench", "_law_choice", "_law_value"]) F fun _ _ _ _ _ _ us hl => match us, hl with | [_, _, _], _ => rfl⟩
theorem h_Workbench____init__ (c : He.SaysD faD fnD K) : ∃ fd, FnQ K "__init__" "Workbench.__init__" s_Workbench____init__ (He.fAd K ("Workbench", some "__init__")) fd ∧ Meth K (He.ga K "Workbench") "__init__" (He.fAd K ("Workbench", some "__init__")) ∧ Binds K fd ["self", "machine", "goal"] [] := by
  obtain ⟨fd, F⟩ := c.def_ 11 (d := dM "Workbench" "__init__" "Workbench.__init__" s_Workbench____init__) rfl
  exact ⟨fd, F, He.meth_ok (c.facts (f := .meth "Workbench" "__init__") (List.mem_append_right _ (by simp))), FunD.bindsN (ps := ["self", "machine", "goal"]) F fun _ _ _ _ _ _ us hl => match us, hl with | [_, _, _], _ => rfl⟩
theorem h_Workbench__machine (c : He.SaysD faD fnD K) : ∃ fd, FnQ K "machine" "Workbench.machine" s_Workbench__machine (He.fAd K ("Workbench", some "machine")) fd ∧ Meth K (He.ga K "Workbench") "machine" (He.fAd K ("Workbench", some "machine")) ∧ Binds K fd ["self"] [] := by
  obtain ⟨fd, F⟩ := c.def_ 12 (d := dM "Workbench" "machine" "Workbench.machine" s_Workbench__machine) rfl
  exact ⟨fd, F, He.meth_ok (c.facts (f := .meth "Workbench" "machine") (List.mem_append_right _ (by simp))), FunD.bindsN (ps := ["self"]) F fun _ _ _ _ _ _ us hl => match us, hl with | [_], _ => rfl⟩
theorem h_Workbench___set (c : He.SaysD faD fnD K) : ∃ fd, FnQ K "_set" "Workbench._set" s_Workbench___set (He.fAd K ("Workbench", some "_set")) fd ∧ Meth K (He.ga K "Workbench") "_set" (He.fAd K ("Workbench", some "_set")) ∧ Binds K fd ["self", "machine"] [] := by
  obtain ⟨fd, F⟩ := c.def_ 13 (d := dM "Workbench" "_set" "Workbench._set" s_Workbench___set) rfl
  exact ⟨fd, F, He.meth_ok (c.facts (f := .meth "Workbench" "_set") (List.mem_append_right _ (by simp))), FunD.bindsN (ps := ["self", "machine"]) F fun _ _ _ _ _ _ us hl => match us, hl with | [_, _], _ => rfl⟩
theorem h_Workbench___change (c : He.SaysD faD fnD K) : ∃ fd, FnQ K "_change" "Workbench._change" s_Workbench___change (He.fAd K ("Workbench", some "_change")) fd ∧ Meth K (He.ga K "Workbench") "_change" (He.fAd K ("Workbench", some "_change")) ∧ Binds K fd ["self", "rules"] [] := by
  obtain ⟨fd, F⟩ := c.def_ 14 (d := dM "Workbench" "_change" "Workbench._change" s_Workbench___change) rfl
  exact ⟨fd, F, He.meth_ok (c.facts (f := .meth "Workbench" "_change") (List.mem_append_right _ (by simp))), FunD.bindsN (ps := ["self", "rules"]) F fun _ _ _ _ _ _ us hl => match us, hl with | [_, _], _ => rfl⟩
theorem h_Workbench__add_rule (c : He.SaysD faD fnD K) : ∃ fd, FnQ K "add_rule" "Workbench.add_rule" s_Workbench__add_rule (He.fAd K ("Workbench", some "add_rule")) fd ∧ Meth K (He.ga K "Workbench") "add_rule" (He.fAd K ("Workbench", some "add_rule")) ∧ Binds K fd ["self", "rule"] [] := by
  obtain ⟨fd, F⟩ := c.def_ 15 (d := dM "Workbench" "add_rule" "Workbench.add_rule" s_Workbench__add_rule) rfl
  exact ⟨fd, F, He.meth_ok (c.facts (f := .meth "Workbench" "add_rule") (List.mem_append_right _ (by simp))), FunD.bindsN (ps := ["self", "rule"]) F fun _ _ _ _ _ _ us hl => match us, hl with | [_, _], _ => rfl⟩
theorem h_Workbench__drop_rule (c : He.SaysD faD fnD K) : ∃ fd, FnQ K "drop_rule" "Workbench.drop_rule" s_Workbench__drop_rule (He.fAd K ("Workbench", some "drop_rule")) fd ∧ Meth K (He.ga K "Workbench") "drop_rule" (He.fAd K ("Workbench", some "drop_rule")) ∧ Binds K fd ["self", "number"] [] := by
  obtain ⟨fd, F⟩ := c.def_ 16 (d := dM "Workbench" "drop_rule" "Workbench.drop_rule" s_Workbench__drop_rule) rfl
  exact ⟨fd, F, He.meth_ok (c.facts (f := .meth "Workbench" "drop_rule") (List.mem_append_right _ (by simp))), FunD.bindsN (ps := ["self", "number"]) F fun _ _ _ _ _ _ us hl => match us, hl with | [_, _], _ => rfl⟩
theorem h_Workbench__undo (c : He.SaysD faD fnD K) : ∃ fd, FnQ K "undo" "Workbench.undo" s_Workbench__undo (He.fAd K ("Workbench", some "undo")) fd ∧ Meth K (He.ga K "Workbench") "undo" (He.fAd K ("Workbench", some "undo")) ∧ Binds K fd ["self"] [] := by
  obtain ⟨fd, F⟩ := c.def_ 17 (d := dM "Workbench" "undo" "Workbench.undo" s_Workbench__undo) rfl
  exact ⟨fd, F, He.meth_ok (c.facts (f := .meth "Workbench" "undo") (List.mem_append_right _ (by simp))), FunD.bindsN (ps := ["self"]) F fun _ _ _ _ _ _ us hl => match us, hl with | [_], _ => rfl⟩
theorem h_Workbench__redo (c : He.SaysD faD fnD K) : ∃ fd, FnQ K "redo" "Workbench.redo" s_Workbench__redo (He.fAd K ("Workbench", some "redo")) fd ∧ Meth K (He.ga K "Workbench") "redo" (He.fAd K ("Workbench", some "redo")) ∧ Binds K fd ["self"] [] := by
  obtain ⟨fd, F⟩ := c.def_ 18 (d := dM "Workbench" "redo" "Workbench.redo" s_Workbench__redo) rfl
  exact ⟨fd, F, He.meth_ok (c.facts (f := .meth "Workbench" "redo") (List.mem_append_right _ (by simp))), FunD.bindsN (ps := ["self"]) F fun _ _ _ _ _ _ us hl => match us, hl with | [_], _ => rfl⟩
theorem h_fr (KX : K.In h) (G : h.Ns mainGlobals mg) (c : He.SaysD faD fnD K) : Fr mg := Fr.of fun x hx => by
  obtain ⟨i, hi, e⟩ := List.mem_iff_getElem.mp hx
  exact He.free_ok KX G (c.facts (f := .free x) (List.mem_append_left _ (List.mem_append_right _ (List.mem_map_of_mem hx))))
theorem h_MOST_MODES (KX : K.In h) (G : h.Ns mainGlobals mg) (c : He.SaysD faD fnD K) : ∃ t, mg "MOST_MODES" = some (.int 6 t) := He.int_ok KX G (c.facts (f := .int "MOST_MODES" 6) (List.mem_append_right _ (by simp)))
theorem h_MOST_COUNTERS (KX : K.In h) (G : h.Ns mainGlobals mg) (c : He.SaysD faD fnD K) : ∃ t, mg "MOST_COUNTERS" = some (.int 4 t) := He.int_ok KX G (c.facts (f := .int "MOST_COUNTERS" 4) (List.mem_append_right _ (by simp)))
theorem h_MOST_QUEUES (KX : K.In h) (G : h.Ns mainGlobals mg) (c : He.SaysD faD fnD K) : ∃ t, mg "MOST_QUEUES" = some (.int 2 t) := He.int_ok KX G (c.facts (f := .int "MOST_QUEUES" 2) (List.mem_append_right _ (by simp)))
theorem h_MOST_LETTERS (KX : K.In h) (G : h.Ns mainGlobals mg) (c : He.SaysD faD fnD K) : ∃ t, mg "MOST_LETTERS" = some (.int 3 t) := He.int_ok KX G (c.facts (f := .int "MOST_LETTERS" 3) (List.mem_append_right _ (by simp)))
theorem h_MOST_RULES (KX : K.In h) (G : h.Ns mainGlobals mg) (c : He.SaysD faD fnD K) : ∃ t, mg "MOST_RULES" = some (.int 20 t) := He.int_ok KX G (c.facts (f := .int "MOST_RULES" 20) (List.mem_append_right _ (by simp)))
theorem h_MOST_NUMBER (KX : K.In h) (G : h.Ns mainGlobals mg) (c : He.SaysD faD fnD K) : ∃ t, mg "MOST_NUMBER" = some (.int 20 t) := He.int_ok KX G (c.facts (f := .int "MOST_NUMBER" 20) (List.mem_append_right _ (by simp)))
theorem h_MOST_FACTOR (KX : K.In h) (G : h.Ns mainGlobals mg) (c : He.SaysD faD fnD K) : ∃ t, mg "MOST_FACTOR" = some (.int 3 t) := He.int_ok KX G (c.facts (f := .int "MOST_FACTOR" 3) (List.mem_append_right _ (by simp)))
end

end U

set_option Elab.async false
set_option linter.all false
set_option maxRecDepth 100000
set_option maxHeartbeats 0
namespace U
open PySem PySem.Spec PyProof.Rows L2
theorem all_holds {w : World} {K : PySem.W.Frag} {h : Heap} {mg : Str → Option Value} {fa : Addr} (KX : K.In h) (G : h.Ns mainGlobals mg) (cy : SaysY faD fnD tfD exD clD cvD w h K) (hfa : mg "law" = some (.ref fa)) : LamX.LawAtS PySem.Challenge.rw_upwall_k40_workbenches_refuse w K (L2.CX (PySem.Challenge.rw_upwall_k40_workbenches_refuse).prog w) 13 63 "_law_script" mg fa h := by
  have cx := cy.x
  have c := cx.t.d
  obtain ⟨fd_ldraw, F_ldraw, m_ldraw, b_ldraw_⟩ := h_ldraw KX G c
  obtain ⟨fd_lshape, F_lshape, m_lshape, b_lshape_⟩ := h_lshape KX G c
  obtain ⟨fd_lrule, F_lrule, m_lrule, b_lrule_⟩ := h_lrule KX G c
  obtain ⟨fd_lmachine, F_lmachine, m_lmachine, b_lmachine_⟩ := h_lmachine KX G c
  obtain ⟨fd_are_numbers, F_are_numbers, m_are_numbers, b_are_numbers_⟩ := h_are_numbers KX G c
  obtain ⟨fd_is_pour, F_is_pour, m_is_pour, b_is_pour_⟩ := h_is_pour KX G c
  obtain ⟨fd_is_act, F_is_act, m_is_act, b_is_act_⟩ := h_is_act KX G c
  obtain ⟨fd_is_rule, F_is_rule, m_is_rule, b_is_rule_⟩ := h_is_rule KX G c
  obtain ⟨fd_fault, F_fault, m_fault, b_fault_⟩ := h_fault KX G c
  obtain ⟨fd_Workbench____init__, F_Workbench____init__, m_Workbench____init__, b_Workbench____init___⟩ := h_Workbench____init__ c
  obtain ⟨fd_Workbench___set, F_Workbench___set, m_Workbench___set, b_Workbench___set_⟩ := h_Workbench___set c
  obtain ⟨fd_Workbench___change, F_Workbench___change, m_Workbench___change, b_Workbench___change_⟩ := h_Workbench___change c
  obtain ⟨fd_Workbench__add_rule, F_Workbench__add_rule, m_Workbench__add_rule, b_Workbench__add_rule_⟩ := h_Workbench__add_rule c
  obtain ⟨fd_Workbench__undo, F_Workbench__undo, m_Workbench__undo, b_Workbench__undo_⟩ := h_Workbench__undo c
  obtain ⟨fd_Workbench__drop_rule, F_Workbench__drop_rule, m_Workbench__drop_rule, b_Workbench__drop_rule_⟩ := h_Workbench__drop_rule c
  obtain ⟨fd_ltold, F_ltold, m_ltold, b_ltold_⟩ := h_ltold KX G c
  obtain ⟨fd_Workbench__machine, F_Workbench__machine, m_Workbench__machine, b_Workbench__machine_⟩ := h_Workbench__machine c
  obtain ⟨fd_Workbench__redo, F_Workbench__redo, m_Workbench__redo, b_Workbench__redo_⟩ := h_Workbench__redo c
  obtain ⟨fd, F_law⟩ := c.def_ 10 (d := dD "law" s_law) rfl
  have e := hfa.symm.trans (He.glo_ok KX G (c.fact 10 (f := .glo "law") rfl))
  cases e
  have Z : Fr mg := h_fr KX G c
  obtain ⟨t_MOST_MODES, i_MOST_MODES⟩ := h_MOST_MODES KX G c
  obtain ⟨t_MOST_COUNTERS, i_MOST_COUNTERS⟩ := h_MOST_COUNTERS KX G c
  obtain ⟨t_MOST_QUEUES, i_MOST_QUEUES⟩ := h_MOST_QUEUES KX G c
  obtain ⟨t_MOST_LETTERS, i_MOST_LETTERS⟩ := h_MOST_LETTERS KX G c
  obtain ⟨t_MOST_RULES, i_MOST_RULES⟩ := h_MOST_RULES KX G c
  obtain ⟨t_MOST_NUMBER, i_MOST_NUMBER⟩ := h_MOST_NUMBER KX G c
  obtain ⟨t_MOST_FACTOR, i_MOST_FACTOR⟩ := h_MOST_FACTOR KX G c
  have bl := FunD.bindsA (ps := ["_law_script"]) F_law fun _ _ _ _ _ _ us hl => match us, hl with | [_], _ => rfl
  refine law_at (S := S_law) (tfD.map (He.cT K)) (fun p hp => by obtain ⟨q, hq, rfl⟩ := List.mem_map.mp hp; exact cx.empty q hq) (fun p hp => by obtain ⟨q, hq, rfl⟩ := List.mem_map.mp hp; exact cx.out q hq) (fun p hp => by obtain ⟨q, hq, rfl⟩ := List.mem_map.mp hp; exact PySem.W.codeHd_of_K KX (cx.hd q hq)) (fun s u => bl s [u] rfl) s_law_of fun base _ _ hB => ?_
  have hm := cx.more
  unfold exD at hm
  simp only [Bool.and_eq_true, decide_eq_true_eq, and_true] at hm
  obtain ⟨qx_NotFitting, qk_NotFitting_TooManyStates, qk_NotFitting_InvalidLine, qk_NotFitting_UpwallError, qk_NotFitting_UnknownRule, qx_UnknownRule, qk_UnknownRule_TooManyStates, qk_UnknownRule_InvalidLine, qk_UnknownRule_NotFitting, qk_UnknownRule_UpwallError, qk_UnknownRule_ValueError, qk_NotFitting_ValueError, qi_InvalidLine, qf_InvalidLine, qx_InvalidLine, qk_InvalidLine_UpwallError, qk_InvalidLine_ValueError, qx_UpwallError, qk_UpwallError_UpwallError, qk_UpwallError_ValueError, qx_TooManyStates, qk_TooManyStates_UpwallError, qk_TooManyStates_ValueError⟩ := hm
  have m_NotFitting := He.glo_ok KX G (c.facts (f := .glo "NotFitting") (List.mem_append_right _ (by simp)))
  have t_NotFitting := He.exm_ok (c.facts (f := .exm "NotFitting" "NotFitting" true) (List.mem_append_right _ (by simp)))
  have x_NotFitting := excB_ok qx_NotFitting
  have k_NotFitting_TooManyStates : Kn K mg (He.ga K "NotFitting") "TooManyStates" false := Kn.own (He.glo_ok KX G (c.facts (f := .glo "TooManyStates") (List.mem_append_right _ (by simp)))) qk_NotFitting_TooManyStates
  have k_NotFitting_InvalidLine : Kn K mg (He.ga K "NotFitting") "InvalidLine" false := Kn.own (He.glo_ok KX G (c.facts (f := .glo "InvalidLine") (List.mem_append_right _ (by simp)))) qk_NotFitting_InvalidLine
  have k_NotFitting_UpwallError : Kn K mg (He.ga K "NotFitting") "UpwallError" true := Kn.own (He.glo_ok KX G (c.facts (f := .glo "UpwallError") (List.mem_append_right _ (by simp)))) qk_NotFitting_UpwallError
  have k_NotFitting_UnknownRule : Kn K mg (He.ga K "NotFitting") "UnknownRule" false := Kn.own (He.glo_ok KX G (c.facts (f := .glo "UnknownRule") (List.mem_append_right _ (by simp)))) qk_NotFitting_UnknownRule
  have m_UnknownRule := He.glo_ok KX G (c.facts (f := .glo "UnknownRule") (List.mem_append_right _ (by simp)))
  have t_UnknownRule := He.exm_ok (c.facts (f := .exm "UnknownRule" "UnknownRule" true) (List.mem_append_right _ (by simp)))
  have tx_UnknownRule_NotFitting := He.exm_ok (c.facts (f := .exm "UnknownRule" "NotFitting" false) (List.mem_append_right _ (by simp)))
  have x_UnknownRule := excB_ok qx_UnknownRule
  have k_UnknownRule_TooManyStates : Kn K mg (He.ga K "UnknownRule") "TooManyStates" false := Kn.own (He.glo_ok KX G (c.facts (f := .glo "TooManyStates") (List.mem_append_right _ (by simp)))) qk_UnknownRule_TooManyStates
  have k_UnknownRule_InvalidLine : Kn K mg (He.ga K "UnknownRule") "InvalidLine" false := Kn.own (He.glo_ok KX G (c.facts (f := .glo "InvalidLine") (List.mem_append_right _ (by simp)))) qk_UnknownRule_InvalidLine
  have k_UnknownRule_NotFitting : Kn K mg (He.ga K "UnknownRule") "NotFitting" false := Kn.own (He.glo_ok KX G (c.facts (f := .glo "NotFitting") (List.mem_append_right _ (by simp)))) qk_UnknownRule_NotFitting
  have k_UnknownRule_UpwallError : Kn K mg (He.ga K "UnknownRule") "UpwallError" true := Kn.own (He.glo_ok KX G (c.facts (f := .glo "UpwallError") (List.mem_append_right _ (by simp)))) qk_UnknownRule_UpwallError
  have k_UnknownRule_ValueError : Kn K mg (He.ga K "UnknownRule") "ValueError" true := Kn.ty (He.free_ok KX G (c.facts (f := .free "ValueError") (List.mem_append_right _ (by simp)))) (by rfl) (by decide) qk_UnknownRule_ValueError
  have m_Workbench := He.glo_ok KX G (c.facts (f := .glo "Workbench") (List.mem_append_right _ (by simp)))
  have cl_Workbench := He.cls_ok (c.facts (f := .cls "Workbench") (List.mem_append_right _ (by simp)))
  have mk_Workbench := He.mkr_ok (c.facts (f := .mkr "Workbench") (List.mem_append_right _ (by simp)))
  have e_NotFitting : ExcF K (He.ga K "NotFitting") := let z := He.exc_ok (c.facts (f := .exc "NotFitting") (List.mem_append_right _ (by simp))); ⟨z.1, z.2.1, z.2.2.1, z.2.2.2⟩
  have k_NotFitting_ValueError : Kn K mg (He.ga K "NotFitting") "ValueError" true := Kn.ty (He.free_ok KX G (c.facts (f := .free "ValueError") (List.mem_append_right _ (by simp)))) (by rfl) (by decide) qk_NotFitting_ValueError
  have m_InvalidLine := He.glo_ok KX G (c.facts (f := .glo "InvalidLine") (List.mem_append_right _ (by simp)))
  have i_InvalidLine : IlC (PySem.Challenge.rw_upwall_k40_workbenches_refuse).prog K (He.ga K "InvalidLine") "line " " cannot be read" := by
    have e : fnC K ("InvalidLine", some "__init__") = some (("__init__" : Str), ("InvalidLine.__init__" : Str), defArgs mth_InvalidLine, FuncBody.stmts (defBody mth_InvalidLine), defScope mth_InvalidLine, mainGlobals, [("__class__" : Str)], builtinsNs) := by
      have z := congrArg (fun l : List FnC => l[0]?) cy.c
      exact Option.some.inj z
    obtain ⟨cc, cda, F, i1, i2⟩ := ilB_ok qi_InvalidLine e
    exact ⟨⟨_, cc, cda, "InvalidLine.__init__", defArgs mth_InvalidLine, defBody mth_InvalidLine, defScope mth_InvalidLine, F, ⟨by decide +kernel, by decide +kernel, by decide +kernel, by decide +kernel, by decide +kernel, rfl, rfl, rfl, ⟨_, rfl, rfl⟩⟩, ⟨⟨_, _, _, _, _, _, _, _, _, _, _, _, _, _, _, _, rfl, fun L => ⟨_, rfl⟩, fun L => rfl, fun L => rfl, fun L => rfl⟩, fun _ _ _ _ _ _ _ _ => BindsTo.of_eq rfl⟩, i1, i2⟩, xfB_ok qf_InvalidLine, F.num⟩
  have x_InvalidLine := excB_ok qx_InvalidLine
  have k_InvalidLine_UpwallError : Kn K mg (He.ga K "InvalidLine") "UpwallError" true := Kn.own (He.glo_ok KX G (c.facts (f := .glo "UpwallError") (List.mem_append_right _ (by simp)))) qk_InvalidLine_UpwallError
  have k_InvalidLine_ValueError : Kn K mg (He.ga K "InvalidLine") "ValueError" true := Kn.ty (He.free_ok KX G (c.facts (f := .free "ValueError") (List.mem_append_right _ (by simp)))) (by rfl) (by decide) qk_InvalidLine_ValueError
  have m_UpwallError := He.glo_ok KX G (c.facts (f := .glo "UpwallError") (List.mem_append_right _ (by simp)))
  have e_UpwallError : ExcF K (He.ga K "UpwallError") := let z := He.exc_ok (c.facts (f := .exc "UpwallError") (List.mem_append_right _ (by simp))); ⟨z.1, z.2.1, z.2.2.1, z.2.2.2⟩
  have x_UpwallError := excB_ok qx_UpwallError
  have k_UpwallError_UpwallError : Kn K mg (He.ga K "UpwallError") "UpwallError" true := Kn.own (He.glo_ok KX G (c.facts (f := .glo "UpwallError") (List.mem_append_right _ (by simp)))) qk_UpwallError_UpwallError
  have k_UpwallError_ValueError : Kn K mg (He.ga K "UpwallError") "ValueError" true := Kn.ty (He.free_ok KX G (c.facts (f := .free "ValueError") (List.mem_append_right _ (by simp)))) (by rfl) (by decide) qk_UpwallError_ValueError
  have m_TooManyStates := He.glo_ok KX G (c.facts (f := .glo "TooManyStates") (List.mem_append_right _ (by simp)))
  have e_TooManyStates : ExcF K (He.ga K "TooManyStates") := let z := He.exc_ok (c.facts (f := .exc "TooManyStates") (List.mem_append_right _ (by simp))); ⟨z.1, z.2.1, z.2.2.1, z.2.2.2⟩
  have x_TooManyStates := excB_ok qx_TooManyStates
  have k_TooManyStates_UpwallError : Kn K mg (He.ga K "TooManyStates") "UpwallError" true := Kn.own (He.glo_ok KX G (c.facts (f := .glo "UpwallError") (List.mem_append_right _ (by simp)))) qk_TooManyStates_UpwallError
  have k_TooManyStates_ValueError : Kn K mg (He.ga K "TooManyStates") "ValueError" true := Kn.ty (He.free_ok KX G (c.facts (f := .free "ValueError") (List.mem_append_right _ (by simp)))) (by rfl) (by decide) qk_TooManyStates_ValueError
  have e_UnknownRule : ExcF K (He.ga K "UnknownRule") := let z := He.exc_ok (c.facts (f := .exc "UnknownRule") (List.mem_append_right _ (by simp))); ⟨z.1, z.2.1, z.2.2.1, z.2.2.2⟩
  have na_Workbench__machine := He.noat_ok (c.facts (f := .noat "Workbench" "_machine") (List.mem_append_right _ (by simp)))
  have na_Workbench__goal := He.noat_ok (c.facts (f := .noat "Workbench" "_goal") (List.mem_append_right _ (by simp)))
  have na_Workbench__floor := He.noat_ok (c.facts (f := .noat "Workbench" "_floor") (List.mem_append_right _ (by simp)))
  have na_Workbench__made := He.noat_ok (c.facts (f := .noat "Workbench" "_made") (List.mem_append_right _ (by simp)))
  have na_Workbench__behind := He.noat_ok (c.facts (f := .noat "Workbench" "_behind") (List.mem_append_right _ (by simp)))
  have na_Workbench__ahead := He.noat_ok (c.facts (f := .noat "Workbench" "_ahead") (List.mem_append_right _ (by simp)))
  have A_ldraw : Fn (PySem.Challenge.rw_upwall_k40_workbenches_refuse).prog w K mg base ((tfD.map (He.cT K)).map (·.2)) 1 "_law_draw" S_ldraw := fn_ok F_ldraw m_ldraw sc_ldraw b_ldraw_ (by
    intro ds M Q xw h
    first
      | exact h.elim
      | (obtain ⟨_, e, _⟩ := h; subst e; rfl)
      | (obtain ⟨_, _, e, _⟩ := h; subst e; rfl)
      | (obtain ⟨_, _, _, e, _⟩ := h; subst e; rfl)
      | (obtain ⟨_, _, _, _, e, _⟩ := h; subst e; rfl)
      | (obtain ⟨_, _, _, _, _, e, _⟩ := h; subst e; rfl)
      | (obtain ⟨_, _, _, _, _, _, e, _⟩ := h; subst e; rfl)
      | (obtain ⟨_, _, _, _, _, _, _, e, _⟩ := h; subst e; rfl)
      | (obtain ⟨_, _, _, _, _, _, _, _, e, _⟩ := h; subst e; rfl)
      | (obtain ⟨_, _, _, _, _, _, _, _, e, _⟩ := h; subst e; rfl)
      | (obtain ⟨_, _, _, _, _, _, _, _, _, e, _⟩ := h; subst e; rfl)
      | (obtain ⟨_, _, _, _, _, _, _, _, _, _, e, _⟩ := h; subst e; rfl)
      | (obtain ⟨_, _, _, _, _, _, _, _, _, _, _, e, _⟩ := h; subst e; rfl)
      | (obtain ⟨_, _, _, _, _, _, _, _, _, _, _, _, e, _⟩ := h; subst e; rfl)
      | (obtain ⟨_, _, e, e2, _⟩ := h; subst e e2; rfl)
      | (obtain ⟨_, _, e, ⟨_, e2, _⟩, _⟩ := h; subst e e2; rfl)
      | (obtain ⟨_, _, e, ⟨_, _, e2, _⟩, _⟩ := h; subst e e2; rfl)
      | (obtain ⟨_, _, e, ⟨_, _, _, e2, _⟩, _⟩ := h; subst e e2; rfl)
      | (obtain ⟨_, _, e, ⟨_, _, _, _, e2, _⟩, _⟩ := h; subst e e2; rfl)) (fun X W g => d_ldraw Z g) (bodyN rfl b_ldraw)
  have A_lshape : Fn (PySem.Challenge.rw_upwall_k40_workbenches_refuse).prog w K mg base ((tfD.map (He.cT K)).map (·.2)) 2 "_law_shape" S_lshape := fn_ok F_lshape m_lshape sc_lshape b_lshape_ (by
    intro ds M Q xw h
    first
      | exact h.elim
      | (obtain ⟨_, e, _⟩ := h; subst e; rfl)
      | (obtain ⟨_, _, e, _⟩ := h; subst e; rfl)
      | (obtain ⟨_, _, _, e, _⟩ := h; subst e; rfl)
      | (obtain ⟨_, _, _, _, e, _⟩ := h; subst e; rfl)
      | (obtain ⟨_, _, _, _, _, e, _⟩ := h; subst e; rfl)
      | (obtain ⟨_, _, _, _, _, _, e, _⟩ := h; subst e; rfl)
      | (obtain ⟨_, _, _, _, _, _, _, e, _⟩ := h; subst e; rfl)
      | (obtain ⟨_, _, _, _, _, _, _, _, e, _⟩ := h; subst e; rfl)
      | (obtain ⟨_, _, _, _, _, _, _, _, e, _⟩ := h; subst e; rfl)
      | (obtain ⟨_, _, _, _, _, _, _, _, _, e, _⟩ := h; subst e; rfl)
      | (obtain ⟨_, _, _, _, _, _, _, _, _, _, e, _⟩ := h; subst e; rfl)
      | (obtain ⟨_, _, _, _, _, _, _, _, _, _, _, e, _⟩ := h; subst e; rfl)
      | (obtain ⟨_, _, _, _, _, _, _, _, _, _, _, _, e, _⟩ := h; subst e; rfl)
      | (obtain ⟨_, _, e, e2, _⟩ := h; subst e e2; rfl)
      | (obtain ⟨_, _, e, ⟨_, e2, _⟩, _⟩ := h; subst e e2; rfl)
      | (obtain ⟨_, _, e, ⟨_, _, e2, _⟩, _⟩ := h; subst e e2; rfl)
      | (obtain ⟨_, _, e, ⟨_, _, _, e2, _⟩, _⟩ := h; subst e e2; rfl)
      | (obtain ⟨_, _, e, ⟨_, _, _, _, e2, _⟩, _⟩ := h; subst e e2; rfl)) (fun X W g => d_lshape (A_ldraw.mono (by decide)) g) (bodyN rfl b_lshape)
  have A_lrule : Fn (PySem.Challenge.rw_upwall_k40_workbenches_refuse).prog w K mg base ((tfD.map (He.cT K)).map (·.2)) 2 "_law_rule" S_lrule := fn_ok F_lrule m_lrule sc_lrule b_lrule_ (by
    intro ds M Q xw h
    first
      | exact h.elim
      | (obtain ⟨_, e, _⟩ := h; subst e; rfl)
      | (obtain ⟨_, _, e, _⟩ := h; subst e; rfl)
      | (obtain ⟨_, _, _, e, _⟩ := h; subst e; rfl)
      | (obtain ⟨_, _, _, _, e, _⟩ := h; subst e; rfl)
      | (obtain ⟨_, _, _, _, _, e, _⟩ := h; subst e; rfl)
      | (obtain ⟨_, _, _, _, _, _, e, _⟩ := h; subst e; rfl)
      | (obtain ⟨_, _, _, _, _, _, _, e, _⟩ := h; subst e; rfl)
      | (obtain ⟨_, _, _, _, _, _, _, _, e, _⟩ := h; subst e; rfl)
      | (obtain ⟨_, _, _, _, _, _, _, _, e, _⟩ := h; subst e; rfl)
      | (obtain ⟨_, _, _, _, _, _, _, _, _, e, _⟩ := h; subst e; rfl)
      | (obtain ⟨_, _, _, _, _, _, _, _, _, _, e, _⟩ := h; subst e; rfl)
      | (obtain ⟨_, _, _, _, _, _, _, _, _, _, _, e, _⟩ := h; subst e; rfl)
      | (obtain ⟨_, _, _, _, _, _, _, _, _, _, _, _, e, _⟩ := h; subst e; rfl)
      | (obtain ⟨_, _, e, e2, _⟩ := h; subst e e2; rfl)
      | (obtain ⟨_, _, e, ⟨_, e2, _⟩, _⟩ := h; subst e e2; rfl)
      | (obtain ⟨_, _, e, ⟨_, _, e2, _⟩, _⟩ := h; subst e e2; rfl)
      | (obtain ⟨_, _, e, ⟨_, _, _, e2, _⟩, _⟩ := h; subst e e2; rfl)
      | (obtain ⟨_, _, e, ⟨_, _, _, _, e2, _⟩, _⟩ := h; subst e e2; rfl)) (fun X W g => d_lrule Z (A_ldraw.mono (by decide)) g) (bodyN rfl b_lrule)
  have A_lmachine : Fn (PySem.Challenge.rw_upwall_k40_workbenches_refuse).prog w K mg base ((tfD.map (He.cT K)).map (·.2)) 3 "_law_machine" S_lmachine := fn_ok F_lmachine m_lmachine sc_lmachine b_lmachine_ (by
    intro ds M Q xw h
    first
      | exact h.elim
      | (obtain ⟨_, e, _⟩ := h; subst e; rfl)
      | (obtain ⟨_, _, e, _⟩ := h; subst e; rfl)
      | (obtain ⟨_, _, _, e, _⟩ := h; subst e; rfl)
      | (obtain ⟨_, _, _, _, e, _⟩ := h; subst e; rfl)
      | (obtain ⟨_, _, _, _, _, e, _⟩ := h; subst e; rfl)
      | (obtain ⟨_, _, _, _, _, _, e, _⟩ := h; subst e; rfl)
      | (obtain ⟨_, _, _, _, _, _, _, e, _⟩ := h; subst e; rfl)
      | (obtain ⟨_, _, _, _, _, _, _, _, e, _⟩ := h; subst e; rfl)
      | (obtain ⟨_, _, _, _, _, _, _, _, e, _⟩ := h; subst e; rfl)
      | (obtain ⟨_, _, _, _, _, _, _, _, _, e, _⟩ := h; subst e; rfl)
      | (obtain ⟨_, _, _, _, _, _, _, _, _, _, e, _⟩ := h; subst e; rfl)
      | (obtain ⟨_, _, _, _, _, _, _, _, _, _, _, e, _⟩ := h; subst e; rfl)
      | (obtain ⟨_, _, _, _, _, _, _, _, _, _, _, _, e, _⟩ := h; subst e; rfl)
      | (obtain ⟨_, _, e, e2, _⟩ := h; subst e e2; rfl)
      | (obtain ⟨_, _, e, ⟨_, e2, _⟩, _⟩ := h; subst e e2; rfl)
      | (obtain ⟨_, _, e, ⟨_, _, e2, _⟩, _⟩ := h; subst e e2; rfl)
      | (obtain ⟨_, _, e, ⟨_, _, _, e2, _⟩, _⟩ := h; subst e e2; rfl)
      | (obtain ⟨_, _, e, ⟨_, _, _, _, e2, _⟩, _⟩ := h; subst e e2; rfl)) (fun X W g => d_lmachine Z (A_lshape.mono (by decide)) (A_ldraw.mono (by decide)) (A_lrule.mono (by decide)) g) (bodyN rfl b_lmachine)
  have mt_are_numbers : (("are_numbers", none) : He.Defn) ∈ tfD := by simp [tfD]
  have A_are_numbers : Fn (PySem.Challenge.rw_upwall_k40_workbenches_refuse).prog w K mg base ((tfD.map (He.cT K)).map (·.2)) 2 "are_numbers" S_are_numbers := fn_okC F_are_numbers m_are_numbers sc_are_numbers b_are_numbers_ (code_at F_are_numbers) (tab_of (hB _ (List.mem_map_of_mem mt_are_numbers))) (List.mem_map_of_mem (List.mem_map_of_mem mt_are_numbers)) (by
    intro ds M Q xw h
    first
      | exact h.elim
      | (obtain ⟨_, e, _⟩ := h; subst e; rfl)
      | (obtain ⟨_, _, e, _⟩ := h; subst e; rfl)
      | (obtain ⟨_, _, _, e, _⟩ := h; subst e; rfl)
      | (obtain ⟨_, _, _, _, e, _⟩ := h; subst e; rfl)
      | (obtain ⟨_, _, _, _, _, e, _⟩ := h; subst e; rfl)
      | (obtain ⟨_, _, _, _, _, _, e, _⟩ := h; subst e; rfl)
      | (obtain ⟨_, _, _, _, _, _, _, e, _⟩ := h; subst e; rfl)
      | (obtain ⟨_, _, _, _, _, _, _, _, e, _⟩ := h; subst e; rfl)
      | (obtain ⟨_, _, _, _, _, _, _, _, e, _⟩ := h; subst e; rfl)
      | (obtain ⟨_, _, _, _, _, _, _, _, _, e, _⟩ := h; subst e; rfl)
      | (obtain ⟨_, _, _, _, _, _, _, _, _, _, e, _⟩ := h; subst e; rfl)
      | (obtain ⟨_, _, _, _, _, _, _, _, _, _, _, e, _⟩ := h; subst e; rfl)
      | (obtain ⟨_, _, _, _, _, _, _, _, _, _, _, _, e, _⟩ := h; subst e; rfl)
      | (obtain ⟨_, _, e, e2, _⟩ := h; subst e e2; rfl)
      | (obtain ⟨_, _, e, ⟨_, e2, _⟩, _⟩ := h; subst e e2; rfl)
      | (obtain ⟨_, _, e, ⟨_, _, e2, _⟩, _⟩ := h; subst e e2; rfl)
      | (obtain ⟨_, _, e, ⟨_, _, _, e2, _⟩, _⟩ := h; subst e e2; rfl)
      | (obtain ⟨_, _, e, ⟨_, _, _, _, e2, _⟩, _⟩ := h; subst e e2; rfl)) (fun X W g C => d_are_numbers Z C i_MOST_NUMBER g) (bodyN rfl b_are_numbers)
  have A_is_pour : Fn (PySem.Challenge.rw_upwall_k40_workbenches_refuse).prog w K mg base ((tfD.map (He.cT K)).map (·.2)) 1 "is_pour" S_is_pour := fn_ok F_is_pour m_is_pour sc_is_pour b_is_pour_ (by
    intro ds M Q xw h
    first
      | exact h.elim
      | (obtain ⟨_, e, _⟩ := h; subst e; rfl)
      | (obtain ⟨_, _, e, _⟩ := h; subst e; rfl)
      | (obtain ⟨_, _, _, e, _⟩ := h; subst e; rfl)
      | (obtain ⟨_, _, _, _, e, _⟩ := h; subst e; rfl)
      | (obtain ⟨_, _, _, _, _, e, _⟩ := h; subst e; rfl)
      | (obtain ⟨_, _, _, _, _, _, e, _⟩ := h; subst e; rfl)
      | (obtain ⟨_, _, _, _, _, _, _, e, _⟩ := h; subst e; rfl)
      | (obtain ⟨_, _, _, _, _, _, _, _, e, _⟩ := h; subst e; rfl)
      | (obtain ⟨_, _, _, _, _, _, _, _, e, _⟩ := h; subst e; rfl)
      | (obtain ⟨_, _, _, _, _, _, _, _, _, e, _⟩ := h; subst e; rfl)
      | (obtain ⟨_, _, _, _, _, _, _, _, _, _, e, _⟩ := h; subst e; rfl)
      | (obtain ⟨_, _, _, _, _, _, _, _, _, _, _, e, _⟩ := h; subst e; rfl)
      | (obtain ⟨_, _, _, _, _, _, _, _, _, _, _, _, e, _⟩ := h; subst e; rfl)
      | (obtain ⟨_, _, e, e2, _⟩ := h; subst e e2; rfl)
      | (obtain ⟨_, _, e, ⟨_, e2, _⟩, _⟩ := h; subst e e2; rfl)
      | (obtain ⟨_, _, e, ⟨_, _, e2, _⟩, _⟩ := h; subst e e2; rfl)
      | (obtain ⟨_, _, e, ⟨_, _, _, e2, _⟩, _⟩ := h; subst e e2; rfl)
      | (obtain ⟨_, _, e, ⟨_, _, _, _, e2, _⟩, _⟩ := h; subst e e2; rfl)) (fun X W g => d_is_pour Z i_MOST_FACTOR g) (bodyN rfl b_is_pour)
  have A_is_act : Fn (PySem.Challenge.rw_upwall_k40_workbenches_refuse).prog w K mg base ((tfD.map (He.cT K)).map (·.2)) 1 "is_act" S_is_act := fn_ok F_is_act m_is_act sc_is_act b_is_act_ (by
    intro ds M Q xw h
    first
      | exact h.elim
      | (obtain ⟨_, e, _⟩ := h; subst e; rfl)
      | (obtain ⟨_, _, e, _⟩ := h; subst e; rfl)
      | (obtain ⟨_, _, _, e, _⟩ := h; subst e; rfl)
      | (obtain ⟨_, _, _, _, e, _⟩ := h; subst e; rfl)
      | (obtain ⟨_, _, _, _, _, e, _⟩ := h; subst e; rfl)
      | (obtain ⟨_, _, _, _, _, _, e, _⟩ := h; subst e; rfl)
      | (obtain ⟨_, _, _, _, _, _, _, e, _⟩ := h; subst e; rfl)
      | (obtain ⟨_, _, _, _, _, _, _, _, e, _⟩ := h; subst e; rfl)
      | (obtain ⟨_, _, _, _, _, _, _, _, e, _⟩ := h; subst e; rfl)
      | (obtain ⟨_, _, _, _, _, _, _, _, _, e, _⟩ := h; subst e; rfl)
      | (obtain ⟨_, _, _, _, _, _, _, _, _, _, e, _⟩ := h; subst e; rfl)
      | (obtain ⟨_, _, _, _, _, _, _, _, _, _, _, e, _⟩ := h; subst e; rfl)
      | (obtain ⟨_, _, _, _, _, _, _, _, _, _, _, _, e, _⟩ := h; subst e; rfl)
      | (obtain ⟨_, _, e, e2, _⟩ := h; subst e e2; rfl)
      | (obtain ⟨_, _, e, ⟨_, e2, _⟩, _⟩ := h; subst e e2; rfl)
      | (obtain ⟨_, _, e, ⟨_, _, e2, _⟩, _⟩ := h; subst e e2; rfl)
      | (obtain ⟨_, _, e, ⟨_, _, _, e2, _⟩, _⟩ := h; subst e e2; rfl)
      | (obtain ⟨_, _, e, ⟨_, _, _, _, e2, _⟩, _⟩ := h; subst e e2; rfl)) (fun X W g => d_is_act Z g) (bodyN rfl b_is_act)
  have mt_is_rule : (("is_rule", none) : He.Defn) ∈ tfD := by simp [tfD]
  have A_is_rule : Fn (PySem.Challenge.rw_upwall_k40_workbenches_refuse).prog w K mg base ((tfD.map (He.cT K)).map (·.2)) 4 "is_rule" S_is_ruleX := fn_okC F_is_rule m_is_rule sc_is_rule b_is_rule_ (code_at F_is_rule) (tab_of (hB _ (List.mem_map_of_mem mt_is_rule))) (List.mem_map_of_mem (List.mem_map_of_mem mt_is_rule)) (by
    intro ds M Q xw h
    first
      | exact h.elim
      | (obtain ⟨_, e, _⟩ := h; subst e; rfl)
      | (obtain ⟨_, _, e, _⟩ := h; subst e; rfl)
      | (obtain ⟨_, _, _, e, _⟩ := h; subst e; rfl)
      | (obtain ⟨_, _, _, _, e, _⟩ := h; subst e; rfl)
      | (obtain ⟨_, _, _, _, _, e, _⟩ := h; subst e; rfl)
      | (obtain ⟨_, _, _, _, _, _, e, _⟩ := h; subst e; rfl)
      | (obtain ⟨_, _, _, _, _, _, _, e, _⟩ := h; subst e; rfl)
      | (obtain ⟨_, _, _, _, _, _, _, _, e, _⟩ := h; subst e; rfl)
      | (obtain ⟨_, _, _, _, _, _, _, _, e, _⟩ := h; subst e; rfl)
      | (obtain ⟨_, _, _, _, _, _, _, _, _, e, _⟩ := h; subst e; rfl)
      | (obtain ⟨_, _, _, _, _, _, _, _, _, _, e, _⟩ := h; subst e; rfl)
      | (obtain ⟨_, _, _, _, _, _, _, _, _, _, _, e, _⟩ := h; subst e; rfl)
      | (obtain ⟨_, _, _, _, _, _, _, _, _, _, _, _, e, _⟩ := h; subst e; rfl)
      | (obtain ⟨_, _, e, e2, _⟩ := h; subst e e2; rfl)
      | (obtain ⟨_, _, e, ⟨_, e2, _⟩, _⟩ := h; subst e e2; rfl)
      | (obtain ⟨_, _, e, ⟨_, _, e2, _⟩, _⟩ := h; subst e e2; rfl)
      | (obtain ⟨_, _, e, ⟨_, _, _, e2, _⟩, _⟩ := h; subst e e2; rfl)
      | (obtain ⟨_, _, e, ⟨_, _, _, _, e2, _⟩, _⟩ := h; subst e e2; rfl)) (fun X W g C => d_is_rule Z C (A_are_numbers.mono (by decide)) (A_is_pour.mono (by decide)) (A_is_act.mono (by decide)) g) (bodyN rfl b_is_ruleX)
  have A_fault : Fn (PySem.Challenge.rw_upwall_k40_workbenches_refuse).prog w K mg base ((tfD.map (He.cT K)).map (·.2)) 5 "fault" S_faultX := fn_ok F_fault m_fault sc_fault b_fault_ (by
    intro ds M Q xw h
    first
      | exact h.elim
      | (obtain ⟨_, e, _⟩ := h; subst e; rfl)
      | (obtain ⟨_, _, e, _⟩ := h; subst e; rfl)
      | (obtain ⟨_, _, _, e, _⟩ := h; subst e; rfl)
      | (obtain ⟨_, _, _, _, e, _⟩ := h; subst e; rfl)
      | (obtain ⟨_, _, _, _, _, e, _⟩ := h; subst e; rfl)
      | (obtain ⟨_, _, _, _, _, _, e, _⟩ := h; subst e; rfl)
      | (obtain ⟨_, _, _, _, _, _, _, e, _⟩ := h; subst e; rfl)
      | (obtain ⟨_, _, _, _, _, _, _, _, e, _⟩ := h; subst e; rfl)
      | (obtain ⟨_, _, _, _, _, _, _, _, e, _⟩ := h; subst e; rfl)
      | (obtain ⟨_, _, _, _, _, _, _, _, _, e, _⟩ := h; subst e; rfl)
      | (obtain ⟨_, _, _, _, _, _, _, _, _, _, e, _⟩ := h; subst e; rfl)
      | (obtain ⟨_, _, _, _, _, _, _, _, _, _, _, e, _⟩ := h; subst e; rfl)
      | (obtain ⟨_, _, _, _, _, _, _, _, _, _, _, _, e, _⟩ := h; subst e; rfl)
      | (obtain ⟨_, _, e, e2, _⟩ := h; subst e e2; rfl)
      | (obtain ⟨_, _, e, ⟨_, e2, _⟩, _⟩ := h; subst e e2; rfl)
      | (obtain ⟨_, _, e, ⟨_, _, e2, _⟩, _⟩ := h; subst e e2; rfl)
      | (obtain ⟨_, _, e, ⟨_, _, _, e2, _⟩, _⟩ := h; subst e e2; rfl)
      | (obtain ⟨_, _, e, ⟨_, _, _, _, e2, _⟩, _⟩ := h; subst e e2; rfl)) (fun X W g => d_fault Z (A_is_rule.mono (by decide)) i_MOST_MODES i_MOST_COUNTERS i_MOST_QUEUES i_MOST_LETTERS i_MOST_RULES g) (bodyN rfl b_faultX)
  have A_Workbench____init__ : FnM (PySem.Challenge.rw_upwall_k40_workbenches_refuse).prog w K mg base ((tfD.map (He.cT K)).map (·.2)) 6 (He.ga K "Workbench") "__init__" (S_Workbench____init__ (He.ga K "NotFitting") (He.ga K "Workbench")) := ⟨_, _, _, m_Workbench____init__, b_Workbench____init___, fn_okK F_Workbench____init__ sc_Workbench____init__ (by
    intro ds M Q xw h
    first
      | exact h.elim
      | (obtain ⟨_, e, _⟩ := h; subst e; rfl)
      | (obtain ⟨_, _, e, _⟩ := h; subst e; rfl)
      | (obtain ⟨_, _, _, e, _⟩ := h; subst e; rfl)
      | (obtain ⟨_, _, _, _, e, _⟩ := h; subst e; rfl)
      | (obtain ⟨_, _, _, _, _, e, _⟩ := h; subst e; rfl)
      | (obtain ⟨_, _, _, _, _, _, e, _⟩ := h; subst e; rfl)
      | (obtain ⟨_, _, _, _, _, _, _, e, _⟩ := h; subst e; rfl)
      | (obtain ⟨_, _, _, _, _, _, _, _, e, _⟩ := h; subst e; rfl)
      | (obtain ⟨_, _, _, _, _, _, _, _, e, _⟩ := h; subst e; rfl)
      | (obtain ⟨_, _, _, _, _, _, _, _, _, e, _⟩ := h; subst e; rfl)
      | (obtain ⟨_, _, _, _, _, _, _, _, _, _, e, _⟩ := h; subst e; rfl)
      | (obtain ⟨_, _, _, _, _, _, _, _, _, _, _, e, _⟩ := h; subst e; rfl)
      | (obtain ⟨_, _, _, _, _, _, _, _, _, _, _, _, e, _⟩ := h; subst e; rfl)
      | (obtain ⟨_, _, e, e2, _⟩ := h; subst e e2; rfl)
      | (obtain ⟨_, _, e, ⟨_, e2, _⟩, _⟩ := h; subst e e2; rfl)
      | (obtain ⟨_, _, e, ⟨_, _, e2, _⟩, _⟩ := h; subst e e2; rfl)
      | (obtain ⟨_, _, e, ⟨_, _, _, e2, _⟩, _⟩ := h; subst e e2; rfl)
      | (obtain ⟨_, _, e, ⟨_, _, _, _, e2, _⟩, _⟩ := h; subst e e2; rfl)) (fun X W g => d_Workbench____init__ Z (A_fault.mono (by decide)) m_NotFitting e_NotFitting m_Workbench cl_Workbench na_Workbench__machine na_Workbench__goal na_Workbench__floor na_Workbench__made na_Workbench__behind na_Workbench__ahead g) (bodyKN rfl b_init)⟩
  have A_Workbench___set : FnM (PySem.Challenge.rw_upwall_k40_workbenches_refuse).prog w K mg base ((tfD.map (He.cT K)).map (·.2)) 1 (He.ga K "Workbench") "_set" (S_Workbench___set (He.ga K "Workbench")) := ⟨_, _, _, m_Workbench___set, b_Workbench___set_, fn_okK F_Workbench___set sc_Workbench___set (by
    intro ds M Q xw h
    first
      | exact h.elim
      | (obtain ⟨_, e, _⟩ := h; subst e; rfl)
      | (obtain ⟨_, _, e, _⟩ := h; subst e; rfl)
      | (obtain ⟨_, _, _, e, _⟩ := h; subst e; rfl)
      | (obtain ⟨_, _, _, _, e, _⟩ := h; subst e; rfl)
      | (obtain ⟨_, _, _, _, _, e, _⟩ := h; subst e; rfl)
      | (obtain ⟨_, _, _, _, _, _, e, _⟩ := h; subst e; rfl)
      | (obtain ⟨_, _, _, _, _, _, _, e, _⟩ := h; subst e; rfl)
      | (obtain ⟨_, _, _, _, _, _, _, _, e, _⟩ := h; subst e; rfl)
      | (obtain ⟨_, _, _, _, _, _, _, _, e, _⟩ := h; subst e; rfl)
      | (obtain ⟨_, _, _, _, _, _, _, _, _, e, _⟩ := h; subst e; rfl)
      | (obtain ⟨_, _, _, _, _, _, _, _, _, _, e, _⟩ := h; subst e; rfl)
      | (obtain ⟨_, _, _, _, _, _, _, _, _, _, _, e, _⟩ := h; subst e; rfl)
      | (obtain ⟨_, _, _, _, _, _, _, _, _, _, _, _, e, _⟩ := h; subst e; rfl)
      | (obtain ⟨_, _, e, e2, _⟩ := h; subst e e2; rfl)
      | (obtain ⟨_, _, e, ⟨_, e2, _⟩, _⟩ := h; subst e e2; rfl)
      | (obtain ⟨_, _, e, ⟨_, _, e2, _⟩, _⟩ := h; subst e e2; rfl)
      | (obtain ⟨_, _, e, ⟨_, _, _, e2, _⟩, _⟩ := h; subst e e2; rfl)
      | (obtain ⟨_, _, e, ⟨_, _, _, _, e2, _⟩, _⟩ := h; subst e e2; rfl)) (fun X W g => d_Workbench___set m_Workbench cl_Workbench na_Workbench__machine na_Workbench__floor g) (bodyKN rfl b_set)⟩
  have A_Workbench___change : FnM (PySem.Challenge.rw_upwall_k40_workbenches_refuse).prog w K mg base ((tfD.map (He.cT K)).map (·.2)) 6 (He.ga K "Workbench") "_change" (S_Workbench___change (He.ga K "Workbench") (He.ga K "NotFitting")) := ⟨_, _, _, m_Workbench___change, b_Workbench___change_, fn_okK F_Workbench___change sc_Workbench___change (by
    intro ds M Q xw h
    first
      | exact h.elim
      | (obtain ⟨_, e, _⟩ := h; subst e; rfl)
      | (obtain ⟨_, _, e, _⟩ := h; subst e; rfl)
      | (obtain ⟨_, _, _, e, _⟩ := h; subst e; rfl)
      | (obtain ⟨_, _, _, _, e, _⟩ := h; subst e; rfl)
      | (obtain ⟨_, _, _, _, _, e, _⟩ := h; subst e; rfl)
      | (obtain ⟨_, _, _, _, _, _, e, _⟩ := h; subst e; rfl)
      | (obtain ⟨_, _, _, _, _, _, _, e, _⟩ := h; subst e; rfl)
      | (obtain ⟨_, _, _, _, _, _, _, _, e, _⟩ := h; subst e; rfl)
      | (obtain ⟨_, _, _, _, _, _, _, _, e, _⟩ := h; subst e; rfl)
      | (obtain ⟨_, _, _, _, _, _, _, _, _, e, _⟩ := h; subst e; rfl)
      | (obtain ⟨_, _, _, _, _, _, _, _, _, _, e, _⟩ := h; subst e; rfl)
      | (obtain ⟨_, _, _, _, _, _, _, _, _, _, _, e, _⟩ := h; subst e; rfl)
      | (obtain ⟨_, _, _, _, _, _, _, _, _, _, _, _, e, _⟩ := h; subst e; rfl)
      | (obtain ⟨_, _, e, e2, _⟩ := h; subst e e2; rfl)
      | (obtain ⟨_, _, e, ⟨_, e2, _⟩, _⟩ := h; subst e e2; rfl)
      | (obtain ⟨_, _, e, ⟨_, _, e2, _⟩, _⟩ := h; subst e e2; rfl)
      | (obtain ⟨_, _, e, ⟨_, _, _, e2, _⟩, _⟩ := h; subst e e2; rfl)
      | (obtain ⟨_, _, e, ⟨_, _, _, _, e2, _⟩, _⟩ := h; subst e e2; rfl)) (fun X W g => d_Workbench___change (A_fault.mono (by decide)) (A_Workbench___set.mono (by decide)) m_Workbench cl_Workbench na_Workbench__machine na_Workbench__behind na_Workbench__ahead m_NotFitting e_NotFitting g) (bodyKN rfl b_change)⟩
  have A_Workbench__add_rule : FnM (PySem.Challenge.rw_upwall_k40_workbenches_refuse).prog w K mg base ((tfD.map (He.cT K)).map (·.2)) 7 (He.ga K "Workbench") "add_rule" (S_Workbench__add_rule (He.ga K "NotFitting") (He.ga K "Workbench")) := ⟨_, _, _, m_Workbench__add_rule, b_Workbench__add_rule_, fn_okK F_Workbench__add_rule sc_Workbench__add_rule (by
    intro ds M Q xw h
    first
      | exact h.elim
      | (obtain ⟨_, e, _⟩ := h; subst e; rfl)
      | (obtain ⟨_, _, e, _⟩ := h; subst e; rfl)
      | (obtain ⟨_, _, _, e, _⟩ := h; subst e; rfl)
      | (obtain ⟨_, _, _, _, e, _⟩ := h; subst e; rfl)
      | (obtain ⟨_, _, _, _, _, e, _⟩ := h; subst e; rfl)
      | (obtain ⟨_, _, _, _, _, _, e, _⟩ := h; subst e; rfl)
      | (obtain ⟨_, _, _, _, _, _, _, e, _⟩ := h; subst e; rfl)
      | (obtain ⟨_, _, _, _, _, _, _, _, e, _⟩ := h; subst e; rfl)
      | (obtain ⟨_, _, _, _, _, _, _, _, e, _⟩ := h; subst e; rfl)
      | (obtain ⟨_, _, _, _, _, _, _, _, _, e, _⟩ := h; subst e; rfl)
      | (obtain ⟨_, _, _, _, _, _, _, _, _, _, e, _⟩ := h; subst e; rfl)
      | (obtain ⟨_, _, _, _, _, _, _, _, _, _, _, e, _⟩ := h; subst e; rfl)
      | (obtain ⟨_, _, _, _, _, _, _, _, _, _, _, _, e, _⟩ := h; subst e; rfl)
      | (obtain ⟨_, _, e, e2, _⟩ := h; subst e e2; rfl)
      | (obtain ⟨_, _, e, ⟨_, e2, _⟩, _⟩ := h; subst e e2; rfl)
      | (obtain ⟨_, _, e, ⟨_, _, e2, _⟩, _⟩ := h; subst e e2; rfl)
      | (obtain ⟨_, _, e, ⟨_, _, _, e2, _⟩, _⟩ := h; subst e e2; rfl)
      | (obtain ⟨_, _, e, ⟨_, _, _, _, e2, _⟩, _⟩ := h; subst e e2; rfl)) (fun X W g => d_Workbench__add_rule (A_Workbench___change.mono (by decide)) m_NotFitting m_Workbench cl_Workbench na_Workbench__machine g) (bodyKN rfl b_add)⟩
  have A_Workbench__undo : FnM (PySem.Challenge.rw_upwall_k40_workbenches_refuse).prog w K mg base ((tfD.map (He.cT K)).map (·.2)) 2 (He.ga K "Workbench") "undo" (S_Workbench__undo (He.ga K "Workbench")) := ⟨_, _, _, m_Workbench__undo, b_Workbench__undo_, fn_okK F_Workbench__undo sc_Workbench__undo (by
    intro ds M Q xw h
    first
      | exact h.elim
      | (obtain ⟨_, e, _⟩ := h; subst e; rfl)
      | (obtain ⟨_, _, e, _⟩ := h; subst e; rfl)
      | (obtain ⟨_, _, _, e, _⟩ := h; subst e; rfl)
      | (obtain ⟨_, _, _, _, e, _⟩ := h; subst e; rfl)
      | (obtain ⟨_, _, _, _, _, e, _⟩ := h; subst e; rfl)
      | (obtain ⟨_, _, _, _, _, _, e, _⟩ := h; subst e; rfl)
      | (obtain ⟨_, _, _, _, _, _, _, e, _⟩ := h; subst e; rfl)
      | (obtain ⟨_, _, _, _, _, _, _, _, e, _⟩ := h; subst e; rfl)
      | (obtain ⟨_, _, _, _, _, _, _, _, e, _⟩ := h; subst e; rfl)
      | (obtain ⟨_, _, _, _, _, _, _, _, _, e, _⟩ := h; subst e; rfl)
      | (obtain ⟨_, _, _, _, _, _, _, _, _, _, e, _⟩ := h; subst e; rfl)
      | (obtain ⟨_, _, _, _, _, _, _, _, _, _, _, e, _⟩ := h; subst e; rfl)
      | (obtain ⟨_, _, _, _, _, _, _, _, _, _, _, _, e, _⟩ := h; subst e; rfl)
      | (obtain ⟨_, _, e, e2, _⟩ := h; subst e e2; rfl)
      | (obtain ⟨_, _, e, ⟨_, e2, _⟩, _⟩ := h; subst e e2; rfl)
      | (obtain ⟨_, _, e, ⟨_, _, e2, _⟩, _⟩ := h; subst e e2; rfl)
      | (obtain ⟨_, _, e, ⟨_, _, _, e2, _⟩, _⟩ := h; subst e e2; rfl)
      | (obtain ⟨_, _, e, ⟨_, _, _, _, e2, _⟩, _⟩ := h; subst e e2; rfl)) (fun X W g => d_Workbench__undo (A_Workbench___set.mono (by decide)) m_Workbench cl_Workbench na_Workbench__behind na_Workbench__ahead na_Workbench__machine g) (bodyKN rfl b_undo)⟩
  have A_Workbench__drop_rule : FnM (PySem.Challenge.rw_upwall_k40_workbenches_refuse).prog w K mg base ((tfD.map (He.cT K)).map (·.2)) 7 (He.ga K "Workbench") "drop_rule" (S_Workbench__drop_rule (He.ga K "Workbench") (He.ga K "UnknownRule") (He.ga K "NotFitting")) := ⟨_, _, _, m_Workbench__drop_rule, b_Workbench__drop_rule_, fn_okK F_Workbench__drop_rule sc_Workbench__drop_rule (by
    intro ds M Q xw h
    first
      | exact h.elim
      | (obtain ⟨_, e, _⟩ := h; subst e; rfl)
      | (obtain ⟨_, _, e, _⟩ := h; subst e; rfl)
      | (obtain ⟨_, _, _, e, _⟩ := h; subst e; rfl)
      | (obtain ⟨_, _, _, _, e, _⟩ := h; subst e; rfl)
      | (obtain ⟨_, _, _, _, _, e, _⟩ := h; subst e; rfl)
      | (obtain ⟨_, _, _, _, _, _, e, _⟩ := h; subst e; rfl)
      | (obtain ⟨_, _, _, _, _, _, _, e, _⟩ := h; subst e; rfl)
      | (obtain ⟨_, _, _, _, _, _, _, _, e, _⟩ := h; subst e; rfl)
      | (obtain ⟨_, _, _, _, _, _, _, _, e, _⟩ := h; subst e; rfl)
      | (obtain ⟨_, _, _, _, _, _, _, _, _, e, _⟩ := h; subst e; rfl)
      | (obtain ⟨_, _, _, _, _, _, _, _, _, _, e, _⟩ := h; subst e; rfl)
      | (obtain ⟨_, _, _, _, _, _, _, _, _, _, _, e, _⟩ := h; subst e; rfl)
      | (obtain ⟨_, _, _, _, _, _, _, _, _, _, _, _, e, _⟩ := h; subst e; rfl)
      | (obtain ⟨_, _, e, e2, _⟩ := h; subst e e2; rfl)
      | (obtain ⟨_, _, e, ⟨_, e2, _⟩, _⟩ := h; subst e e2; rfl)
      | (obtain ⟨_, _, e, ⟨_, _, e2, _⟩, _⟩ := h; subst e e2; rfl)
      | (obtain ⟨_, _, e, ⟨_, _, _, e2, _⟩, _⟩ := h; subst e e2; rfl)
      | (obtain ⟨_, _, e, ⟨_, _, _, _, e2, _⟩, _⟩ := h; subst e e2; rfl)) (fun X W g => d_Workbench__drop_rule Z (A_Workbench___change.mono (by decide)) m_Workbench cl_Workbench na_Workbench__machine m_UnknownRule e_UnknownRule m_NotFitting g) (bodyKN rfl b_drop)⟩
  have A_ltold : Fn (PySem.Challenge.rw_upwall_k40_workbenches_refuse).prog w K mg base ((tfD.map (He.cT K)).map (·.2)) 9 "_law_told" (S_ltold (He.ga K "Workbench")) := fn_okT F_ltold m_ltold sc_ltold b_ltold_ (by
    intro ds M Q xw h
    first
      | exact h.elim
      | (obtain ⟨_, e, _⟩ := h; subst e; rfl)
      | (obtain ⟨_, _, e, _⟩ := h; subst e; rfl)
      | (obtain ⟨_, _, _, e, _⟩ := h; subst e; rfl)
      | (obtain ⟨_, _, _, _, e, _⟩ := h; subst e; rfl)
      | (obtain ⟨_, _, _, _, _, e, _⟩ := h; subst e; rfl)
      | (obtain ⟨_, _, _, _, _, _, e, _⟩ := h; subst e; rfl)
      | (obtain ⟨_, _, _, _, _, _, _, e, _⟩ := h; subst e; rfl)
      | (obtain ⟨_, _, _, _, _, _, _, _, e, _⟩ := h; subst e; rfl)
      | (obtain ⟨_, _, _, _, _, _, _, _, e, _⟩ := h; subst e; rfl)
      | (obtain ⟨_, _, _, _, _, _, _, _, _, e, _⟩ := h; subst e; rfl)
      | (obtain ⟨_, _, _, _, _, _, _, _, _, _, e, _⟩ := h; subst e; rfl)
      | (obtain ⟨_, _, _, _, _, _, _, _, _, _, _, e, _⟩ := h; subst e; rfl)
      | (obtain ⟨_, _, _, _, _, _, _, _, _, _, _, _, e, _⟩ := h; subst e; rfl)
      | (obtain ⟨_, _, e, e2, _⟩ := h; subst e e2; rfl)
      | (obtain ⟨_, _, e, ⟨_, e2, _⟩, _⟩ := h; subst e e2; rfl)
      | (obtain ⟨_, _, e, ⟨_, _, e2, _⟩, _⟩ := h; subst e e2; rfl)
      | (obtain ⟨_, _, e, ⟨_, _, _, e2, _⟩, _⟩ := h; subst e e2; rfl)
      | (obtain ⟨_, _, e, ⟨_, _, _, _, e2, _⟩, _⟩ := h; subst e e2; rfl)) (fun X W g fr => d_ltold Z (A_Workbench____init__.mono (by decide)) (A_Workbench__add_rule.mono (by decide)) (A_Workbench__drop_rule.mono (by decide)) m_NotFitting t_NotFitting x_NotFitting k_NotFitting_TooManyStates k_NotFitting_InvalidLine k_NotFitting_UpwallError k_NotFitting_UnknownRule m_UnknownRule t_UnknownRule tx_UnknownRule_NotFitting x_UnknownRule k_UnknownRule_TooManyStates k_UnknownRule_InvalidLine k_UnknownRule_NotFitting k_UnknownRule_UpwallError k_UnknownRule_ValueError m_Workbench cl_Workbench mk_Workbench g fr) (bodyN rfl b_ltold)
  have A_Workbench__machine : FnM (PySem.Challenge.rw_upwall_k40_workbenches_refuse).prog w K mg base ((tfD.map (He.cT K)).map (·.2)) 1 (He.ga K "Workbench") "machine" (S_Workbench__machine (He.ga K "Workbench")) := ⟨_, _, _, m_Workbench__machine, b_Workbench__machine_, fn_okK F_Workbench__machine sc_Workbench__machine (by
    intro ds M Q xw h
    first
      | exact h.elim
      | (obtain ⟨_, e, _⟩ := h; subst e; rfl)
      | (obtain ⟨_, _, e, _⟩ := h; subst e; rfl)
      | (obtain ⟨_, _, _, e, _⟩ := h; subst e; rfl)
      | (obtain ⟨_, _, _, _, e, _⟩ := h; subst e; rfl)
      | (obtain ⟨_, _, _, _, _, e, _⟩ := h; subst e; rfl)
      | (obtain ⟨_, _, _, _, _, _, e, _⟩ := h; subst e; rfl)
      | (obtain ⟨_, _, _, _, _, _, _, e, _⟩ := h; subst e; rfl)
      | (obtain ⟨_, _, _, _, _, _, _, _, e, _⟩ := h; subst e; rfl)
      | (obtain ⟨_, _, _, _, _, _, _, _, e, _⟩ := h; subst e; rfl)
      | (obtain ⟨_, _, _, _, _, _, _, _, _, e, _⟩ := h; subst e; rfl)
      | (obtain ⟨_, _, _, _, _, _, _, _, _, _, e, _⟩ := h; subst e; rfl)
      | (obtain ⟨_, _, _, _, _, _, _, _, _, _, _, e, _⟩ := h; subst e; rfl)
      | (obtain ⟨_, _, _, _, _, _, _, _, _, _, _, _, e, _⟩ := h; subst e; rfl)
      | (obtain ⟨_, _, e, e2, _⟩ := h; subst e e2; rfl)
      | (obtain ⟨_, _, e, ⟨_, e2, _⟩, _⟩ := h; subst e e2; rfl)
      | (obtain ⟨_, _, e, ⟨_, _, e2, _⟩, _⟩ := h; subst e e2; rfl)
      | (obtain ⟨_, _, e, ⟨_, _, _, e2, _⟩, _⟩ := h; subst e e2; rfl)
      | (obtain ⟨_, _, e, ⟨_, _, _, _, e2, _⟩, _⟩ := h; subst e e2; rfl)) (fun X W g => d_Workbench__machine m_Workbench cl_Workbench na_Workbench__machine g) (bodyKN rfl b_mach)⟩
  have A_Workbench__redo : FnM (PySem.Challenge.rw_upwall_k40_workbenches_refuse).prog w K mg base ((tfD.map (He.cT K)).map (·.2)) 2 (He.ga K "Workbench") "redo" (S_Workbench__redo (He.ga K "Workbench")) := ⟨_, _, _, m_Workbench__redo, b_Workbench__redo_, fn_okK F_Workbench__redo sc_Workbench__redo (by
    intro ds M Q xw h
    first
      | exact h.elim
      | (obtain ⟨_, e, _⟩ := h; subst e; rfl)
      | (obtain ⟨_, _, e, _⟩ := h; subst e; rfl)
      | (obtain ⟨_, _, _, e, _⟩ := h; subst e; rfl)
      | (obtain ⟨_, _, _, _, e, _⟩ := h; subst e; rfl)
      | (obtain ⟨_, _, _, _, _, e, _⟩ := h; subst e; rfl)
      | (obtain ⟨_, _, _, _, _, _, e, _⟩ := h; subst e; rfl)
      | (obtain ⟨_, _, _, _, _, _, _, e, _⟩ := h; subst e; rfl)
      | (obtain ⟨_, _, _, _, _, _, _, _, e, _⟩ := h; subst e; rfl)
      | (obtain ⟨_, _, _, _, _, _, _, _, e, _⟩ := h; subst e; rfl)
      | (obtain ⟨_, _, _, _, _, _, _, _, _, e, _⟩ := h; subst e; rfl)
      | (obtain ⟨_, _, _, _, _, _, _, _, _, _, e, _⟩ := h; subst e; rfl)
      | (obtain ⟨_, _, _, _, _, _, _, _, _, _, _, e, _⟩ := h; subst e; rfl)
      | (obtain ⟨_, _, _, _, _, _, _, _, _, _, _, _, e, _⟩ := h; subst e; rfl)
      | (obtain ⟨_, _, e, e2, _⟩ := h; subst e e2; rfl)
      | (obtain ⟨_, _, e, ⟨_, e2, _⟩, _⟩ := h; subst e e2; rfl)
      | (obtain ⟨_, _, e, ⟨_, _, e2, _⟩, _⟩ := h; subst e e2; rfl)
      | (obtain ⟨_, _, e, ⟨_, _, _, e2, _⟩, _⟩ := h; subst e e2; rfl)
      | (obtain ⟨_, _, e, ⟨_, _, _, _, e2, _⟩, _⟩ := h; subst e e2; rfl)) (fun X W g => d_Workbench__redo (A_Workbench___set.mono (by decide)) m_Workbench cl_Workbench na_Workbench__ahead na_Workbench__behind na_Workbench__machine g) (bodyKN rfl b_redo)⟩
  have A_law : FnOk (PySem.Challenge.rw_upwall_k40_workbenches_refuse).prog w K mg base (L2.CX (PySem.Challenge.rw_upwall_k40_workbenches_refuse).prog w) 11 _ fd ["_law_script"] (spOf K ((tfD.map (He.cT K)).map (·.2)) S_law) := fn_okF F_law sc_law (by
    intro ds M Q xw h
    first
      | exact h.elim
      | (obtain ⟨_, e, _⟩ := h; subst e; rfl)
      | (obtain ⟨_, _, e, _⟩ := h; subst e; rfl)
      | (obtain ⟨_, _, _, e, _⟩ := h; subst e; rfl)
      | (obtain ⟨_, _, _, _, e, _⟩ := h; subst e; rfl)
      | (obtain ⟨_, _, _, _, _, e, _⟩ := h; subst e; rfl)
      | (obtain ⟨_, _, _, _, _, _, e, _⟩ := h; subst e; rfl)
      | (obtain ⟨_, _, _, _, _, _, _, e, _⟩ := h; subst e; rfl)
      | (obtain ⟨_, _, _, _, _, _, _, _, e, _⟩ := h; subst e; rfl)
      | (obtain ⟨_, _, _, _, _, _, _, _, e, _⟩ := h; subst e; rfl)
      | (obtain ⟨_, _, _, _, _, _, _, _, _, e, _⟩ := h; subst e; rfl)
      | (obtain ⟨_, _, _, _, _, _, _, _, _, _, e, _⟩ := h; subst e; rfl)
      | (obtain ⟨_, _, _, _, _, _, _, _, _, _, _, e, _⟩ := h; subst e; rfl)
      | (obtain ⟨_, _, _, _, _, _, _, _, _, _, _, _, e, _⟩ := h; subst e; rfl)
      | (obtain ⟨_, _, e, e2, _⟩ := h; subst e e2; rfl)
      | (obtain ⟨_, _, e, ⟨_, e2, _⟩, _⟩ := h; subst e e2; rfl)
      | (obtain ⟨_, _, e, ⟨_, _, e2, _⟩, _⟩ := h; subst e e2; rfl)
      | (obtain ⟨_, _, e, ⟨_, _, _, e2, _⟩, _⟩ := h; subst e e2; rfl)
      | (obtain ⟨_, _, e, ⟨_, _, _, _, e2, _⟩, _⟩ := h; subst e e2; rfl)) (fun X W g => d_law Z (A_lmachine.mono (by decide)) (A_lrule.mono (by decide)) (A_Workbench____init__.mono (by decide)) (A_Workbench__add_rule.mono (by decide)) (A_Workbench__undo.mono (by decide)) (A_ltold.mono (by decide)) (A_Workbench__machine.mono (by decide)) (A_Workbench__redo.mono (by decide)) m_NotFitting e_NotFitting x_NotFitting k_NotFitting_UpwallError k_NotFitting_ValueError m_Workbench cl_Workbench mk_Workbench m_InvalidLine i_InvalidLine x_InvalidLine k_InvalidLine_UpwallError k_InvalidLine_ValueError m_UpwallError e_UpwallError x_UpwallError k_UpwallError_UpwallError k_UpwallError_ValueError m_TooManyStates e_TooManyStates x_TooManyStates k_TooManyStates_UpwallError k_TooManyStates_ValueError m_UnknownRule e_UnknownRule x_UnknownRule k_UnknownRule_UpwallError k_UnknownRule_ValueError g) (bodyN rfl b_law)
  exact A_law.mono (by decide)
end U
open PySem PySem.W PySem.Calls PyProof.Rows
theorem PySem.Challenge.cw_upwall_k40_workbenches_refuse_holds : PySem.Challenge.rw_upwall_k40_workbenches_refuse.Holds := by
  w_on; o_law
  refine HandSHeadRun.head_any (r := OpenLaw.row PySem.Challenge.rw_upwall_k40_workbenches_refuse) (q := view (OpenLaw.row PySem.Challenge.rw_upwall_k40_workbenches_refuse).prog [28]) (H := U.hk) (ob := U.ob) (M := 6000) (loose := U.loose) (d := HandSHeadRun.topDef (OpenLaw.row PySem.Challenge.rw_upwall_k40_workbenches_refuse).prog 28) (kwd := []) U.ob_eq
    (by kernel_rfl) (fun s => by kernel_rfl) U.run (by kernel_rfl) (by kernel_rfl) (by kernel_rfl) (by rfl) (by first | assumption | decide +kernel) (by decide +kernel) ⟨rfl, rfl, rfl, rfl, rfl, by decide +kernel⟩ ?hw ?hc
  case hw => w_witness2
  case hc =>
    refine LamX.walk_ofTsE (l := PySem.Challenge.rw_upwall_k40_workbenches_refuse) (n := 63) (k := 13) (x := "_law_script") (CX := fun w => L2.CX (PySem.Challenge.rw_upwall_k40_workbenches_refuse).prog w) rfl (by decide) (by kernel_rfl) ⟨rfl, by decide, by decide⟩ ?F (fun w H s e s' z => U.cx_no _ w H s e s' z)
    intro w mg fa h Y G hmg0
    obtain ⟨K, KX, c⟩ := Y
    have hmg : mg ("law" : PySem.Str) = some (.ref fa) := by
      have e : (HandSHeadRun.topDef (OpenLaw.row PySem.Challenge.rw_upwall_k40_workbenches_refuse).prog 28).name = ("law" : PySem.Str) := by kernel_rfl
      rw [← e]
      exact hmg0
    exact ⟨K, KX, U.all_holds KX G c hmg⟩
