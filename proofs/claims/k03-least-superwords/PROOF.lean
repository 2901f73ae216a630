import PyProof.Rows.All
import Wide.All
import OpenK.AllK
import Wide.FinOn
import HandS.ForMost
import HandS.ForExc
import HandS.AnyAll
import HandS.TupAny
import HandS.Wide
import HandS.IsInst
import HandS.Deep
import HandS.TupMul
import HandS.Style
import HandS.Zip
import HandS.Rev
import HandS.TupLe
import PyProof.Rows.SeqMore
import HandS.HeadHook2
import HandS.HeadWalk
import HandS.HeadHook4
import HandS.GenOver
import PyProof.GenQ
import HandS.Iter
import KE.GoesEnum
import KE.GoesMore
import KE.GoesZip
import HandS.TupSets
import KE.KeyNested
import KE.SortData
import HandS.SortOrd
import PySem.Challenge.RW_upwall_k03_least_superwords
import HandS.Head2
set_option Elab.async false
set_option linter.all false
set_option maxRecDepth 100000
set_option maxHeartbeats 1000000
/-! U1: pure data over the hand layer: D, the store, the judgements DE, DT, DA, DS. -/
namespace U
open PySem PySem.Spec PyProof.Rows L2

/-! ### data -/
inductive D where
  | non | bl (b : Bool) | int (i : Int) | str (x : Str) | tup (ds : List D) | lst (ds : List D) | loc (a : Addr) | ty (n : String)
  deriving Inhabited

mutual
def D.pd : D → PyData
  | .non => .none
  | .bl b => .bool b
  | .int i => .int i
  | .str x => .str x
  | .tup ds => .tuple (D.pds ds)
  | .lst ds => .list (D.pds ds)
  | .loc _ => .none
  | .ty _ => .none
def D.pds : List D → List PyData
  | [] => []
  | d :: ds => D.pd d :: D.pds ds
end
/-- depth at most n, no address within -/
def dle : Nat → D → Bool
  | _, .non => true
  | _, .bl _ => true
  | _, .int _ => true
  | _, .str x => PyData.strOk x
  | 0, .tup _ => false
  | 0, .lst _ => false
  | n + 1, .tup ds => ds.all (dle n)
  | n + 1, .lst ds => ds.all (dle n)
  | _, .loc _ => false
  | _, .ty _ => false
def eqD (x y : D) : Bool := PyData.eqv x.pd y.pd

/-- what stands at an address that may be written -/
inductive MO where
  | lst (ds : List D)
  | dct (kvs : List (D × D))
  | ins (C : Addr) (fs : List (Str × D))
  deriving Inhabited
abbrev Mu := Addr → Option MO
abbrev Env' := List (Option D)
def mset (M : Mu) (a : Addr) (m : MO) : Mu := fun b => if b = a then some m else M b
def mdel (M : Mu) (a : Addr) : Mu := fun b => if b = a then none else M b
/-- what a caller knows again behind a call: the objects that it knew -/
def mres (M' M : Mu) : Mu := fun b => match M b with | none => none | some _ => M' b
theorem mset_same {M : Mu} {a : Addr} {m : MO} : mset M a m a = some m := by unfold mset; rw [if_pos rfl]
theorem mset_ne {M : Mu} {a b : Addr} {m : MO} (h : b ≠ a) : mset M a m b = M b := by unfold mset; rw [if_neg h]
theorem mdel_same {M : Mu} {a : Addr} : mdel M a a = none := by unfold mdel; rw [if_pos rfl]
theorem mdel_ne {M : Mu} {a b : Addr} (h : b ≠ a) : mdel M a b = M b := by unfold mdel; rw [if_neg h]
theorem mres_self {M : Mu} : mres M M = M := by
  funext b; unfold mres; cases h : M b <;> rfl
theorem mres_mset {M M' : Mu} {a : Addr} {m : MO} (h : M a = none) : mres (mset M' a m) M = mres M' M := by
  funext b; unfold mres
  by_cases e : b = a
  · subst e; rw [h]
  · rw [mset_ne e]
theorem mres_mset_in {M M' : Mu} {a : Addr} {m n : MO} (h : M a = some n) : mres (mset M' a m) M = mset (mres M' M) a m := by
  funext b; unfold mres mset
  by_cases e : b = a
  · subst e; rw [h]; simp
  · simp only [if_neg e]
theorem mres_mdel {M M' : Mu} {a : Addr} (h : M a = none) : mres (mdel M' a) M = mres M' M := by
  funext b; unfold mres
  by_cases e : b = a
  · subst e; rw [h]
  · rw [mdel_ne e]
theorem mset_mset {M : Mu} {a : Addr} {m n : MO} : mset (mset M a m) a n = mset M a n := by
  funext b; unfold mset; split <;> rfl
theorem mdel_mset {M : Mu} {a : Addr} {m : MO} (h : M a = none) : mdel (mset M a m) a = M := by
  funext b; unfold mdel mset
  by_cases e : b = a
  · subst e; simp [h]
  · simp only [if_neg e]

/-! ### values and data -/
/-- a list that is not written any more -/
def FzL (K : PySem.W.Frag) (hid : List Addr) (H : Hp) (M : Mu) (a : Addr) (xs : List V) : Prop :=
  (H a = some (.lst xs) ∧ M a = none ∧ a ∉ hid) ∨ (∃ o, H a = some (.frz o (.lst xs))) ∨
    ∃ (o : Obj) (its : Array Value) (n : Nat), K.lookup a = some o ∧ o.cls = .type "list" ∧ o.dict = none ∧ o.data = .seq its n ∧ its.size ≤ sizeLine ∧ Vals xs its.toList
theorem FzL.sq {K : PySem.W.Frag} {hid : List Addr} {H : Hp} {M : Mu} {a : Addr} {xs : List V} (h : FzL K hid H M a xs) : SqL K H a xs := by
  rcases h with h | h | h
  · exact .inl (.inl h.1)
  · exact .inl (.inr h)
  · exact .inr h
mutual
inductive Rv (K : PySem.W.Frag) (hid : List Addr) (H : Hp) (M : Mu) : V → D → Prop
  | non : Rv K hid H M .non .non
  | bl (b : Bool) : Rv K hid H M (.bl b) (.bl b)
  | int (i : Int) : Rv K hid H M (.int i) (.int i)
  | str (x : Str) : Rv K hid H M (.str x) (.str x)
  | tup {a : Addr} {xs : List V} {ds : List D} (h : SqT K H a xs) (r : Rvs K hid H M xs ds) : Rv K hid H M (.ref a) (.tup ds)
  | lst {a : Addr} {xs : List V} {ds : List D} (h : FzL K hid H M a xs) (r : Rvs K hid H M xs ds) : Rv K hid H M (.ref a) (.lst ds)
  | loc (a : Addr) : Rv K hid H M (.ref a) (.loc a)
  | ty (n : String) : Rv K hid H M (.ty n) (.ty n)
inductive Rvs (K : PySem.W.Frag) (hid : List Addr) (H : Hp) (M : Mu) : List V → List D → Prop
  | nil : Rvs K hid H M [] []
  | cons {v : V} {vs : List V} {d : D} {ds : List D} (h : Rv K hid H M v d) (r : Rvs K hid H M vs ds) : Rvs K hid H M (v :: vs) (d :: ds)
end
/-- what is kept from one place of a run to a later one -/
structure Ext (hid : List Addr) (H : Hp) (M : Mu) (H' : Hp) (M' : Mu) : Prop where
  tup : ∀ a xs, H a = some (.tup xs) → H' a = some (.tup xs)
  frz : ∀ a o u, H a = some (.frz o u) → H' a = some (.frz o u)
  lst : ∀ a xs, H a = some (.lst xs) → M a = none → a ∉ hid → H' a = some (.lst xs) ∧ M' a = none
  hid : ∀ a ∈ hid, ∀ xs, H a = some (.lst xs) → H' a = some (.lst xs)
  dom : ∀ a, H a ≠ none → H' a ≠ none
  nl : ∀ a, M a = none → M' a ≠ none → H a = none
theorem Ext.refl (hid : List Addr) (H : Hp) (M : Mu) : Ext hid H M H M := ⟨fun _ _ h => h, fun _ _ _ h => h, fun _ _ h h' _ => ⟨h, h'⟩, fun _ _ _ h => h, fun _ h => h, fun _ h h' => absurd h h'⟩
theorem Ext.trans {hid : List Addr} {H H1 H2 : Hp} {M M1 M2 : Mu} (a : Ext hid H M H1 M1) (b : Ext hid H1 M1 H2 M2) : Ext hid H M H2 M2 :=
  ⟨fun x xs h => b.tup _ _ (a.tup x xs h), fun x o u h => b.frz _ _ _ (a.frz x o u h), fun x xs h h' z => let ⟨p, q⟩ := a.lst x xs h h' z; b.lst x xs p q z, fun x hx xs h => b.hid x hx xs (a.hid x hx xs h), fun x h => b.dom x (a.dom x h), fun x h h' => by
    cases q : M1 x with
    | none => exact Classical.byContradiction fun z => a.dom x z (b.nl x q h')
    | some m => exact a.nl x h (by rw [q]; exact fun z => nomatch z)⟩
theorem upd_dom {H : Hp} {p : Addr} {o : HO} (a : Addr) (h : H a ≠ none) : upd H p o a ≠ none := by
  by_cases e : a = p
  · subst e; rw [upd_same]; exact fun z => nomatch z
  · rw [upd_ne e]; exact h
section
variable {K : PySem.W.Frag} {hid : List Addr} {H H' : Hp} {M M' : Mu}
theorem Ext.sqT (e : Ext hid H M H' M') {a : Addr} {xs : List V} (h : SqT K H a xs) : SqT K H' a xs := by
  rcases h with (h | ⟨o, h⟩) | h
  · exact .inl (.inl (e.tup _ _ h))
  · exact .inl (.inr ⟨o, e.frz _ _ _ h⟩)
  · exact .inr h
theorem Ext.fzL (e : Ext hid H M H' M') {a : Addr} {xs : List V} (h : FzL K hid H M a xs) : FzL K hid H' M' a xs := by
  rcases h with h | ⟨o, h⟩ | h
  · obtain ⟨h1, h2, h3⟩ := h
    obtain ⟨p, q⟩ := e.lst _ _ h1 h2 h3
    exact .inl ⟨p, q, h3⟩
  · exact .inr (.inl ⟨o, e.frz _ _ _ h⟩)
  · exact .inr (.inr h)
mutual
theorem Ext.rv (e : Ext hid H M H' M') : ∀ (d : D) (v : V), Rv K hid H M v d → Rv K hid H' M' v d
  | .non, _, h => by cases h; exact .non
  | .bl b, _, h => by cases h; exact .bl b
  | .int i, _, h => by cases h; exact .int i
  | .str x, _, h => by cases h; exact .str x
  | .tup ds, _, h => by
    cases h with
    | tup h r => exact .tup (e.sqT h) (Ext.rvs e ds _ r)
  | .lst ds, _, h => by
    cases h with
    | lst h r => exact .lst (e.fzL h) (Ext.rvs e ds _ r)
  | .loc a, _, h => by cases h; exact .loc a
  | .ty n, _, h => by cases h; exact .ty n
theorem Ext.rvs (e : Ext hid H M H' M') : ∀ (ds : List D) (vs : List V), Rvs K hid H M vs ds → Rvs K hid H' M' vs ds
  | [], _, h => by cases h; exact .nil
  | d :: ds, _, h => by
    cases h with
    | cons h r => exact .cons (Ext.rv e d _ h) (Ext.rvs e ds _ r)
end
theorem Rvs.length : ∀ {vs : List V} {ds : List D}, Rvs K hid H M vs ds → vs.length = ds.length
  | _, _, .nil => rfl
  | _, _, .cons _ r => by rw [List.length_cons, List.length_cons, Rvs.length r]
theorem Rvs.get : ∀ {vs : List V} {ds : List D}, Rvs K hid H M vs ds → ∀ (i : Nat) {d : D}, ds[i]? = some d → ∃ v, vs[i]? = some v ∧ Rv K hid H M v d
  | _, _, .nil, _, _, e => by simp at e
  | _, _, .cons h r, 0, d, e => by simp at e; subst e; exact ⟨_, rfl, h⟩
  | _, _, .cons h r, i + 1, d, e => by
    obtain ⟨v, h1, h2⟩ := Rvs.get r i (d := d) (by simpa using e)
    exact ⟨v, by simpa using h1, h2⟩
theorem Rvs.append : ∀ {vs ws : List V} {ds es : List D}, Rvs K hid H M vs ds → Rvs K hid H M ws es → Rvs K hid H M (vs ++ ws) (ds ++ es)
  | _, _, _, _, .nil, s => s
  | _, _, _, _, .cons h r, s => .cons h (Rvs.append r s)
theorem Rvs.set : ∀ {vs : List V} {ds : List D} {v : V} {d : D} (i : Nat), Rvs K hid H M vs ds → Rv K hid H M v d → Rvs K hid H M (vs.set i v) (ds.set i d)
  | _, _, _, _, _, .nil, _ => .nil
  | _, _, _, _, 0, .cons _ r, q => .cons q r
  | _, _, _, _, i + 1, .cons h r, q => .cons h (Rvs.set i r q)
theorem Rvs.take : ∀ {vs : List V} {ds : List D} (n : Nat), Rvs K hid H M vs ds → Rvs K hid H M (vs.take n) (ds.take n)
  | _, _, 0, _ => by simp; exact .nil
  | _, _, _ + 1, .nil => .nil
  | _, _, n + 1, .cons h r => .cons h (Rvs.take n r)
theorem Rvs.drop : ∀ {vs : List V} {ds : List D} (n : Nat), Rvs K hid H M vs ds → Rvs K hid H M (vs.drop n) (ds.drop n)
  | _, _, 0, r => r
  | _, _, _ + 1, .nil => .nil
  | _, _, n + 1, .cons _ r => Rvs.drop n r
theorem Rvs.eraseIdx : ∀ {vs : List V} {ds : List D} (n : Nat), Rvs K hid H M vs ds → Rvs K hid H M (vs.eraseIdx n) (ds.eraseIdx n)
  | _, _, _, .nil => .nil
  | _, _, 0, .cons _ r => r
  | _, _, n + 1, .cons h r => .cons h (Rvs.eraseIdx n r)
theorem Rvs.dropLast {vs : List V} {ds : List D} (h : Rvs K hid H M vs ds) : Rvs K hid H M vs.dropLast ds.dropLast := by
  rw [List.dropLast_eq_take, List.dropLast_eq_take, h.length]; exact h.take _
theorem Rvs.reverse : ∀ {vs : List V} {ds : List D}, Rvs K hid H M vs ds → Rvs K hid H M vs.reverse ds.reverse
  | _, _, .nil => .nil
  | _, _, .cons h r => by
    rw [List.reverse_cons, List.reverse_cons]
    exact (Rvs.reverse r).append (.cons h .nil)
theorem Rvs.rep {vs : List V} {ds : List D} (h : Rvs K hid H M vs ds) : ∀ k : Nat, Rvs K hid H M (List.replicate k vs).flatten (List.replicate k ds).flatten
  | 0 => .nil
  | k + 1 => by
    simp only [List.replicate_succ, List.flatten_cons]
    exact h.append (Rvs.rep h k)
/-- forgetting more of the store -/
theorem Ext.less (h : ∀ a, M a = none → M' a = none) : Ext hid H M H M' := ⟨fun _ _ h => h, fun _ _ _ h => h, fun a _ q z _ => ⟨q, h a z⟩, fun _ _ _ h => h, fun _ h => h, fun a q q' => absurd (h a q) q'⟩

mutual
theorem Rv.dp : ∀ (d : D) (n : Nat) (v : V), dle n d = true → Rv K hid H M v d → Dp K H v d.pd
  | .non, _, _, _, h => by cases h; exact .non
  | .bl b, _, _, _, h => by cases h; exact .bl b
  | .int i, _, _, _, h => by cases h; exact .int i
  | .str x, _, _, _, h => by cases h; exact .str x
  | .tup ds, 0, _, q, h => by simp [dle] at q
  | .lst ds, 0, _, q, h => by simp [dle] at q
  | .tup ds, n + 1, _, q, h => by
    cases h with
    | tup h r => exact .tup h (Rvs.dp ds n _ (by simpa only [dle] using q) r)
  | .lst ds, n + 1, _, q, h => by
    cases h with
    | lst h r => exact .lst h.sq (Rvs.dp ds n _ (by simpa only [dle] using q) r)
  | .loc a, n, _, q, h => by cases n <;> simp [dle] at q
  | .ty a, n, _, q, h => by cases n <;> simp [dle] at q
theorem Rvs.dp : ∀ (ds : List D) (n : Nat) (vs : List V), ds.all (dle n) = true → Rvs K hid H M vs ds → DpAll K H vs (D.pds ds)
  | [], _, _, _, h => by cases h; exact .nil
  | d :: ds, n, _, q, h => by
    cases h with
    | cons h r =>
      rw [List.all_cons, Bool.and_eq_true] at q
      exact .cons (Rv.dp d n _ q.1 h) (Rvs.dp ds n _ q.2 r)
end
mutual
theorem dle_depth : ∀ (d : D) (n : Nat), dle n d = true → d.pd.canLay0 = true ∧ d.pd.depth ≤ n
  | .non, n, _ => by simp [D.pd, PyData.canLay0, PyData.depth]
  | .bl b, n, _ => by simp [D.pd, PyData.canLay0, PyData.depth]
  | .int i, n, _ => by simp [D.pd, PyData.canLay0, PyData.depth]
  | .str x, n, q => by cases n <;> simp [dle] at q <;> simp [D.pd, PyData.canLay0, PyData.depth, q]
  | .tup ds, 0, q => by simp [dle] at q
  | .lst ds, 0, q => by simp [dle] at q
  | .tup ds, n + 1, q => by
    obtain ⟨h1, h2⟩ := dles_depth ds n (by simpa only [dle] using q)
    simp only [D.pd, PyData.canLay0, PyData.depth]
    exact ⟨h1, by omega⟩
  | .lst ds, n + 1, q => by
    obtain ⟨h1, h2⟩ := dles_depth ds n (by simpa only [dle] using q)
    simp only [D.pd, PyData.canLay0, PyData.depth]
    exact ⟨h1, by omega⟩
  | .loc a, n, q => by cases n <;> simp [dle] at q
  | .ty a, n, q => by cases n <;> simp [dle] at q
theorem dles_depth : ∀ (ds : List D) (n : Nat), ds.all (dle n) = true → PyData.canLayAll0 (D.pds ds) = true ∧ PyData.depthAll (D.pds ds) ≤ n
  | [], n, _ => by simp [D.pds, PyData.canLayAll0, PyData.depthAll]
  | d :: ds, n, q => by
    rw [List.all_cons, Bool.and_eq_true] at q
    obtain ⟨h1, h2⟩ := dle_depth d n q.1
    obtain ⟨h3, h4⟩ := dles_depth ds n q.2
    simp only [D.pds, PyData.canLayAll0, PyData.depthAll, h1, h3, Bool.and_true, true_and]
    omega
end
theorem dle_shaped {d : D} (h : dle 60 d = true) : SeqAt.shaped d.pd = true := by
  obtain ⟨h1, h2⟩ := dle_depth d 60 h
  unfold SeqAt.shaped
  rw [h1, Bool.true_and]
  exact decide_eq_true (by omega)
end
end U

set_option Elab.async false
set_option linter.all false
set_option maxRecDepth 100000
set_option maxHeartbeats 1000000
/-! U2: what holds of a place of a run; the judgements; names, constants, operators, tests, displays. -/
namespace U
open PySem PySem.Spec PyProof.Rows L2

structure XD where
  C : Addr
  fs : List (Str × D)
def XR (K : PySem.W.Frag) (hid : List Addr) (H : Hp) (M : Mu) (cls : Value) (dd : Option Addr) (x : XD) : Prop :=
  cls = .ref x.C ∧ (x.fs = [] ∨ ∃ d fvs, dd = some d ∧ H d = some (.xd fvs) ∧ fvs.map (·.1) = x.fs.map (·.1) ∧ Rvs K hid H M (fvs.map (·.2)) (x.fs.map (·.2)))

def MOk (K : PySem.W.Frag) (hid : List Addr) (H : Hp) (M : Mu) (a : Addr) : MO → Prop
  | .lst ds => ∃ xs, H a = some (.lst xs) ∧ Rvs K hid H M xs ds
  | .dct _ => False
  | .ins C fs => ∃ dx fvs, H a = some (.ins C dx fvs) ∧ fvs.map (·.1) = fs.map (·.1) ∧ Rvs K hid H M (fvs.map (·.2)) (fs.map (·.2))
structure Sto (K : PySem.W.Frag) (T : List Addr) (hid : List Addr) (H : Hp) (M : Mu) : Prop where
  mem : ∀ a m, M a = some m → MOk K hid H M a m
  tab : ∀ P ∈ T, GxR.TabG H P
  hidn : ∀ a ∈ hid, M a = none ∧ H a ≠ none
def REnv (K : PySem.W.Frag) (hid : List Addr) (H : Hp) (M : Mu) (σ : L2.St) (ρ : Env') : Prop :=
  ρ.length = σ.length ∧ ∀ (i : Nat) (d : D), ρ[i]? = some (some d) → ∃ v, σ[i]? = some (some v) ∧ Rv K hid H M v d

abbrev XW := XD → Mu → Prop
abbrev FE := XW → Env' → Mu → (D → Mu → Prop) → Prop
abbrev FT := XW → Env' → Mu → (Bool → Mu → Prop) → Prop
abbrev FA := XW → Env' → Mu → (List D → Mu → Prop) → Prop
structure FEnds where
  nx : Env' → Mu → Prop
  rt : D → Mu → Prop
  bk : Env' → Mu → Prop := fun _ _ => False
  ct : Env' → Mu → Prop := fun _ _ => False
  xw : XD → Env' → Mu → Prop := fun _ _ _ => False
abbrev FS := FEnds → Env' → Mu → Prop

section
variable (K : PySem.W.Frag) (T hid : List Addr) (W : WX)
/-- the wish about exceptions, at the slots σ -/
def WOk (σ : L2.St) (H : Hp) (M : Mu) (xw : XW) : Prop :=
  ∀ cls dd H' M' xd, Sto K T hid H' M' → Ext hid H M H' M' → XR K hid H' M' cls dd xd → xw xd M' → W cls dd σ H'
def WOkS (H : Hp) (M : Mu) (xw : XD → Env' → Mu → Prop) : Prop :=
  ∀ cls dd σ' H' ρ' M' xd, REnv K hid H' M' σ' ρ' → Sto K T hid H' M' → Ext hid H M H' M' → XR K hid H' M' cls dd xd → xw xd ρ' M' → W cls dd σ' H'
def Pst (H : Hp) (M : Mu) (Q : D → Mu → Prop) (Qv : VK) : Prop :=
  ∀ v H' d M', Sto K T hid H' M' → Ext hid H M H' M' → Rv K hid H' M' v d → Q d M' → Qv v H'
def PstB (H : Hp) (M : Mu) (Q : Bool → Mu → Prop) (Qv : Bool → Hp → Prop) : Prop :=
  ∀ b H' M', Sto K T hid H' M' → Ext hid H M H' M' → Q b M' → Qv b H'
def PstA (H : Hp) (M : Mu) (Q : List D → Mu → Prop) (Qv : List V → Hp → Prop) : Prop :=
  ∀ vs H' ds M', Sto K T hid H' M' → Ext hid H M H' M' → Rvs K hid H' M' vs ds → Q ds M' → Qv vs H'
structure EndsOk (H : Hp) (M : Mu) (E : FEnds) (D : Ends) : Prop where
  nx : ∀ σ' H' ρ' M', REnv K hid H' M' σ' ρ' → Sto K T hid H' M' → Ext hid H M H' M' → E.nx ρ' M' → D.nx σ' H'
  rt : Pst K T hid H M E.rt D.rt
  bk : ∀ σ' H' ρ' M', REnv K hid H' M' σ' ρ' → Sto K T hid H' M' → Ext hid H M H' M' → E.bk ρ' M' → D.bk σ' H'
  ct : ∀ σ' H' ρ' M', REnv K hid H' M' σ' ρ' → Sto K T hid H' M' → Ext hid H M H' M' → E.ct ρ' M' → D.ct σ' H'
end
def ESim (K : PySem.W.Frag) (T : List Addr) (W : WX) (t : TE) (f : FE) : Prop :=
  ∀ hid σ H ρ M xw Q Qv, REnv K hid H M σ ρ → Sto K T hid H M → WOk K T hid W σ H M xw → f xw ρ M Q → Pst K T hid H M Q Qv → t σ H Qv
def TSim (K : PySem.W.Frag) (T : List Addr) (W : WX) (t : TT) (f : FT) : Prop :=
  ∀ hid σ H ρ M xw Q Qv, REnv K hid H M σ ρ → Sto K T hid H M → WOk K T hid W σ H M xw → f xw ρ M Q → PstB K T hid H M Q Qv → t σ H Qv
def ASim (K : PySem.W.Frag) (T : List Addr) (W : WX) (t : TA) (f : FA) : Prop :=
  ∀ hid σ H ρ M xw Q Qv, REnv K hid H M σ ρ → Sto K T hid H M → WOk K T hid W σ H M xw → f xw ρ M Q → PstA K T hid H M Q Qv → t σ H Qv
def SSim (K : PySem.W.Frag) (T : List Addr) (W : WX) (t : TS) (f : FS) : Prop :=
  ∀ hid σ H ρ M E D, REnv K hid H M σ ρ → Sto K T hid H M → WOkS K T hid W H M E.xw → f E ρ M → EndsOk K T hid H M E D → t D σ H

def DE (X : Cx) (T : List Addr) (W : WX) (e : Expr) (f : FE) : Prop := ∃ t, PE X e t ∧ ESim X.K T W t f
def DT (X : Cx) (T : List Addr) (W : WX) (e : Expr) (f : FT) : Prop := ∃ t, PT X e t ∧ TSim X.K T W t f
def DW (X : Cx) (T : List Addr) (W : WX) (e : Expr) (f : FT) : Prop := ∃ t, PW X e t ∧ TSim X.K T W t f
def DA (X : Cx) (T : List Addr) (W : WX) (es : List Expr) (f : FA) : Prop := ∃ t, PA X es t ∧ ASim X.K T W t f
def DS (X : Cx) (T : List Addr) (W : WX) (st : Stmt) (f : FS) : Prop := ∃ t, PS X st t ∧ SSim X.K T W t f
def DSs (X : Cx) (T : List Addr) (W : WX) (sts : List Stmt) (f : FS) : Prop := ∃ t, PSs X sts t ∧ SSim X.K T W t f

section
variable {K : PySem.W.Frag} {T hid : List Addr} {W : WX} {H H' H1 : Hp} {M M' M1 : Mu} {σ : L2.St} {ρ : Env'}
theorem REnv.ext (r : REnv K hid H M σ ρ) (e : Ext hid H M H' M') : REnv K hid H' M' σ ρ :=
  ⟨r.1, fun i d h => let ⟨v, h1, h2⟩ := r.2 i d h; ⟨v, h1, e.rv _ _ h2⟩⟩
theorem REnv.set (r : REnv K hid H M σ ρ) {v : V} {d : D} (i : Nat) (h : Rv K hid H M v d) : REnv K hid H M (σ.set i (some v)) (ρ.set i (some d)) := by
  refine ⟨by rw [List.length_set, List.length_set]; exact r.1, fun j c hj => ?_⟩
  by_cases e : i = j
  · subst e
    by_cases hl : i < ρ.length
    · rw [List.getElem?_set_self hl] at hj
      cases hj
      exact ⟨v, List.getElem?_set_self (by rw [← r.1]; exact hl), h⟩
    · rw [List.getElem?_eq_none (by rw [List.length_set]; omega)] at hj; cases hj
  · rw [List.getElem?_set_ne e] at hj
    obtain ⟨w, h1, h2⟩ := r.2 j c hj
    exact ⟨w, by rw [List.getElem?_set_ne e]; exact h1, h2⟩
theorem WOk.ext {xw : XW} (w : WOk K T hid W σ H M xw) (e : Ext hid H M H' M') : WOk K T hid W σ H' M' xw :=
  fun cls dd H1 M1 xd s e1 => w cls dd H1 M1 xd s (e.trans e1)
theorem WOkS.ext {xw : XD → Env' → Mu → Prop} (w : WOkS K T hid W H M xw) (e : Ext hid H M H' M') : WOkS K T hid W H' M' xw :=
  fun cls dd σ1 H1 ρ1 M1 xd r s e1 => w cls dd σ1 H1 ρ1 M1 xd r s (e.trans e1)
theorem WOkS.at {xw : XD → Env' → Mu → Prop} (w : WOkS K T hid W H M xw) (r : REnv K hid H M σ ρ) : WOk K T hid W σ H M (fun xd M' => xw xd ρ M') :=
  fun cls dd H1 M1 xd s e x q => w cls dd σ H1 ρ M1 xd (r.ext e) s e x q
theorem Pst.ext {Q : D → Mu → Prop} {Qv : VK} (p : Pst K T hid H M Q Qv) (e : Ext hid H M H' M') : Pst K T hid H' M' Q Qv := fun v H1 d M1 s e1 => p v H1 d M1 s (e.trans e1)
theorem EndsOk.ext {E : FEnds} {D : Ends} (p : EndsOk K T hid H M E D) (e : Ext hid H M H' M') : EndsOk K T hid H' M' E D :=
  ⟨fun σ1 H1 ρ1 M1 r s e1 => p.nx σ1 H1 ρ1 M1 r s (e.trans e1), p.rt.ext e, fun σ1 H1 ρ1 M1 r s e1 => p.bk σ1 H1 ρ1 M1 r s (e.trans e1), fun σ1 H1 ρ1 M1 r s e1 => p.ct σ1 H1 ρ1 M1 r s (e.trans e1)⟩

/-! ### new objects -/
theorem Sto.fresh (s : Sto K T hid H M) {p : Addr} (hp : H p = none) : M p = none ∧ p ∉ hid := by
  refine ⟨?_, fun h => (s.hidn p h).2 hp⟩
  cases q : M p with
  | none => rfl
  | some m =>
    have := s.mem p m q
    cases m with
    | lst ds => obtain ⟨xs, e, _⟩ := this; rw [hp] at e; cases e
    | dct kvs => exact this.elim
    | ins C fs => obtain ⟨dx, fvs, e, _⟩ := this; rw [hp] at e; cases e
theorem MOk.ext (e : Ext hid H M H' M') {a : Addr} {m : MO} (h : MOk K hid H M a m) (k : H' a = H a) : MOk K hid H' M' a m := by
  cases m with
  | lst ds => obtain ⟨xs, h1, h2⟩ := h; exact ⟨xs, by rw [k]; exact h1, e.rvs _ _ h2⟩
  | dct kvs => exact h
  | ins C fs => obtain ⟨dx, fvs, h1, h3, h2⟩ := h; exact ⟨dx, fvs, by rw [k]; exact h1, h3, e.rvs _ _ h2⟩
theorem Ext.new (s : Sto K T hid H M) {p : Addr} {o : HO} (hp : H p = none) : Ext hid H M (upd H p o) M :=
  ⟨fun a xs h => by rw [upd_ne (ne_of_none h hp)]; exact h, fun a o u h => by rw [upd_ne (ne_of_none h hp)]; exact h,
   fun a xs h h' z => ⟨by rw [upd_ne (ne_of_none h hp)]; exact h, h'⟩, fun a ha xs h => by rw [upd_ne (ne_of_none h hp)]; exact h, fun a h => upd_dom a h, fun a h h' => absurd h h'⟩
theorem Sto.new (s : Sto K T hid H M) {p : Addr} {o : HO} (hp : H p = none) : Sto K T hid (upd H p o) M := by
  refine ⟨fun a m h => ?_, fun P hP => ?_, fun a ha => ?_⟩
  · have hne : a ≠ p := by rintro rfl; rw [(s.fresh hp).1] at h; cases h
    exact (s.mem a m h).ext (Ext.new s hp) (upd_ne hne)
  · obtain ⟨ps, h1, h2⟩ := s.tab P hP
    exact ⟨ps, by rw [upd_ne (ne_of_none h1 hp)]; exact h1, h2⟩
  · obtain ⟨h1, h2⟩ := s.hidn a ha
    refine ⟨h1, ?_⟩
    by_cases e : a = p
    · subst e; exact absurd hp h2
    · rw [upd_ne e]; exact h2
theorem new_tup {Q : D → Mu → Prop} {Qv : VK} (s : Sto K T hid H M) (po : Pst K T hid H M Q Qv) {xs : List V} {ds : List D} (r : Rvs K hid H M xs ds) {p : Addr} (hp : H p = none) (q : Q (.tup ds) M) : Qv (.ref p) (upd H p (.tup xs)) :=
  po _ _ _ _ (s.new hp) (Ext.new s hp) (.tup (SqT.of upd_same) ((Ext.new s hp).rvs _ _ r)) q
theorem new_lst {Q : D → Mu → Prop} {Qv : VK} (s : Sto K T hid H M) (po : Pst K T hid H M Q Qv) {xs : List V} {ds : List D} (r : Rvs K hid H M xs ds) {p : Addr} (hp : H p = none) (q : Q (.lst ds) M) : Qv (.ref p) (upd H p (.lst xs)) :=
  po _ _ _ _ (s.new hp) (Ext.new s hp) (.lst (.inl ⟨upd_same, s.fresh hp⟩) ((Ext.new s hp).rvs _ _ r)) q
/-- a new list that is to be written -/
theorem Ext.own (s : Sto K T hid H M) {p : Addr} {m : MO} {o : HO} (hp : H p = none) : Ext hid H M (upd H p o) (mset M p m) :=
  ⟨fun a xs h => by rw [upd_ne (ne_of_none h hp)]; exact h, fun a o u h => by rw [upd_ne (ne_of_none h hp)]; exact h,
   fun a xs h h' z => ⟨by rw [upd_ne (ne_of_none h hp)]; exact h, by rw [mset_ne (ne_of_none h hp)]; exact h'⟩, fun a ha xs h => by rw [upd_ne (ne_of_none h hp)]; exact h, fun a h => upd_dom a h, fun a h h' => by
    by_cases q : a = p
    · rw [q]; exact hp
    · rw [mset_ne q] at h'; exact absurd h h'⟩
theorem Sto.own (s : Sto K T hid H M) {p : Addr} {xs : List V} {ds : List D} (hp : H p = none) (r : Rvs K hid H M xs ds) : Sto K T hid (upd H p (.lst xs)) (mset M p (.lst ds)) := by
  have e := Ext.own (m := .lst ds) (o := .lst xs) s hp
  refine ⟨fun a m h => ?_, fun P hP => ?_, fun a ha => ?_⟩
  · by_cases hne : a = p
    · subst hne; rw [mset_same] at h; cases h
      exact ⟨xs, upd_same, e.rvs _ _ r⟩
    · rw [mset_ne hne] at h
      exact (s.mem a m h).ext e (upd_ne hne)
  · obtain ⟨ps, h1, h2⟩ := s.tab P hP
    exact ⟨ps, by rw [upd_ne (ne_of_none h1 hp)]; exact h1, h2⟩
  · obtain ⟨h1, h2⟩ := s.hidn a ha
    have hne : a ≠ p := by rintro rfl; exact h2 hp
    exact ⟨by rw [mset_ne hne]; exact h1, by rw [upd_ne hne]; exact h2⟩
/-- a list that is written is not written any more -/
theorem Ext.frees (hne : M ≠ M ∨ True) {p : Addr} : Ext hid H M H (mdel M p) :=
  ⟨fun _ _ h => h, fun _ _ _ h => h, fun a xs h h' _ => ⟨h, by unfold mdel; split <;> first | rfl | exact h'⟩, fun _ _ _ h => h, fun _ h => h, fun a h h' => absurd (by unfold mdel; split <;> first | rfl | exact h) h'⟩
theorem Sto.frees (s : Sto K T hid H M) (p : Addr) : Sto K T hid H (mdel M p) := by
  have e : Ext hid H M H (mdel M p) := Ext.frees (.inr trivial)
  refine ⟨fun a m h => ?_, s.tab, fun a ha => ?_⟩
  · have hne : a ≠ p := by rintro rfl; rw [mdel_same] at h; cases h
    rw [mdel_ne hne] at h
    exact (s.mem a m h).ext e rfl
  · obtain ⟨h1, h2⟩ := s.hidn a ha
    exact ⟨by unfold mdel; split <;> first | rfl | exact h1, h2⟩
/-- a list is written -/
theorem Sto.at (s : Sto K T hid H M) {p : Addr} {ds : List D} (h : M p = some (.lst ds)) : ∃ xs, H p = some (.lst xs) ∧ Rvs K hid H M xs ds ∧ p ∉ hid := by
  obtain ⟨xs, h1, h2⟩ := s.mem p _ h
  exact ⟨xs, h1, h2, fun z => by rw [(s.hidn p z).1] at h; cases h⟩
theorem Ext.wr (s : Sto K T hid H M) {p : Addr} {ds es : List D} {xs : List V} (h : M p = some (.lst ds)) : Ext hid H M (upd H p (.lst xs)) (mset M p (.lst es)) := by
  obtain ⟨ys, h1, _, h3⟩ := s.at h
  refine ⟨fun a zs q => ?_, fun a o u q => ?_, fun a zs q q' z => ?_, fun a ha xs q => ?_, fun a h => upd_dom a h, fun a q q' => by
    by_cases z : a = p
    · rw [z, h] at q; cases q
    · rw [mset_ne z] at q'; exact absurd q q'⟩
  · rw [upd_ne (by rintro rfl; rw [h1] at q; cases q)]; exact q
  · rw [upd_ne (by rintro rfl; rw [h1] at q; cases q)]; exact q
  · have hne : a ≠ p := by rintro rfl; rw [h] at q'; cases q'
    exact ⟨by rw [upd_ne hne]; exact q, by rw [mset_ne hne]; exact q'⟩
  · rw [upd_ne (by rintro rfl; exact h3 ha)]; exact q
theorem Sto.wr (s : Sto K T hid H M) {p : Addr} {ds es : List D} {xs : List V} (h : M p = some (.lst ds)) (r : Rvs K hid H M xs es) : Sto K T hid (upd H p (.lst xs)) (mset M p (.lst es)) := by
  have e := Ext.wr (es := es) (xs := xs) s h
  obtain ⟨ys, h1, _, h3⟩ := s.at h
  refine ⟨fun a m q => ?_, fun P hP => ?_, fun a ha => ?_⟩
  · by_cases hne : a = p
    · subst hne; rw [mset_same] at q; cases q
      exact ⟨xs, upd_same, e.rvs _ _ r⟩
    · rw [mset_ne hne] at q
      exact (s.mem a m q).ext e (upd_ne hne)
  · obtain ⟨ps, h4, h5⟩ := s.tab P hP
    exact ⟨ps, by rw [upd_ne (by rintro rfl; rw [h1] at h4; cases h4)]; exact h4, h5⟩
  · obtain ⟨h4, h5⟩ := s.hidn a ha
    have hne : a ≠ p := by rintro rfl; exact h3 ha
    exact ⟨by rw [mset_ne hne]; exact h4, by rw [upd_ne hne]; exact h5⟩
end

/-! ### names, constants -/
def fNm (i : Nat) : FE := fun _ ρ M Q => match ρ[i]? with
  | some (some d) => Q d M
  | _ => False
def fC (d : D) : FE := fun _ _ M Q => Q d M
section
variable {X : Cx} {T : List Addr} {W : WX}
theorem DE.mk {e : Expr} {t : TE} {f : FE} (h : PE X e t) (s : ESim X.K T W t f) : DE X T W e f := ⟨t, h, s⟩
theorem de_nm (i : Nat) {x : Str} {pos : Pos} (hN : X.N[i]? = some x) (hv : Vis X.env.scope x) (hd : (x == ("__debug__" : Str)) = false) (hcd : (x == ("__classdict__" : Str)) = false) : DE X T W (.Name x pos) (fNm i) := by
  refine ⟨_, pe_var hN hv hd hcd, fun hid σ H ρ M xw Q Qv r s w q p => ?_⟩
  unfold fNm at q
  split at q
  · rename_i d e
    obtain ⟨v, h1, h2⟩ := r.2 i d e
    exact ⟨v, h1, p v H d M s (Ext.refl _ _ _) h2 q⟩
  · exact q.elim
theorem de_int {i : Int} {j : Nat} {pos : Pos} : DE X T W (.Constant (.int i) j pos) (fC (.int i)) := ⟨_, pe_int, fun hid σ H ρ M xw Q Qv r s w q p => p _ H _ M s (Ext.refl _ _ _) (.int i) q⟩
theorem de_bl {b : Bool} {j : Nat} {pos : Pos} : DE X T W (.Constant (.bool b) j pos) (fC (.bl b)) := ⟨_, pe_bl, fun hid σ H ρ M xw Q Qv r s w q p => p _ H _ M s (Ext.refl _ _ _) (.bl b) q⟩
theorem de_non {j : Nat} {pos : Pos} : DE X T W (.Constant .none j pos) (fC .non) := ⟨_, pe_non, fun hid σ H ρ M xw Q Qv r s w q p => p _ H _ M s (Ext.refl _ _ _) .non q⟩
theorem de_str {x : Str} {j : Nat} {pos : Pos} : DE X T W (.Constant (.str x) j pos) (fC (.str x)) := ⟨_, pe_str, fun hid σ H ρ M xw Q Qv r s w q p => p _ H _ M s (Ext.refl _ _ _) (.str x) q⟩
/-- a module's whole number -/
theorem de_gint {i : Int} {t : Tok} {x : Str} {pos : Pos} (hg : Gl X x) (hm : X.mg x = some (.int i t)) (hd : (x == ("__debug__" : Str)) = false) : DE X T W (.Name x pos) (fC (.int i)) :=
  ⟨_, pe_glob (v := .int i) hg hm ⟨t, rfl⟩ hd, fun hid σ H ρ M xw Q Qv r s w q p => p _ H _ M s (Ext.refl _ _ _) (.int i) q⟩

/-! ### two values -/
abbrev G2 := D → D → Mu → (D → Mu → Prop) → Prop
def OSim (K : PySem.W.Frag) (T : List Addr) (r : R2) (g : G2) : Prop :=
  ∀ hid H M x y v w Q Qv, Sto K T hid H M → Rv K hid H M v x → Rv K hid H M w y → g x y M Q → Pst K T hid H M Q Qv → r v w H Qv
def fOp (g : G2) (fa fb : FE) : FE := fun xw ρ M Q => fa xw ρ M fun x M1 => fb xw ρ M1 fun y M2 => g x y M2 Q
theorem sim_op {K : PySem.W.Frag} {r : R2} {g : G2} {ta tb : TE} {fa fb : FE} (o : OSim K T r g) (a : ESim K T W ta fa) (b : ESim K T W tb fb) : ESim K T W (tOp r ta tb) (fOp g fa fb) := by
  intro hid σ H ρ M xw Q Qv r s w q p
  refine a hid σ H ρ M xw _ _ r s w q fun v H1 d M1 s1 e1 r1 q1 => ?_
  refine b hid σ H1 ρ M1 xw _ _ (r.ext e1) s1 (w.ext e1) q1 fun u H2 d2 M2 s2 e2 r2 q2 => ?_
  exact o hid H2 M2 d d2 v u Q Qv s2 (e2.rv _ _ r1) r2 q2 (p.ext (e1.trans e2))
theorem de_bin {op : Operator} {r : R2} {g : G2} {a b : Expr} {fa fb : FE} {pos : Pos} (ho : OpR X (binaryOp op) r) (o : OSim X.K T r g) (ha : DE X T W a fa) (hb : DE X T W b fb) : DE X T W (.BinOp a op b pos) (fOp g fa fb) := by
  obtain ⟨ta, pa, sa⟩ := ha
  obtain ⟨tb, pb, sb⟩ := hb
  exact ⟨_, pe_op ho pa pb, sim_op o sa sb⟩
theorem de_cmp {op : CmpOp} {r : R2} {g : G2} {a b : Expr} {fa fb : FE} {pos : Pos} (ho : OpR X (compareOp op) r) (o : OSim X.K T r g) (hm : behindInMarks op b = false) (ha : DE X T W a fa) (hb : DE X T W b fb) : DE X T W (.Compare a [op] [b] pos) (fOp g fa fb) := by
  obtain ⟨ta, pa, sa⟩ := ha
  obtain ⟨tb, pb, sb⟩ := hb
  exact ⟨_, pe_cmpR ho pa pb hm, sim_op o sa sb⟩
theorem de_ix {r : R2} {g : G2} {a b : Expr} {fa fb : FE} {pos : Pos} (ho : IxR X r) (o : OSim X.K T r g) (hs : PlainIx b) (ha : DE X T W a fa) (hb : DE X T W b fb) : DE X T W (.Subscript a b pos) (fOp g fa fb) := by
  obtain ⟨ta, pa, sa⟩ := ha
  obtain ⟨tb, pb, sb⟩ := hb
  exact ⟨_, pe_ix ho pa pb hs, sim_op o sa sb⟩

/-! ### tests -/
def fB (f : FE) : FT := fun xw ρ M Q => f xw ρ M fun d M1 => match d with
  | .bl b => Q b M1
  | _ => False
theorem simT_of {K : PySem.W.Frag} {t : TE} {f : FE} (h : ESim K T W t f) : TSim K T W (tTest t) (fB f) := by
  intro hid σ H ρ M xw Q Qv r s w q p
  refine h hid σ H ρ M xw _ _ r s w q fun v H1 d M1 s1 e1 r1 q1 => ?_
  cases d with
  | bl b => cases r1; exact ⟨b, rfl, p b H1 M1 s1 e1 q1⟩
  | _ => exact (show False from q1).elim
theorem dt_cmp {op : CmpOp} {r : R2} {g : G2} {a b : Expr} {fa fb : FE} {pos : Pos} (ho : OpR X (compareOp op) r) (o : OSim X.K T r g) (hm : behindInMarks op b = false) (ha : DE X T W a fa) (hb : DE X T W b fb) : DT X T W (.Compare a [op] [b] pos) (fB (fOp g fa fb)) := by
  obtain ⟨ta, pa, sa⟩ := ha
  obtain ⟨tb, pb, sb⟩ := hb
  exact ⟨_, pt_cmpR ho pa pb hm, simT_of (sim_op o sa sb)⟩
/-- by truth -/
def trD (M : Mu) (d : D) (Q : Bool → Prop) : Prop := match d with
  | .non => Q false
  | .bl b => Q b
  | .int i => Q (i != 0)
  | .tup ds => Q (!ds.isEmpty)
  | .lst ds => Q (!ds.isEmpty)
  | .loc a => (match M a with
    | some (.lst ds) => Q (!ds.isEmpty)
    | _ => False)
  | .str x => x.length ≤ sizeLine ∧ Q ((x.length : Int) != 0)
  | .ty _ => False
def fTr (f : FE) : FT := fun xw ρ M Q => f xw ρ M fun d M1 => trD M1 d fun b => Q b M1
theorem Rvs.isEmpty {K : PySem.W.Frag} {hid : List Addr} {H : Hp} {M : Mu} {xs : List V} {ds : List D} (r : Rvs K hid H M xs ds) : xs.isEmpty = ds.isEmpty := by cases r <;> rfl
theorem truV_of {K : PySem.W.Frag} {hid : List Addr} {H : Hp} {M : Mu} {v : V} {d : D} {Q : Bool → Prop} (s : Sto K T hid H M) (r : Rv K hid H M v d) (q : trD M d Q) : ∃ k, TruV K v H k ∧ Q k := by
  cases d with
  | non => cases r; exact ⟨false, rfl, q⟩
  | bl b => cases r; exact ⟨b, rfl, q⟩
  | int i => cases r; exact ⟨_, rfl, q⟩
  | str x => cases r; exact ⟨_, ⟨q.1, rfl⟩, q.2⟩
  | tup ds =>
    cases r with
    | tup h r => exact ⟨_, .inr (.inl ⟨_, h, rfl⟩), by rw [r.isEmpty]; exact q⟩
  | lst ds =>
    cases r with
    | lst h r => exact ⟨_, .inl ⟨_, h.sq, rfl⟩, by rw [r.isEmpty]; exact q⟩
  | loc a =>
    cases r
    unfold trD at q
    dsimp only at q
    split at q
    · rename_i ds e
      obtain ⟨xs, h1, h2, _⟩ := s.at e
      exact ⟨_, .inl ⟨xs, SqL.of h1, rfl⟩, by rw [h2.isEmpty]; exact q⟩
    · exact q.elim
  | ty n => exact (show False from q).elim
theorem dt_tr {e : Expr} {f : FE} (h : DE X T W e f) (he : ∀ whole, isTrue e X.env whole = (do let v ← whole; standAt e.pos; holding [v] (truthy v))) : DT X T W e (fTr f) := by
  obtain ⟨t, pa, sa⟩ := h
  refine ⟨_, pt_truth pa he, fun hid σ H ρ M xw Q Qv r s w q p => ?_⟩
  refine sa hid σ H ρ M xw _ _ r s w q fun v H1 d M1 s1 e1 r1 q1 => ?_
  obtain ⟨k, h1, h2⟩ := truV_of s1 r1 q1
  exact ⟨k, h1, p k H1 M1 s1 e1 h2⟩
def fAnd (f g : FT) : FT := fun xw ρ M Q => f xw ρ M fun c M1 => if c = true then g xw ρ M1 Q else Q false M1
def fOr (f g : FT) : FT := fun xw ρ M Q => f xw ρ M fun c M1 => if c = true then Q true M1 else g xw ρ M1 Q
def fNot (f : FT) : FT := fun xw ρ M Q => f xw ρ M fun c M1 => Q (!c) M1
theorem dw_and1 {a : Expr} {f : FT} {pos : Pos} (h : DT X T W a f) : DW X T W (.BoolOp .And [a] pos) f := let ⟨t, p, s⟩ := h; ⟨t, pw_and1 p, s⟩
theorem dw_or1 {a : Expr} {f : FT} {pos : Pos} (h : DT X T W a f) : DW X T W (.BoolOp .Or [a] pos) f := let ⟨t, p, s⟩ := h; ⟨t, pw_or1 p, s⟩
theorem dw_and {a b : Expr} {rest : List Expr} {f g : FT} {pos : Pos} (h : DT X T W a f) (h2 : DW X T W (.BoolOp .And (b :: rest) pos) g) : DW X T W (.BoolOp .And (a :: b :: rest) pos) (fAnd f g) := by
  obtain ⟨t, p, sa⟩ := h
  obtain ⟨u, p2, sb⟩ := h2
  refine ⟨_, pw_and p p2, fun hid σ H ρ M xw Q Qv r s w q p => ?_⟩
  refine sa hid σ H ρ M xw _ _ r s w q fun c H1 M1 s1 e1 q1 => ?_
  cases c with
  | true => exact sb hid σ H1 ρ M1 xw Q Qv (r.ext e1) s1 (w.ext e1) q1 fun b H2 M2 s2 e2 => p b H2 M2 s2 (e1.trans e2)
  | false => exact p false H1 M1 s1 e1 q1
theorem dw_or {a b : Expr} {rest : List Expr} {f g : FT} {pos : Pos} (h : DT X T W a f) (h2 : DW X T W (.BoolOp .Or (b :: rest) pos) g) : DW X T W (.BoolOp .Or (a :: b :: rest) pos) (fOr f g) := by
  obtain ⟨t, p, sa⟩ := h
  obtain ⟨u, p2, sb⟩ := h2
  refine ⟨_, pw_or p p2, fun hid σ H ρ M xw Q Qv r s w q p => ?_⟩
  refine sa hid σ H ρ M xw _ _ r s w q fun c H1 M1 s1 e1 q1 => ?_
  cases c with
  | false => exact sb hid σ H1 ρ M1 xw Q Qv (r.ext e1) s1 (w.ext e1) q1 fun b H2 M2 s2 e2 => p b H2 M2 s2 (e1.trans e2)
  | true => exact p true H1 M1 s1 e1 q1
theorem DW.dt {e : Expr} {f : FT} (h : DW X T W e f) : DT X T W e f := let ⟨t, p, s⟩ := h; ⟨t, p.pt, s⟩
theorem dt_not {a : Expr} {f : FT} {pos : Pos} (h : DT X T W a f) : DT X T W (.UnaryOp .Not a pos) (fNot f) := by
  obtain ⟨t, p, sa⟩ := h
  exact ⟨_, pt_not p, fun hid σ H ρ M xw Q Qv r s w q p => sa hid σ H ρ M xw _ _ r s w q fun c H1 M1 s1 e1 q1 => p _ H1 M1 s1 e1 q1⟩
/-- and, or, not as values; of bools -/
def fAndV (f g : FE) : FE := fun xw ρ M Q => f xw ρ M fun d M1 => match d with
  | .bl b => if b = true then g xw ρ M1 Q else Q (.bl false) M1
  | _ => False
def fOrV (f g : FE) : FE := fun xw ρ M Q => f xw ρ M fun d M1 => match d with
  | .bl b => if b = true then Q (.bl true) M1 else g xw ρ M1 Q
  | _ => False
def fNotV (f : FE) : FE := fun xw ρ M Q => f xw ρ M fun d M1 => match d with
  | .bl b => Q (.bl (!b)) M1
  | _ => False
theorem de_one {op : BoolOp} {a : Expr} {f : FE} {pos : Pos} (h : DE X T W a f) : DE X T W (.BoolOp op [a] pos) f := let ⟨t, p, s⟩ := h; ⟨t, pe_one p, s⟩
theorem de_and {a b : Expr} {rest : List Expr} {f g : FE} {pos : Pos} (h : DE X T W a f) (h2 : DE X T W (.BoolOp .And (b :: rest) pos) g) : DE X T W (.BoolOp .And (a :: b :: rest) pos) (fAndV f g) := by
  obtain ⟨t, p, sa⟩ := h
  obtain ⟨u, p2, sb⟩ := h2
  refine ⟨_, pe_and p p2, fun hid σ H ρ M xw Q Qv r s w q p => ?_⟩
  refine sa hid σ H ρ M xw _ _ r s w q fun v H1 d M1 s1 e1 r1 q1 => ?_
  cases d with
  | bl c =>
    cases r1
    refine ⟨c, rfl, ?_⟩
    cases c with
    | true => exact sb hid σ H1 ρ M1 xw Q Qv (r.ext e1) s1 (w.ext e1) q1 (p.ext e1)
    | false => exact p _ H1 _ M1 s1 e1 (.bl false) q1
  | _ => exact (show False from q1).elim
theorem de_or {a b : Expr} {rest : List Expr} {f g : FE} {pos : Pos} (h : DE X T W a f) (h2 : DE X T W (.BoolOp .Or (b :: rest) pos) g) : DE X T W (.BoolOp .Or (a :: b :: rest) pos) (fOrV f g) := by
  obtain ⟨t, p, sa⟩ := h
  obtain ⟨u, p2, sb⟩ := h2
  refine ⟨_, pe_or p p2, fun hid σ H ρ M xw Q Qv r s w q p => ?_⟩
  refine sa hid σ H ρ M xw _ _ r s w q fun v H1 d M1 s1 e1 r1 q1 => ?_
  cases d with
  | bl c =>
    cases r1
    refine ⟨c, rfl, ?_⟩
    cases c with
    | false => exact sb hid σ H1 ρ M1 xw Q Qv (r.ext e1) s1 (w.ext e1) q1 (p.ext e1)
    | true => exact p _ H1 _ M1 s1 e1 (.bl true) q1
  | _ => exact (show False from q1).elim
theorem de_not {a : Expr} {f : FE} {pos : Pos} (h : DE X T W a f) : DE X T W (.UnaryOp .Not a pos) (fNotV f) := by
  obtain ⟨t, p, sa⟩ := h
  refine ⟨_, pe_not p, fun hid σ H ρ M xw Q Qv r s w q p => ?_⟩
  refine sa hid σ H ρ M xw _ _ r s w q fun v H1 d M1 s1 e1 r1 q1 => ?_
  cases d with
  | bl c => cases r1; exact ⟨c, rfl, p _ H1 _ M1 s1 e1 (.bl _) q1⟩
  | _ => exact (show False from q1).elim
def fIf (c : FT) (f g : FE) : FE := fun xw ρ M Q => c xw ρ M fun b M1 => if b = true then f xw ρ M1 Q else g xw ρ M1 Q
theorem de_if {c a b : Expr} {fc : FT} {f g : FE} {pos : Pos} (hc : DT X T W c fc) (ha : DE X T W a f) (hb : DE X T W b g) : DE X T W (.IfExp c a b pos) (fIf fc f g) := by
  obtain ⟨tc, pc, sc⟩ := hc
  obtain ⟨t, pa, sa⟩ := ha
  obtain ⟨u, pb, sb⟩ := hb
  refine ⟨_, pe_ifExp pc pa pb, fun hid σ H ρ M xw Q Qv r s w q p => ?_⟩
  refine sc hid σ H ρ M xw _ _ r s w q fun c H1 M1 s1 e1 q1 => ?_
  cases c with
  | true => exact sa hid σ H1 ρ M1 xw Q Qv (r.ext e1) s1 (w.ext e1) q1 (p.ext e1)
  | false => exact sb hid σ H1 ρ M1 xw Q Qv (r.ext e1) s1 (w.ext e1) q1 (p.ext e1)

/-! ### arguments and displays -/
def fNil : FA := fun _ _ M Q => Q [] M
def fCons (f : FE) (g : FA) : FA := fun xw ρ M Q => f xw ρ M fun d M1 => g xw ρ M1 fun ds M2 => Q (d :: ds) M2
theorem da_nil : DA X T W [] fNil := ⟨_, pa_nil, fun hid σ H ρ M xw Q Qv r s w q p => p _ H _ M s (Ext.refl _ _ _) .nil q⟩
theorem da_cons {e : Expr} {es : List Expr} {f : FE} {g : FA} (h : DE X T W e f) (h2 : DA X T W es g) (hs : starEach (e :: es) X.env = (false, eval e X.env) :: starEach es X.env) : DA X T W (e :: es) (fCons f g) := by
  obtain ⟨t, p, sa⟩ := h
  obtain ⟨u, p2, sb⟩ := h2
  refine ⟨_, pa_cons p p2 hs, fun hid σ H ρ M xw Q Qv r s w q p => ?_⟩
  refine sa hid σ H ρ M xw _ _ r s w q fun v H1 d M1 s1 e1 r1 q1 => ?_
  refine sb hid σ H1 ρ M1 xw _ _ (r.ext e1) s1 (w.ext e1) q1 fun vs H2 ds M2 s2 e2 r2 q2 => ?_
  exact p _ H2 _ M2 s2 (e1.trans e2) (.cons (e2.rv _ _ r1) r2) q2
def fTup (g : FA) : FE := fun xw ρ M Q => g xw ρ M fun ds M1 => ds.length ≤ sizeLine ∧ Q (.tup ds) M1
def fLst (g : FA) : FE := fun xw ρ M Q => g xw ρ M fun ds M1 => ds.length ≤ sizeLine ∧ Q (.lst ds) M1
theorem de_tup {es : List Expr} {k : Nat} {g : FA} {pos : Pos} (h : DA X T W es g) : DE X T W (.Tuple es k pos) (fTup g) := by
  obtain ⟨t, p, sa⟩ := h
  refine ⟨_, pe_tup p, fun hid σ H ρ M xw Q Qv r s w q p => ?_⟩
  refine sa hid σ H ρ M xw _ _ r s w q fun vs H1 ds M1 s1 e1 r1 q1 => ?_
  exact ⟨by rw [r1.length]; exact q1.1, fun a ha => new_tup s1 (p.ext e1) r1 ha q1.2⟩
theorem de_lst {es : List Expr} {g : FA} {pos : Pos} (h : DA X T W es g) : DE X T W (.List es pos) (fLst g) := by
  obtain ⟨t, p, sa⟩ := h
  refine ⟨_, pe_lst p, fun hid σ H ρ M xw Q Qv r s w q p => ?_⟩
  refine sa hid σ H ρ M xw _ _ r s w q fun vs H1 ds M1 s1 e1 r1 q1 => ?_
  exact ⟨by rw [r1.length]; exact q1.1, fun a ha => new_lst s1 (p.ext e1) r1 ha q1.2⟩
end
end U

set_option Elab.async false
set_option linter.all false
set_option maxRecDepth 100000
set_option maxHeartbeats 4000000
/-! I0: () * k, x * 1. -/
namespace U
open PySem PySem.Spec PyProof.Rows L2
theorem tuple_mulE (l : Addr) (items : Array Value) (n : Nat) (x : Int) (u : Tok) (c0 : (decide (x < -(2 ^ 63)) || decide (x ≥ 2 ^ 63)) = false) (c1 : (items.isEmpty || x == 1) = true) (dd : Option Addr) (sl : Array (Option Value)) :
    Meets (Builtin.«tuple.__mul__» ⟨[.ref l, .int x u], []⟩) (fun _ R s => s.heap.get? l = some { cls := .type "tuple", dict := dd, data := .seq items n, slots := sl } ∧ R (.ok (.ret (Value.ref l))) s) :=
  .of_wp fun prog w A R s h => by
    obtain ⟨hp, g, d, tk, os⟩ := s
    obtain ⟨hl, h⟩ := h
    have f1 := AutoSeq1.idx_int
    wp_walk using wpAny_loadPart' hl
    repeat (first
      | (refine wpAny_ite_false (decide_eq_false (by rw [c0]; exact Bool.false_ne_true)) ?_; wp_walk using wpAny_loadPart' hl)
      | (refine wpAny_ite_true (decide_eq_true (by rw [c1])) ?_; wp_walk using wpAny_loadPart' hl))
    exact ⟨_, rfl, h⟩
def rRepE (K : PySem.W.Frag) : R2 := fun x y H Q => ∃ l k xs, x = .ref l ∧ y = .int k ∧ SqT K H l xs ∧ (xs = [] ∨ k = 1) ∧ 1 ≤ k ∧ k ≤ 1000 ∧ Q (.ref l) H
theorem op_repE {X : Cx} : OpR X (binaryOp .Mult) (rRepE X.K) := by
  intro pins s σ H x y v u Q I rx ry h
  obtain ⟨l, k, xs, rfl, rfl, hT, hne, h1, h2, q⟩ := h
  cases rx
  obtain ⟨t, rfl⟩ := ry
  obtain ⟨its, r, ⟨⟨cls, dd, data, sl⟩, ho, hc, n, hd⟩, hs⟩ := I.tuple hT
  simp only at hc hd
  subst hc hd
  have c0 : (decide (k < -(2 ^ 63)) || decide (k ≥ 2 ^ 63)) = false := by
    rw [decide_eq_false (by omega), decide_eq_false (by omega)] <;> rfl
  have c1 : (its.toArray.isEmpty || k == 1) = true := by
    rcases hne with rfl | rfl
    · cases r
      rfl
    · rw [Bool.or_eq_true]
      exact .inr rfl
  refine wpAny_binaryOp_repeat_ref (T := "tuple") (U := "int") (by decide) ⟨_, ho, rfl⟩ (fun s' => typeIs_int s' k t) noFill_tuple_mul F.fills_int_mul F.slot_int_rmul repeat_tuple F.slot_int_index.lookup
    (call_meets F.slot_int_rmul (typeIs_int s k t) F.entry_int_rmul (F.args_int_rmul_2 _ _) (int_rmul_tuple k t l its.toArray n dd sl)
      ⟨ho, rfl, ⟨_, ho, rfl⟩, call_meets F.slot_tuple_mul ⟨_, ho, rfl⟩ F.entry_tuple_mul (F.args_tuple_mul_2 _ _) (tuple_mulE l its.toArray n k t c0 c1 dd sl) ⟨ho, ?_⟩⟩)
  exact ⟨.ref l, _, I, rfl, q⟩
end U

set_option Elab.async false
set_option linter.all false
set_option maxRecDepth 100000
set_option maxHeartbeats 1000000
/-! U3: operators by data. -/
namespace U
open PySem PySem.Spec PyProof.Rows L2

/-- the items of a list | tuple, read at its place -/
def lstOf (M : Mu) : D → Option (List D)
  | .lst ds => some ds
  | .loc a => (match M a with
    | some (.lst ds) => some ds
    | _ => none)
  | _ => none
def tupOf : D → Option (List D)
  | .tup ds => some ds
  | _ => none
/-- a list that is written, as it stands -/
def rsv (M : Mu) : D → D
  | .loc a => (match M a with
    | some (.lst ds) => .lst ds
    | _ => .loc a)
  | d => d
section
variable {K : PySem.W.Frag} {T hid : List Addr} {H : Hp} {M : Mu}
theorem lstOf_ok (s : Sto K T hid H M) {v : V} {d : D} {ds : List D} (r : Rv K hid H M v d) (e : lstOf M d = some ds) : ∃ a xs, v = .ref a ∧ SqL K H a xs ∧ Rvs K hid H M xs ds := by
  cases d with
  | lst es =>
    cases e
    cases r with
    | lst h r => exact ⟨_, _, rfl, h.sq, r⟩
  | loc a =>
    cases r
    unfold lstOf at e
    dsimp only at e
    split at e
    · rename_i es q
      cases e
      obtain ⟨xs, h1, h2, _⟩ := s.at q
      exact ⟨a, xs, rfl, SqL.of h1, h2⟩
    · cases e
  | _ => cases e
theorem tupOf_ok {v : V} {d : D} {ds : List D} (r : Rv K hid H M v d) (e : tupOf d = some ds) : ∃ a xs, v = .ref a ∧ SqT K H a xs ∧ Rvs K hid H M xs ds := by
  cases d with
  | tup es =>
    cases e
    cases r with
    | tup h r => exact ⟨_, _, rfl, h, r⟩
  | _ => cases e
theorem rsv_dp (s : Sto K T hid H M) {v : V} {d : D} (r : Rv K hid H M v d) (h : dle 60 (rsv M d) = true) : Dp K H v (rsv M d).pd := by
  cases d with
  | loc a =>
    cases r
    unfold rsv at h ⊢
    dsimp only at h ⊢
    split at h
    · rename_i es q
      obtain ⟨xs, h1, h2, _⟩ := s.at q
      exact .lst (SqL.of h1) (Rvs.dp es 59 xs (by simpa only [dle] using h) h2)
    · simp [dle] at h
  | _ => exact r.dp _ _ _ h
end

/-! ### arithmetic -/
section
variable {X : Cx} {T : List Addr} {W : WX}
def rCatL (K : PySem.W.Frag) : R2 := fun x y H Q => ∃ l b xs zs, x = .ref l ∧ y = .ref b ∧ SqL K H l xs ∧ SqL K H b zs ∧ xs.length + zs.length ≤ sizeLine ∧ ∀ p, H p = none → Q (.ref p) (upd H p (.lst (xs ++ zs)))
theorem op_catL : OpR X (binaryOp .Add) (rCatL X.K) := by
  intro pins s σ H x y v u Q I rx ry h
  obtain ⟨l, b, xs, zs, rfl, rfl, hH, hB, hz, q⟩ := h
  cases rx
  cases ry
  obtain ⟨its, r, ⟨⟨cls, dd, data, sl⟩, n, ho, hc, hdn, hd⟩, z⟩ := I.list hH
  obtain ⟨its2, r2, ⟨⟨cls2, dd2, data2, sl2⟩, n2, ho2, hc2, hdn2, hd2⟩, z2⟩ := I.list hB
  simp only at hc hdn hd hc2 hdn2 hd2
  subst hc hdn hd hc2 hdn2 hd2
  have hl := r.length
  have hl2 := r2.length
  have ea : its.toArray ++ its2.toArray = (its ++ its2).toArray := by simp
  refine concat_meets ⟨_, ho, rfl⟩ ⟨_, ho2, rfl⟩ noFill_list_add seq_list_add PySem.F.slot_list_add PySem.F.entry_list_add (PySem.F.args_list_add_2 _ _) (list_addW l b its.toArray its2.toArray n n2 none none sl sl2 (by rw [List.size_toArray, List.size_toArray]; omega)) ⟨ho, ho2, ?_⟩
  rw [ea]
  exact ⟨.ref _, _, I.lnew (t' := s.toks) (r.append r2) (by rw [List.length_append]; omega), rfl, q _ I.fresh⟩
def rAddA (K : PySem.W.Frag) : R2 := fun x y H Q => rI0 (fun i j => .int (i + j)) x y H Q ∨ (rCatA K x y H Q ∨ (rCatL K x y H Q ∨ (∃ i j, x = .str i ∧ y = .str j ∧ i.length + j.length ≤ sizeLine ∧ Q (.str (i ++ j)) H)))
theorem op_addA : OpR X (binaryOp .Add) (rAddA X.K) := op_add.or (op_catA.or (op_catL.or op_add_str))
def gAdd : G2 := fun x y M Q => match x, y with
  | .int i, .int j => Q (.int (i + j)) M
  | .tup a, .tup b => a.length + b.length ≤ sizeLine ∧ Q (.tup (a ++ b)) M
  | .str i, .str j => i.length + j.length ≤ sizeLine ∧ Q (.str (i ++ j)) M
  | x, y => (match lstOf M x, lstOf M y with
    | some a, some b => a.length + b.length ≤ sizeLine ∧ Q (.lst (a ++ b)) M
    | _, _ => False)
theorem o_add {K : PySem.W.Frag} : OSim K T (rAddA K) gAdd := by
  intro hid H M x y v w Q Qv s r1 r2 q p
  unfold gAdd at q
  split at q
  · cases r1; cases r2
    exact .inl ⟨_, _, rfl, rfl, p _ H _ M s (Ext.refl _ _ _) (.int _) q⟩
  · rename_i a b
    cases r1 with
    | tup h1 k1 =>
      cases r2 with
      | tup h2 k2 =>
        rename_i p1 xs p2 ys
        have l1 := k1.length
        have l2 := k2.length
        refine .inr (.inl ⟨_, _, _, _, rfl, rfl, h1, h2, by omega, fun e => ?_, fun _ e => ?_, fun _ _ c hc => new_tup s p (k1.append k2) hc q.2⟩)
        · subst e
          cases k1
          exact p _ H _ M s (Ext.refl _ _ _) (.tup h2 k2) (by simpa using q.2)
        · subst e
          cases k2
          exact p _ H _ M s (Ext.refl _ _ _) (.tup h1 k1) (by simpa using q.2)
  · cases r1; cases r2
    exact .inr (.inr (.inr ⟨_, _, rfl, rfl, q.1, p _ H _ M s (Ext.refl _ _ _) (.str _) q.2⟩))
  · split at q
    · rename_i a b e1 e2
      obtain ⟨l, xs, rfl, h1, k1⟩ := lstOf_ok s r1 e1
      obtain ⟨l2, ys, rfl, h2, k2⟩ := lstOf_ok s r2 e2
      have i1 := k1.length
      have i2 := k2.length
      exact .inr (.inr (.inl ⟨_, _, _, _, rfl, rfl, h1, h2, by omega, fun c hc => new_lst s p (k1.append k2) hc q.2⟩))
    · exact q.elim
/-- two ints -/
def gI (C : Int → Int → Prop) (g : Int → Int → D) : G2 := fun x y M Q => match x, y with
  | .int i, .int j => C i j ∧ Q (g i j) M
  | _, _ => False
def gI0 (g : Int → Int → D) : G2 := fun x y M Q => match x, y with
  | .int i, .int j => Q (g i j) M
  | _, _ => False
theorem o_I {K : PySem.W.Frag} {C : Int → Int → Prop} {gv : Int → Int → V} {g : Int → Int → D} (h : ∀ hid H M i j, Rv K hid H M (gv i j) (g i j)) : OSim K T (rI C gv) (gI C g) := by
  intro hid H M x y v w Q Qv s r1 r2 q p
  unfold gI at q
  split at q
  · cases r1; cases r2
    exact ⟨_, _, rfl, rfl, q.1, p _ H _ M s (Ext.refl _ _ _) (h _ _ _ _ _) q.2⟩
  · exact q.elim
theorem o_I0 {K : PySem.W.Frag} {gv : Int → Int → V} {g : Int → Int → D} (h : ∀ hid H M i j, Rv K hid H M (gv i j) (g i j)) : OSim K T (rI0 gv) (gI0 g) := by
  intro hid H M x y v w Q Qv s r1 r2 q p
  unfold gI0 at q
  split at q
  · cases r1; cases r2
    exact ⟨_, _, rfl, rfl, p _ H _ M s (Ext.refl _ _ _) (h _ _ _ _ _) q⟩
  · exact q.elim
abbrev gSub : G2 := gI0 fun i j => .int (i - j)
abbrev gFdiv : G2 := gI CDivW fun i j => .int (i / j)
abbrev gMod : G2 := gI (fun _ j => 0 < j) fun i j => .int (i % j)
abbrev gPow : G2 := gI CPow fun i j => .int (i ^ j.toNat)
abbrev gLt : G2 := gI0 fun i j => .bl (decide (i < j))
abbrev gLe : G2 := gI0 fun i j => .bl (decide (i ≤ j))
abbrev gGt : G2 := gI0 fun i j => .bl (decide (j < i))
abbrev gGe : G2 := gI0 fun i j => .bl (decide (j ≤ i))
theorem o_sub {K : PySem.W.Frag} : OSim K T (rI0 fun i j => .int (i - j)) gSub := o_I0 fun _ _ _ _ _ => .int _
theorem o_fdiv {K : PySem.W.Frag} : OSim K T (rI CDivW fun i j => .int (i / j)) gFdiv := o_I fun _ _ _ _ _ => .int _
theorem o_mod {K : PySem.W.Frag} : OSim K T (rI (fun _ j => 0 < j) fun i j => .int (i % j)) gMod := o_I fun _ _ _ _ _ => .int _
theorem o_pow {K : PySem.W.Frag} : OSim K T (rI CPow fun i j => .int (i ^ j.toNat)) gPow := o_I fun _ _ _ _ _ => .int _
theorem o_lt {K : PySem.W.Frag} : OSim K T (rI0 fun i j => .bl (decide (i < j))) gLt := o_I0 fun _ _ _ _ _ => .bl _
theorem o_le {K : PySem.W.Frag} : OSim K T (rI0 fun i j => .bl (decide (i ≤ j))) gLe := o_I0 fun _ _ _ _ _ => .bl _
theorem o_gt {K : PySem.W.Frag} : OSim K T (rI0 fun i j => .bl (decide (j < i))) gGt := o_I0 fun _ _ _ _ _ => .bl _
theorem o_ge {K : PySem.W.Frag} : OSim K T (rI0 fun i j => .bl (decide (j ≤ i))) gGe := o_I0 fun _ _ _ _ _ => .bl _
/-- a product: of ints; of a tuple and an int -/
def rMulA (K : PySem.W.Frag) : R2 := fun x y H Q => rI CMul (fun i j => .int (i * j)) x y H Q ∨ (rI CMulW (fun i j => .int (i * j)) x y H Q ∨ (rRepT K x y H Q ∨ rRepE K x y H Q))
theorem op_mulA : OpR X (binaryOp .Mult) (rMulA X.K) := op_mul.or (op_mulW.or (op_repT.or op_repE))
def gMul : G2 := fun x y M Q => match x, y with
  | .int i, .int j => (CMul i j ∨ CMulW i j) ∧ Q (.int (i * j)) M
  | .tup a, .int k => 1 ≤ k ∧ k ≤ 1000 ∧ a.length ≤ 1000 ∧ Q (.tup (List.replicate k.toNat a).flatten) M
  | _, _ => False
theorem o_mul {K : PySem.W.Frag} : OSim K T (rMulA K) gMul := by
  intro hid H M x y v w Q Qv s r1 r2 q p
  unfold gMul at q
  split at q
  · cases r1; cases r2
    have q2 := p _ H _ M s (Ext.refl _ _ _) (.int _) q.2
    rcases q.1 with q1 | q1
    · exact .inl ⟨_, _, rfl, rfl, q1, q2⟩
    · exact .inr (.inl ⟨_, _, rfl, rfl, q1, q2⟩)
  · cases r2
    cases r1 with
    | tup h1 k1 =>
      have l1 := k1.length
      obtain ⟨q1, q2, q3, q4⟩ := q
      rename_i a k _ _
      by_cases he : a = [] ∨ k = 1
      · have e : (List.replicate k.toNat a).flatten = a := by
          rcases he with rfl | rfl
          · rw [List.flatten_eq_nil_iff]
            exact fun l hl => (List.mem_replicate.mp hl).2
          · show (List.replicate 1 a).flatten = a
            rw [List.replicate_one, List.flatten_singleton]
        rw [e] at q4
        refine .inr (.inr (.inr ⟨_, _, _, rfl, rfl, h1, ?_, q1, q2, p _ H _ M s (Ext.refl _ _ _) (.tup h1 k1) q4⟩))
        rcases he with rfl | rfl
        · cases k1
          exact .inl rfl
        · exact .inr rfl
      · have q1' : 2 ≤ k := by
          have : k ≠ 1 := fun e => he (.inr e)
          omega
        refine .inr (.inr (.inl ⟨_, _, _, rfl, rfl, h1, fun e => he (.inl ?_), q1', q2, by rw [l1]; exact q3, fun c hc => new_tup s p (k1.rep _) hc q4⟩))
        subst e
        cases k1
        rfl
  · exact q.elim
def fNeg (f : FE) : FE := fun xw ρ M Q => f xw ρ M fun d M1 => match d with
  | .int i => Q (.int (-i)) M1
  | _ => False
theorem de_neg {a : Expr} {f : FE} {pos : Pos} (h : DE X T W a f) : DE X T W (.UnaryOp .USub a pos) (fNeg f) := by
  obtain ⟨t, pa, sa⟩ := h
  refine ⟨_, pe_un un_neg pa, fun hid σ H ρ M xw Q Qv r s w q p => ?_⟩
  refine sa hid σ H ρ M xw _ _ r s w q fun v H1 d M1 s1 e1 r1 q1 => ?_
  cases d with
  | int i => cases r1; exact ⟨i, rfl, p _ H1 _ M1 s1 e1 (.int _) q1⟩
  | _ => exact (show False from q1).elim

/-! ### equality, identity, membership -/
def gEq : G2 := fun x y M Q => dle 60 (rsv M x) = true ∧ dle 60 (rsv M y) = true ∧ Q (.bl (eqD (rsv M x) (rsv M y))) M
def gNe : G2 := fun x y M Q => dle 60 (rsv M x) = true ∧ dle 60 (rsv M y) = true ∧ Q (.bl (!eqD (rsv M x) (rsv M y))) M
theorem o_eq {K : PySem.W.Frag} : OSim K T (rEqD K) gEq := fun hid H M x y v w Q Qv s r1 r2 q p =>
  ⟨_, _, rsv_dp s r1 q.1, rsv_dp s r2 q.2.1, dle_shaped q.1, dle_shaped q.2.1, p _ H _ M s (Ext.refl _ _ _) (.bl _) q.2.2⟩
theorem o_ne {K : PySem.W.Frag} : OSim K T (rNeD K) gNe := fun hid H M x y v w Q Qv s r1 r2 q p =>
  ⟨_, _, rsv_dp s r1 q.1, rsv_dp s r2 q.2.1, dle_shaped q.1, dle_shaped q.2.1, p _ H _ M s (Ext.refl _ _ _) (.bl _) q.2.2⟩
def isNon : D → Bool
  | .non => true
  | _ => false
theorem isNon_of {K : PySem.W.Frag} {hid : List Addr} {H : Hp} {M : Mu} {v : V} {d : D} (r : Rv K hid H M v d) : decide (v = .non) = isNon d := by
  cases r <;> simp [isNon]
def rIsA : R2 := fun x y H Q => (y = .non ∧ Q (.bl (decide (x = .non))) H) ∨ rIsB x y H Q
def rNotA : R2 := fun x y H Q => (y = .non ∧ Q (.bl (!decide (x = .non))) H) ∨ rNotB x y H Q
theorem op_isA : OpR X (compareOp .Is) rIsA := op_isN.or op_isBl
theorem op_notA : OpR X (compareOp .IsNot) rNotA := op_notN.or op_notBl
def gIs : G2 := fun x y M Q => match y with
  | .non => Q (.bl (isNon x)) M
  | .bl b => (match x with
    | .bl a => Q (.bl (decide (a = b))) M
    | _ => False)
  | _ => False
def gIsNot : G2 := fun x y M Q => match y with
  | .non => Q (.bl (!isNon x)) M
  | .bl b => (match x with
    | .bl a => Q (.bl (!decide (a = b))) M
    | _ => False)
  | _ => False
theorem o_is {K : PySem.W.Frag} : OSim K T rIsA gIs := by
  intro hid H M x y v w Q Qv s r1 r2 q p
  unfold gIs at q
  split at q
  · cases r2
    exact .inl ⟨rfl, by rw [isNon_of r1]; exact p _ H _ M s (Ext.refl _ _ _) (.bl _) q⟩
  · cases r2
    split at q
    · cases r1
      exact .inr ⟨_, _, rfl, rfl, p _ H _ M s (Ext.refl _ _ _) (.bl _) q⟩
    · exact q.elim
  · exact q.elim
theorem o_isNot {K : PySem.W.Frag} : OSim K T rNotA gIsNot := by
  intro hid H M x y v w Q Qv s r1 r2 q p
  unfold gIsNot at q
  split at q
  · cases r2
    exact .inl ⟨rfl, by rw [isNon_of r1]; exact p _ H _ M s (Ext.refl _ _ _) (.bl _) q⟩
  · cases r2
    split at q
    · cases r1
      exact .inr ⟨_, _, rfl, rfl, p _ H _ M s (Ext.refl _ _ _) (.bl _) q⟩
    · exact q.elim
  · exact q.elim
/-- x in a tuple or a list of data -/
def rInA (K : PySem.W.Frag) : R2 := fun x y H Q => rInD K x y H Q ∨ ∃ d ds, Dp K H x d ∧ Dp K H y (.tuple ds) ∧ SeqAt.shaped d = true ∧ SeqAt.shaped (.tuple ds) = true ∧ Q (.bl (ds.any fun z => PyData.eqv z d)) H
def rNotInA (K : PySem.W.Frag) : R2 := fun x y H Q => rNotInD K x y H Q ∨ ∃ d ds, Dp K H x d ∧ Dp K H y (.tuple ds) ∧ SeqAt.shaped d = true ∧ SeqAt.shaped (.tuple ds) = true ∧ Q (.bl (!ds.any fun z => PyData.eqv z d)) H
theorem op_inA (hu : X.A.units + 65 < cLine) : OpR X (compareOp .In) (rInA X.K) := by
  refine (op_inD hu).or ?_
  intro pins s σ H x y v u Q I rx ry h
  obtain ⟨d, ds, hd, he, sd, se, q⟩ := h
  obtain ⟨as, r1⟩ := Dp.reads I d x v hd rx
  obtain ⟨bs, r2⟩ := Dp.reads I (.tuple ds) y u he ry
  have hu' : X.A.units + 1 + min (PyData.depthAll ds) d.depth < cLine := by
    have h1 := SeqAt.depth_of_shaped sd
    have h2 : min (PyData.depthAll ds) d.depth ≤ d.depth := Nat.min_le_right _ _
    omega
  exact SeqAt.in_tuple_reads r2 r1 (SeqAt.canLay_of_shaped se) (SeqAt.canLay_of_shaped sd) hu' ⟨.bl _, H, I, rfl, q⟩
theorem op_notInA (hu : X.A.units + 65 < cLine) : OpR X (compareOp .NotIn) (rNotInA X.K) := by
  refine (op_notInD hu).or ?_
  intro pins s σ H x y v u Q I rx ry h
  obtain ⟨d, ds, hd, he, sd, se, q⟩ := h
  obtain ⟨as, r1⟩ := Dp.reads I d x v hd rx
  obtain ⟨bs, r2⟩ := Dp.reads I (.tuple ds) y u he ry
  have hu' : X.A.units + 1 + min (PyData.depthAll ds) d.depth < cLine := by
    have h1 := SeqAt.depth_of_shaped sd
    have h2 : min (PyData.depthAll ds) d.depth ≤ d.depth := Nat.min_le_right _ _
    omega
  exact SeqAt.notIn_tuple_reads r2 r1 (SeqAt.canLay_of_shaped se) (SeqAt.canLay_of_shaped sd) hu' ⟨.bl _, H, I, rfl, q⟩
def seqOf (M : Mu) : D → Option (List D)
  | .tup ds => some ds
  | d => lstOf M d
theorem pds_any (x : D) : ∀ ds : List D, (D.pds ds).any (fun z => PyData.eqv z x.pd) = ds.any fun y => eqD y x
  | [] => rfl
  | d :: ds => by
    show (PyData.eqv d.pd x.pd || (D.pds ds).any _) = _
    rw [pds_any x ds]; rfl
def gInB (k : Bool) : G2 := fun x y M Q => match seqOf M y with
  | some ds => dle 60 (rsv M x) = true ∧ ds.all (dle 59) = true ∧ Q (.bl (if k then !ds.any (fun y => eqD y (rsv M x)) else ds.any fun y => eqD y (rsv M x))) M
  | none => False
abbrev gIn : G2 := gInB false
abbrev gNotIn : G2 := gInB true
theorem seq_dp {K : PySem.W.Frag} {hid : List Addr} {H : Hp} {M : Mu} (s : Sto K T hid H M) {v : V} {y : D} {ds : List D} (r : Rv K hid H M v y) (e : seqOf M y = some ds) (h : ds.all (dle 59) = true) :
    (Dp K H v (.tuple (D.pds ds)) ∧ SeqAt.shaped (.tuple (D.pds ds)) = true) ∨ (Dp K H v (.list (D.pds ds)) ∧ SeqAt.shaped (.list (D.pds ds)) = true) := by
  have h1 : dle 60 (.tup ds) = true := by simpa only [dle] using h
  have h2 : dle 60 (.lst ds) = true := by simpa only [dle] using h
  have k2 : ∀ e : lstOf M y = some ds, (Dp K H v (.list (D.pds ds)) ∧ SeqAt.shaped (.list (D.pds ds)) = true) := fun e => by
    obtain ⟨a, xs, rfl, h3, h4⟩ := lstOf_ok s r e
    exact ⟨.lst h3 (Rvs.dp ds 59 xs h h4), dle_shaped h2⟩
  cases y with
  | tup es =>
    cases e
    cases r with
    | tup h3 h4 => exact .inl ⟨.tup h3 (Rvs.dp ds 59 _ h h4), dle_shaped h1⟩
  | lst es => exact .inr (k2 e)
  | loc a => exact .inr (k2 e)
  | _ => cases e
theorem o_in {K : PySem.W.Frag} : OSim K T (rInA K) gIn := by
  intro hid H M x y v w Q Qv s r1 r2 q p
  unfold gIn gInB at q
  split at q
  · rename_i ds e
    obtain ⟨q1, q2, q3⟩ := q
    have q4 := p _ H _ M s (Ext.refl _ _ _) (.bl _) q3
    rcases seq_dp s r2 e q2 with ⟨h1, h2⟩ | ⟨h1, h2⟩
    · exact .inr ⟨_, _, rsv_dp s r1 q1, h1, dle_shaped q1, h2, by rw [pds_any]; exact q4⟩
    · exact .inl ⟨_, _, rsv_dp s r1 q1, h1, dle_shaped q1, h2, by rw [pds_any]; exact q4⟩
  · exact q.elim
theorem o_notIn {K : PySem.W.Frag} : OSim K T (rNotInA K) gNotIn := by
  intro hid H M x y v w Q Qv s r1 r2 q p
  unfold gNotIn gInB at q
  split at q
  · rename_i ds e
    obtain ⟨q1, q2, q3⟩ := q
    have q4 := p _ H _ M s (Ext.refl _ _ _) (.bl _) q3
    rcases seq_dp s r2 e q2 with ⟨h1, h2⟩ | ⟨h1, h2⟩
    · exact .inr ⟨_, _, rsv_dp s r1 q1, h1, dle_shaped q1, h2, by rw [pds_any]; exact q4⟩
    · exact .inl ⟨_, _, rsv_dp s r1 q1, h1, dle_shaped q1, h2, by rw [pds_any]; exact q4⟩
  · exact q.elim

/-! ### subscripts, slices -/
theorem Rvs.atI {K : PySem.W.Frag} {hid : List Addr} {H : Hp} {M : Mu} {xs : List V} {ds : List D} (r : Rvs K hid H M xs ds) {i : Int} {d : D} (e : L2.atI ds i = some d) : ∃ v, L2.atI xs i = some v ∧ Rv K hid H M v d := by
  unfold L2.atI at e ⊢
  rw [r.length]
  cases h : ixN ds.length i with
  | none => rw [h] at e; cases e
  | some j =>
    rw [h] at e
    obtain ⟨v, h1, h2⟩ := r.get j (d := d) e
    exact ⟨v, h1, h2⟩
def gIx : G2 := fun x y M Q => match y with
  | .int i => (match x with
    | .str z => z.length ≤ sizeLine ∧ (match L2.atI z.cps.toList i with
      | some c => Q (.str ⟨#[c]⟩) M
      | none => False)
    | x => (match seqOf M x with
      | some ds => (match L2.atI ds i with
        | some d => Q d M
        | none => False)
      | none => False))
  | _ => False
theorem o_ix {K : PySem.W.Frag} : OSim K T (rIx K) gIx := by
  intro hid H M x y v w Q Qv s r1 r2 q p
  unfold gIx at q
  split at q
  · rename_i i
    cases r2
    split at q
    · cases r1
      obtain ⟨q0, q⟩ := q
      split at q
      · rename_i c e
        exact .inr (.inr ⟨_, _, _, rfl, rfl, q0, e, p _ H _ M s (Ext.refl _ _ _) (.str _) q⟩)
      · exact q.elim
    · split at q
      · rename_i ds e
        split at q
        · rename_i d e2
          have k2 : ∀ e : lstOf M x = some ds, rIxL K v (.int i) H Qv := fun e => by
            obtain ⟨a, xs, rfl, h3, h4⟩ := lstOf_ok s r1 e
            obtain ⟨z, h5, h6⟩ := h4.atI e2
            exact ⟨_, _, _, _, rfl, rfl, h3, h5, p _ H _ M s (Ext.refl _ _ _) h6 q⟩
          cases x with
          | tup es =>
            cases e
            cases r1 with
            | tup h3 h4 =>
              obtain ⟨z, h5, h6⟩ := h4.atI e2
              exact .inr (.inl ⟨_, _, _, _, rfl, rfl, h3, h5, p _ H _ M s (Ext.refl _ _ _) h6 q⟩)
          | lst es => exact .inl (k2 e)
          | loc a => exact .inl (k2 e)
          | _ => cases e
        · exact q.elim
      · exact q.elim
  · exact q.elim
/-- a part of a slice -/
abbrev FO := XW → Env' → Mu → (Option Int → Mu → Prop) → Prop
def fNo : FO := fun _ _ M Q => Q none M
def fSome (f : FE) : FO := fun xw ρ M Q => f xw ρ M fun d M1 => match d with
  | .int i => Q (some i) M1
  | _ => False
def DO (X : Cx) (T : List Addr) (W : WX) (e : Option Expr) (f : FO) : Prop := ∃ t, PO X e t ∧ ∀ hid σ H ρ M xw Q (Qv : Option Int → Hp → Prop), REnv X.K hid H M σ ρ → Sto X.K T hid H M → WOk X.K T hid W σ H M xw → f xw ρ M Q →
  (∀ o H' M', Sto X.K T hid H' M' → Ext hid H M H' M' → Q o M' → Qv o H') → t σ H Qv
theorem do_no : DO X T W none fNo := ⟨_, po_none, fun hid σ H ρ M xw Q Qv r s w q p => p none H M s (Ext.refl _ _ _) q⟩
theorem do_some {e : Expr} {f : FE} (h : DE X T W e f) : DO X T W (some e) (fSome f) := by
  obtain ⟨t, pa, sa⟩ := h
  refine ⟨_, po_some pa, fun hid σ H ρ M xw Q Qv r s w q p => ?_⟩
  refine sa hid σ H ρ M xw _ _ r s w q fun v H1 d M1 s1 e1 r1 q1 => ?_
  cases d with
  | int i => cases r1; exact ⟨i, rfl, p _ H1 M1 s1 e1 q1⟩
  | _ => exact (show False from q1).elim
def cutD (xs : List D) (lo hi : Option Int) : List D := (xs.drop (HT.sIx xs.length 0 lo)).take (HT.sIx xs.length xs.length hi - HT.sIx xs.length 0 lo)
theorem Rvs.cut {K : PySem.W.Frag} {hid : List Addr} {H : Hp} {M : Mu} {xs : List V} {ds : List D} (r : Rvs K hid H M xs ds) (lo hi : Option Int) : Rvs K hid H M (cutV xs lo hi) (cutD ds lo hi) := by
  unfold cutV cutD
  rw [r.length]
  exact (r.drop _).take _
def gSl (x : D) (lo hi : Option Int) (M : Mu) (Q : D → Mu → Prop) : Prop := match x with
  | .tup ds => Q (.tup (cutD ds lo hi)) M
  | .str z => z.length ≤ sizeLine ∧ Q (.str (cutS z lo hi)) M
  | x => (match lstOf M x with
    | some ds => Q (.lst (cutD ds lo hi)) M
    | none => False)
def fSl (f : FE) (l u : FO) : FE := fun xw ρ M Q => f xw ρ M fun x M1 => l xw ρ M1 fun lo M2 => u xw ρ M2 fun hi M3 => gSl x lo hi M3 Q
def rSl (K : PySem.W.Frag) : V → Option Int → Option Int → Hp → VK → Prop := fun x lo hi H Q => rSlA K x lo hi H Q ∨ rSlL K x lo hi H Q
theorem sl_any : SlR X (rSl X.K) := sl_tupA.or sl_list
theorem sl_sim {K : PySem.W.Frag} {hid : List Addr} {H : Hp} {M : Mu} {v : V} {x : D} {lo hi : Option Int} {Q : D → Mu → Prop} {Qv : VK} (s : Sto K T hid H M) (r : Rv K hid H M v x) (hx : ∀ z, x ≠ .str z) (q : gSl x lo hi M Q) (p : Pst K T hid H M Q Qv) : rSl K v lo hi H Qv := by
  have k2 : ∀ ds, lstOf M x = some ds → Q (.lst (cutD ds lo hi)) M → rSl K v lo hi H Qv := fun ds e q => by
    obtain ⟨a, xs, rfl, h3, h4⟩ := lstOf_ok s r e
    exact .inr ⟨_, _, rfl, h3, fun c hc => new_lst s p (h4.cut lo hi) hc q⟩
  unfold gSl at q
  split at q
  · rename_i ds
    cases r with
    | tup h3 h4 =>
      rename_i a xs
      refine .inl ⟨_, _, rfl, h3, fun e => ?_, fun _ c hc => new_tup s p (h4.cut lo hi) hc q⟩
      have e2 : cutD ds lo hi = ds := by
        unfold cutD
        rw [h4.length] at e
        rw [e.1, e.2]
        simp
      rw [e2] at q
      exact p _ H _ M s (Ext.refl _ _ _) (.tup h3 h4) q
  · rename_i z
    exact absurd rfl (hx z)
  · split at q
    · rename_i ds e
      exact k2 ds e q
    · exact q.elim
/-- a slice of a tuple or a list -/
def fSl' (f : FE) (l u : FO) : FE := fun xw ρ M Q => f xw ρ M fun x M1 => l xw ρ M1 fun lo M2 => u xw ρ M2 fun hi M3 => (match x with
  | .str _ => False
  | x => gSl x lo hi M3 Q)
theorem de_sl {e : Expr} {lo hi : Option Expr} {f : FE} {l u : FO} {p2 pos : Pos} (h : DE X T W e f) (hl : DO X T W lo l) (hu : DO X T W hi u) : DE X T W (.Subscript e (.Slice lo hi none p2) pos) (fSl' f l u) := by
  obtain ⟨t, pa, sa⟩ := h
  obtain ⟨tl, pl, sl⟩ := hl
  obtain ⟨tu, pu, su⟩ := hu
  refine ⟨_, pe_slice sl_any pa pl pu, fun hid σ H ρ M xw Q Qv r s w q p => ?_⟩
  refine sa hid σ H ρ M xw _ _ r s w q fun v H1 d M1 s1 e1 r1 q1 => ?_
  refine sl hid σ H1 ρ M1 xw _ _ (r.ext e1) s1 (w.ext e1) q1 fun o H2 M2 s2 e2 q2 => ?_
  refine su hid σ H2 ρ M2 xw _ _ (r.ext (e1.trans e2)) s2 (w.ext (e1.trans e2)) q2 fun o3 H3 M3 s3 e3 q3 => ?_
  split at q3
  · exact q3.elim
  · rename_i hx
    exact sl_sim s3 ((e2.trans e3).rv _ _ r1) hx q3 (p.ext ((e1.trans e2).trans e3))

/-! ### calls of built-ins, by values -/
abbrev GC := List D → Mu → (D → Mu → Prop) → Prop
def CSim (K : PySem.W.Frag) (T : List Addr) (r : List V → Hp → VK → Prop) (g : GC) : Prop :=
  ∀ hid H M ds vs Q Qv, Sto K T hid H M → Rvs K hid H M vs ds → g ds M Q → Pst K T hid H M Q Qv → r vs H Qv
def fCB (g : GC) (fa : FA) : FE := fun xw ρ M Q => fa xw ρ M fun ds M1 => g ds M1 Q
theorem sim_cb {K : PySem.W.Frag} {r : List V → Hp → VK → Prop} {g : GC} {ta : TA} {fa : FA} (o : CSim K T r g) (a : ASim K T W ta fa) : ESim K T W (tCB r ta) (fCB g fa) := by
  intro hid σ H ρ M xw Q Qv r s w q p
  refine a hid σ H ρ M xw _ _ r s w q fun vs H1 ds M1 s1 e1 r1 q1 => ?_
  exact o hid H1 M1 ds vs Q Qv s1 r1 q1 (p.ext e1)
theorem de_callB {id : String} {x : Str} {p pos : Pos} {e : Expr} {es : List Expr} {r : List V → Hp → VK → Prop} {g : GC} {fa : FA} (hc : CallR X (.builtin id) r) (o : CSim X.K T r g) (hg : Gl X x) (hm : X.mg x = none) (hv : bootBuiltins x = some (.builtin id)) (ha : DA X T W (e :: es) fa)
    (hn : x ≠ "__name__") (hdb : (x == ("__debug__" : Str)) = false)
    (he : starEach (e :: es) X.env = (false, eval e X.env) :: starEach es X.env) (hpl : (backTo pos (starEach es X.env)).any (·.1) = false) : DE X T W (.Call (.Name x p) (e :: es) [] pos) (fCB g fa) := by
  obtain ⟨t, pa, sa⟩ := ha
  exact ⟨_, pe_callB hc hg hm hv pa hn hdb he hpl, sim_cb o sa⟩
theorem de_callTy {id : String} {x : Str} {p pos : Pos} {e : Expr} {es : List Expr} {r : List V → Hp → VK → Prop} {g : GC} {fa : FA} (hc : CallR X (.type id) r) (o : CSim X.K T r g) (hg : Gl X x) (hm : X.mg x = none) (hv : bootBuiltins x = some (.type id)) (ha : DA X T W (e :: es) fa)
    (hn : x ≠ "__name__") (hdb : (x == ("__debug__" : Str)) = false)
    (he : starEach (e :: es) X.env = (false, eval e X.env) :: starEach es X.env) (hpl : (backTo pos (starEach es X.env)).any (·.1) = false) : DE X T W (.Call (.Name x p) (e :: es) [] pos) (fCB g fa) := by
  obtain ⟨t, pa, sa⟩ := ha
  exact ⟨_, pe_callTy hc hg hm hv pa hn hdb he hpl, sim_cb o sa⟩
/-- a built-in class as a value -/
theorem de_tyv {n : String} {x : Str} {pos : Pos} (hg : Gl X x) (hm : X.mg x = none) (hv : bootBuiltins x = some (.type n)) (hn : x ≠ "__name__") (hd : (x == ("__debug__" : Str)) = false) : DE X T W (.Name x pos) (fC (.ty n)) :=
  ⟨_, pe_bltn (v := .ty n) hg hm hv rfl hn hd, fun hid σ H ρ M xw Q Qv r s w q p => p _ H _ M s (Ext.refl _ _ _) (.ty n) q⟩
def gLen : GC := fun ds M Q => match ds with
  | [.str x] => x.length ≤ sizeLine ∧ Q (.int x.length) M
  | [d] => (match seqOf M d with
    | some es => Q (.int es.length) M
    | none => False)
  | _ => False
theorem seq_ok {K : PySem.W.Frag} {hid : List Addr} {H : Hp} {M : Mu} (s : Sto K T hid H M) {v : V} {y : D} {ds : List D} (r : Rv K hid H M v y) (e : seqOf M y = some ds) : ∃ a xs, v = .ref a ∧ (SqL K H a xs ∨ SqT K H a xs) ∧ Rvs K hid H M xs ds := by
  have k2 : ∀ e : lstOf M y = some ds, ∃ a xs, v = .ref a ∧ (SqL K H a xs ∨ SqT K H a xs) ∧ Rvs K hid H M xs ds := fun e => by
    obtain ⟨a, xs, h1, h3, h4⟩ := lstOf_ok s r e
    exact ⟨a, xs, h1, .inl h3, h4⟩
  cases y with
  | tup es =>
    cases e
    cases r with
    | tup h3 h4 => exact ⟨_, _, rfl, .inr h3, h4⟩
  | lst es => exact k2 e
  | loc a => exact k2 e
  | _ => cases e
theorem c_len {K : PySem.W.Frag} : CSim K T (fun xs H Q => ∃ x n, xs = [x] ∧ LenV K x H n ∧ Q (.int n) H) gLen := by
  intro hid H M ds vs Q Qv s r q p
  unfold gLen at q
  split at q
  · cases r with
    | cons h r => cases r; cases h; exact ⟨_, _, rfl, ⟨q.1, rfl⟩, p _ H _ M s (Ext.refl _ _ _) (.int _) q.2⟩
  · split at q
    · rename_i d hne es e
      cases r with
      | cons h r =>
        cases r
        obtain ⟨a, xs, rfl, h3, h4⟩ := seq_ok s h e
        have hl := h4.length
        refine ⟨_, es.length, rfl, ?_, p _ H _ M s (Ext.refl _ _ _) (.int _) q⟩
        rcases h3 with h3 | h3
        · exact .inl ⟨xs, h3, hl.symm⟩
        · exact .inr ⟨xs, h3, hl.symm⟩
    · exact q.elim
  · exact q.elim
def gInt : GC := fun ds M Q => match ds with
  | [.int i] => Q (.int i) M
  | [.bl b] => Q (.int (if b then 1 else 0)) M
  | _ => False
theorem c_int {K : PySem.W.Frag} : CSim K T (fun xs H Q => (∃ i, xs = [.int i] ∧ Q (.int i) H) ∨ ∃ k, xs = [.bl k] ∧ Q (.int (if k then 1 else 0)) H) gInt := by
  intro hid H M ds vs Q Qv s r q p
  unfold gInt at q
  split at q
  · cases r with
    | cons h r => cases r; cases h; exact .inl ⟨_, rfl, p _ H _ M s (Ext.refl _ _ _) (.int _) q⟩
  · cases r with
    | cons h r => cases r; cases h; exact .inr ⟨_, rfl, p _ H _ M s (Ext.refl _ _ _) (.int _) q⟩
  · exact q.elim
def gList : GC := fun ds M Q => match ds with
  | [d] => (match seqOf M d with
    | some es => Q (.lst es) M
    | none => False)
  | _ => False
def gTuple : GC := fun ds M Q => match ds with
  | [d] => (match seqOf M d with
    | some es => Q (.tup es) M
    | none => False)
  | _ => False
theorem c_list {K : PySem.W.Frag} : CSim K T (fun xs H Q => ∃ p ys, xs = [.ref p] ∧ (SqL K H p ys ∨ SqT K H p ys) ∧ ∀ l, H l = none → Q (.ref l) (upd H l (.lst ys))) gList := by
  intro hid H M ds vs Q Qv s r q p
  unfold gList at q
  split at q
  · split at q
    · rename_i d es e
      cases r with
      | cons h r =>
        cases r
        obtain ⟨a, xs, rfl, h3, h4⟩ := seq_ok s h e
        exact ⟨_, _, rfl, h3, fun c hc => new_lst s p h4 hc q⟩
    · exact q.elim
  · exact q.elim
theorem c_tuple {K : PySem.W.Frag} : CSim K T (fun xs H Q => ∃ p ys, xs = [.ref p] ∧ ((SqL K H p ys ∧ ∀ l, H l = none → Q (.ref l) (upd H l (.tup ys))) ∨ (SqT K H p ys ∧ Q (.ref p) H))) gTuple := by
  intro hid H M ds vs Q Qv s r q p
  unfold gTuple at q
  split at q
  · rename_i d
    split at q
    · rename_i es e
      cases r with
      | cons h r =>
        cases r
        have k2 : ∀ (e : lstOf M d = some es) (w : V), Rv K hid H M w d → ∃ p ys, [w] = [.ref p] ∧ ((SqL K H p ys ∧ ∀ l, H l = none → Qv (.ref l) (upd H l (.tup ys))) ∨ (SqT K H p ys ∧ Qv (.ref p) H)) := fun e w h => by
          obtain ⟨a, xs, rfl, h3, h4⟩ := lstOf_ok s h e
          exact ⟨_, _, rfl, .inl ⟨h3, fun c hc => new_tup s p h4 hc q⟩⟩
        cases d with
        | tup es' =>
          cases e
          cases h with
          | tup h3 h4 => exact ⟨_, _, rfl, .inr ⟨h3, p _ H _ M s (Ext.refl _ _ _) (.tup h3 h4) q⟩⟩
        | lst es' => exact k2 e _ h
        | loc a => exact k2 e _ h
        | _ => cases e
    · exact q.elim
  · exact q.elim
def gMax : GC := fun ds M Q => match ds with
  | [.int i, .int j] => Q (.int (if j > i then j else i)) M
  | _ => False
def gMin : GC := fun ds M Q => match ds with
  | [.int i, .int j] => Q (.int (if j < i then j else i)) M
  | _ => False
theorem c_max {K : PySem.W.Frag} : CSim K T (fun xs H Q => ∃ i j, xs = [.int i, .int j] ∧ Q (.int (if j > i then j else i)) H) gMax := by
  intro hid H M ds vs Q Qv s r q p
  unfold gMax at q
  split at q
  · cases r with
    | cons h r => cases r with
      | cons h' r => cases r; cases h; cases h'; exact ⟨_, _, rfl, p _ H _ M s (Ext.refl _ _ _) (.int _) q⟩
  · exact q.elim
theorem c_min {K : PySem.W.Frag} : CSim K T (fun xs H Q => ∃ i j, xs = [.int i, .int j] ∧ Q (.int (if j < i then j else i)) H) gMin := by
  intro hid H M ds vs Q Qv s r q p
  unfold gMin at q
  split at q
  · cases r with
    | cons h r => cases r with
      | cons h' r => cases r; cases h; cases h'; exact ⟨_, _, rfl, p _ H _ M s (Ext.refl _ _ _) (.int _) q⟩
  · exact q.elim
/-- isinstance(x, bool) -/
def gIsBool : GC := fun ds M Q => match ds with
  | [.bl _, .ty n] => n = "bool" ∧ Q (.bl true) M
  | [.int _, .ty n] => n = "bool" ∧ Q (.bl false) M
  | _ => False
theorem c_isBool {K : PySem.W.Frag} : CSim K T (rIsi K) gIsBool := by
  intro hid H M ds vs Q Qv s r q p
  unfold gIsBool at q
  split at q
  · cases r with
    | cons h r => cases r with
      | cons h' r =>
        cases r; cases h; cases h'
        obtain ⟨rfl, q⟩ := q
        exact ⟨_, _, .type "bool", .type "bool", true, rfl, .ty "bool", .base (.bl _), kit_ty (by decide +kernel), p _ H _ M s (Ext.refl _ _ _) (.bl _) q⟩
  · cases r with
    | cons h r => cases r with
      | cons h' r =>
        cases r; cases h; cases h'
        obtain ⟨rfl, q⟩ := q
        exact ⟨_, _, .type "int", .type "bool", false, rfl, .ty "bool", .base (.int _), kit_ty (by decide +kernel), p _ H _ M s (Ext.refl _ _ _) (.bl _) q⟩
  · exact q.elim
end
end U

set_option Elab.async false
set_option linter.all false
set_option maxRecDepth 100000
set_option maxHeartbeats 1000000
/-! U4: targets, what is walked, comprehensions, statements. -/
namespace U
open PySem PySem.Spec PyProof.Rows L2

/-! ### uniform readings -/
def canE (K : PySem.W.Frag) (T : List Addr) (W : WX) (f : FE) : TE := fun σ H Qv => ∃ hid ρ M xw Q, REnv K hid H M σ ρ ∧ Sto K T hid H M ∧ WOk K T hid W σ H M xw ∧ f xw ρ M Q ∧ Pst K T hid H M Q Qv
def canT (K : PySem.W.Frag) (T : List Addr) (W : WX) (f : FT) : TT := fun σ H Qv => ∃ hid ρ M xw Q, REnv K hid H M σ ρ ∧ Sto K T hid H M ∧ WOk K T hid W σ H M xw ∧ f xw ρ M Q ∧ PstB K T hid H M Q Qv
section
variable {X : Cx} {K : PySem.W.Frag} {T : List Addr} {W : WX}
theorem DE.can {e : Expr} {f : FE} (h : DE X T W e f) : PE X e (canE X.K T W f) := by
  obtain ⟨t, p, s⟩ := h
  exact ⟨fun pins s1 σ H Q I q => p.run pins s1 σ H Q I (let ⟨hid, ρ, M, xw, Q', a, b, c, d, e⟩ := q; s hid σ H ρ M xw Q' Q a b c d e)⟩
theorem canE_sim {f : FE} : ESim K T W (canE K T W f) f := fun hid σ H ρ M xw Q Qv a b c d e => ⟨hid, ρ, M, xw, Q, a, b, c, d, e⟩
theorem canT_sim {f : FT} : TSim K T W (canT K T W f) f := fun hid σ H ρ M xw Q Qv a b c d e => ⟨hid, ρ, M, xw, Q, a, b, c, d, e⟩
/-- a clause's tests -/
def DTs (X : Cx) (T : List Addr) (W : WX) (ifs : List Expr) (f : FT) : Prop := ∃ t, PTs X ifs t ∧ TSim X.K T W t f
def fYes : FT := fun _ _ M Q => Q true M
theorem dts_nil : DTs X T W [] fYes := ⟨_, pts_nil, fun hid σ H ρ M xw Q Qv r s w q p => p true H M s (Ext.refl _ _ _) q⟩
theorem dts_one {c : Expr} {f : FT} (h : DT X T W c f) : DTs X T W [c] f := let ⟨t, p, s⟩ := h; ⟨t, pts_one p, s⟩
theorem DTs.can {ifs : List Expr} {f : FT} (h : DTs X T W ifs f) : PTs X ifs (canT X.K T W f) := by
  obtain ⟨t, p, s⟩ := h
  exact ⟨fun pins s1 σ H Q I q => p.run pins s1 σ H Q I (let ⟨hid, ρ, M, xw, Q', a, b, c, d, e⟩ := q; s hid σ H ρ M xw Q' Q a b c d e)⟩
end

/-! ### carried from one place to another -/
structure Car (K : PySem.W.Frag) (hid : List Addr) (H : Hp) (M : Mu) (hid' : List Addr) (H' : Hp) (M' : Mu) : Prop where
  sqT : ∀ a xs, SqT K H a xs → SqT K H' a xs
  fzL : ∀ a xs, FzL K hid H M a xs → FzL K hid' H' M' a xs
section
variable {K : PySem.W.Frag} {T hid hid' hid2 : List Addr} {H H' H2 : Hp} {M M' M2 : Mu} {σ : L2.St} {ρ : Env'}
mutual
theorem Car.rv (e : Car K hid H M hid' H' M') : ∀ (d : D) (v : V), Rv K hid H M v d → Rv K hid' H' M' v d
  | .non, _, h => by cases h; exact .non
  | .bl b, _, h => by cases h; exact .bl b
  | .int i, _, h => by cases h; exact .int i
  | .str x, _, h => by cases h; exact .str x
  | .tup ds, _, h => by
    cases h with
    | tup h r => exact .tup (e.sqT _ _ h) (Car.rvs e ds _ r)
  | .lst ds, _, h => by
    cases h with
    | lst h r => exact .lst (e.fzL _ _ h) (Car.rvs e ds _ r)
  | .loc a, _, h => by cases h; exact .loc a
  | .ty n, _, h => by cases h; exact .ty n
theorem Car.rvs (e : Car K hid H M hid' H' M') : ∀ (ds : List D) (vs : List V), Rvs K hid H M vs ds → Rvs K hid' H' M' vs ds
  | [], _, h => by cases h; exact .nil
  | d :: ds, _, h => by
    cases h with
    | cons h r => exact .cons (Car.rv e d _ h) (Car.rvs e ds _ r)
end
theorem Car.trans (a : Car K hid H M hid' H' M') (b : Car K hid' H' M' hid2 H2 M2) : Car K hid H M hid2 H2 M2 := ⟨fun x xs h => b.sqT _ _ (a.sqT _ _ h), fun x xs h => b.fzL _ _ (a.fzL _ _ h)⟩
theorem Car.refl : Car K hid H M hid H M := ⟨fun _ _ h => h, fun _ _ h => h⟩
theorem Ext.car (e : Ext hid H M H' M') : Car K hid H M hid H' M' := ⟨fun _ _ h => e.sqT h, fun _ _ h => e.fzL h⟩
theorem REnv.car (r : REnv K hid H M σ ρ) (e : Car K hid H M hid' H' M') : REnv K hid' H' M' σ ρ :=
  ⟨r.1, fun i d h => let ⟨v, h1, h2⟩ := r.2 i d h; ⟨v, h1, e.rv _ _ h2⟩⟩
theorem MOk.car (e : Car K hid H M hid' H' M') {a : Addr} {m : MO} (h : MOk K hid H M a m) (k : H' a = H a) : MOk K hid' H' M' a m := by
  cases m with
  | lst ds => obtain ⟨xs, h1, h2⟩ := h; exact ⟨xs, by rw [k]; exact h1, e.rvs _ _ h2⟩
  | dct kvs => exact h
  | ins C fs => obtain ⟨dx, fvs, h1, h3, h2⟩ := h; exact ⟨dx, fvs, by rw [k]; exact h1, h3, e.rvs _ _ h2⟩
theorem Sto.lst_at (s : Sto K T hid H M) {p : Addr} (hp : p ∈ hid) {a : Addr} {m : MO} (h : M a = some m) : a ≠ p := by
  rintro rfl; rw [(s.hidn a hp).1] at h; cases h
/-- a list under way at D, hidden -/
theorem Car.hide (s : Sto K T hid H M) {D : Addr} {o : HO} (hD : H D = none) : Car K hid H M (D :: hid) (upd H D o) M := by
  have e := Ext.new (o := o) s hD
  refine ⟨fun _ _ h => e.sqT h, fun a xs h => ?_⟩
  rcases h with ⟨h1, h2, h3⟩ | ⟨ob, h⟩ | h
  · refine .inl ⟨by rw [upd_ne (ne_of_none h1 hD)]; exact h1, h2, ?_⟩
    rw [List.mem_cons, not_or]
    exact ⟨ne_of_none h1 hD, h3⟩
  · exact .inr (.inl ⟨ob, e.frz _ _ _ h⟩)
  · exact .inr (.inr h)
theorem Sto.hide (s : Sto K T hid H M) {D : Addr} {o : HO} (hD : H D = none) : Sto K T (D :: hid) (upd H D o) M := by
  have c := Car.hide (o := o) s hD
  have s1 := s.new (o := o) hD
  refine ⟨fun a m h => ?_, s1.tab, fun a ha => ?_⟩
  · have hne : a ≠ D := by rintro rfl; rw [(s.fresh hD).1] at h; cases h
    exact (s.mem a m h).car c (upd_ne hne)
  · rcases List.mem_cons.mp ha with rfl | ha
    · exact ⟨(s.fresh hD).1, by rw [upd_same]; exact fun z => nomatch z⟩
    · exact s1.hidn a ha
theorem Car.unhide {D : Addr} : Car K (D :: hid) H M hid H M := by
  refine ⟨fun _ _ h => h, fun a xs h => ?_⟩
  rcases h with ⟨h1, h2, h3⟩ | h | h
  · exact .inl ⟨h1, h2, fun z => h3 (List.mem_cons_of_mem _ z)⟩
  · exact .inr (.inl h)
  · exact .inr (.inr h)
theorem Sto.unhide {D : Addr} (s : Sto K T (D :: hid) H M) : Sto K T hid H M :=
  ⟨fun a m h => (s.mem a m h).car Car.unhide rfl, s.tab, fun a ha => s.hidn a (List.mem_cons_of_mem _ ha)⟩
theorem Ext.under {H1 : Hp} {M1 : Mu} {D : Addr} (a : Ext hid H1 M1 H M) (hD : H1 D = none) (b : Ext (D :: hid) H M H' M') : Ext hid H1 M1 H' M' := by
  refine ⟨fun x xs h => b.tup _ _ (a.tup x xs h), fun x o u h => b.frz _ _ _ (a.frz x o u h), fun x xs h h' z => ?_, fun x hx xs h => b.hid x (List.mem_cons_of_mem _ hx) xs (a.hid x hx xs h), fun x h => b.dom x (a.dom x h), fun x h h' => by
    cases q : M x with
    | none => exact Classical.byContradiction fun z => a.dom x z (b.nl x q h')
    | some m => exact a.nl x h (by rw [q]; exact fun z => nomatch z)⟩
  obtain ⟨p, q⟩ := a.lst x xs h h' z
  exact b.lst x xs p q (by rw [List.mem_cons, not_or]; exact ⟨ne_of_none h hD, z⟩)
theorem Car.of_under {H1 : Hp} {M1 : Mu} {D : Addr} (a : Ext hid H1 M1 H M) (hD : H1 D = none) : Car K hid H1 M1 (D :: hid) H M := by
  refine ⟨fun _ _ h => a.sqT h, fun x xs h => ?_⟩
  rcases h with ⟨h1, h2, h3⟩ | ⟨ob, h⟩ | h
  · obtain ⟨p, q⟩ := a.lst x xs h1 h2 h3
    exact .inl ⟨p, q, by rw [List.mem_cons, not_or]; exact ⟨ne_of_none h1 hD, h3⟩⟩
  · exact .inr (.inl ⟨ob, a.frz _ _ _ h⟩)
  · exact .inr (.inr h)
/-- the hidden list is written -/
theorem Car.whid {D : Addr} {xs : List V} {o : HO} (h : H D = some (.lst xs)) : Car K (D :: hid) H M (D :: hid) (upd H D o) M := by
  refine ⟨fun a ys q => ?_, fun a ys q => ?_⟩
  · rcases q with (q | ⟨ob, q⟩) | q
    · exact .inl (.inl (by rw [upd_ne (by rintro rfl; rw [h] at q; cases q)]; exact q))
    · exact .inl (.inr ⟨ob, by rw [upd_ne (by rintro rfl; rw [h] at q; cases q)]; exact q⟩)
    · exact .inr q
  · rcases q with ⟨h1, h2, h3⟩ | ⟨ob, q⟩ | q
    · exact .inl ⟨by rw [upd_ne (fun e => h3 (by rw [e]; exact List.mem_cons_self))]; exact h1, h2, h3⟩
    · exact .inr (.inl ⟨ob, by rw [upd_ne (by rintro rfl; rw [h] at q; cases q)]; exact q⟩)
    · exact .inr (.inr q)
theorem Sto.whid {D : Addr} {xs ys : List V} (s : Sto K T (D :: hid) H M) (h : H D = some (.lst xs)) : Sto K T (D :: hid) (upd H D (.lst ys)) M := by
  refine ⟨fun a m q => (s.mem a m q).car (Car.whid h) (upd_ne (s.lst_at List.mem_cons_self q)), fun P hP => ?_, fun a ha => ?_⟩
  · obtain ⟨ps, h1, h2⟩ := s.tab P hP
    exact ⟨ps, by rw [upd_ne (by rintro rfl; rw [h] at h1; cases h1)]; exact h1, h2⟩
  · obtain ⟨h1, h2⟩ := s.hidn a ha
    refine ⟨h1, ?_⟩
    by_cases e : a = D
    · subst e; rw [upd_same]; exact fun z => nomatch z
    · rw [upd_ne e]; exact h2
theorem Ext.whid {H1 : Hp} {M1 : Mu} {D : Addr} {o : HO} (a : Ext hid H1 M1 H M) (hD : H1 D = none) (hn : D ∉ hid) : Ext hid H1 M1 (upd H D o) M := by
  refine ⟨fun x xs h => by rw [upd_ne (ne_of_none h hD)]; exact a.tup x xs h, fun x o u h => by rw [upd_ne (ne_of_none h hD)]; exact a.frz x o u h, fun x xs h h' z => ?_, fun x hx xs h => ?_, fun x h => upd_dom x (a.dom x h), a.nl⟩
  · obtain ⟨p, q⟩ := a.lst x xs h h' z
    exact ⟨by rw [upd_ne (ne_of_none h hD)]; exact p, q⟩
  · rw [upd_ne (ne_of_none h hD)]; exact a.hid x hx xs h
end

/-! ### slots wiped -/
theorem wipe_get (σ : L2.St) (j : Nat) : ∀ vs : List Nat, (wipe σ vs)[j]? = if j ∈ vs then σ[j]?.map (fun _ => none) else σ[j]?
  | [] => by simp [wipe]
  | v :: vs => by
    unfold wipe
    rw [List.getElem?_set]
    by_cases e : v = j
    · subst e
      rw [if_pos rfl, if_pos List.mem_cons_self, wipe_length]
      by_cases h : v < σ.length
      · rw [if_pos h, List.getElem?_eq_getElem h]; rfl
      · rw [if_neg h, List.getElem?_eq_none (by omega)]; rfl
    · rw [if_neg e, wipe_get σ j vs]
      have : (j ∈ v :: vs) ↔ j ∈ vs := by rw [List.mem_cons]; exact ⟨fun h => h.resolve_left (Ne.symm e), .inr⟩
      simp only [this]
theorem wipe_set {σ : L2.St} {i : Nat} {x : Option V} {vs : List Nat} (h : i ∈ vs) : wipe (σ.set i x) vs = wipe σ vs := by
  apply List.ext_getElem?
  intro j
  rw [wipe_get, wipe_get]
  by_cases e : j ∈ vs
  · rw [if_pos e, if_pos e]
    by_cases z : i = j
    · subst z
      rw [List.getElem?_set]
      by_cases hl : i < σ.length
      · rw [if_pos rfl, if_pos hl, List.getElem?_eq_getElem hl]; rfl
      · rw [if_pos rfl, if_neg hl, List.getElem?_eq_none (by omega)] <;> rfl
    · rw [List.getElem?_set_ne z]
  · rw [if_neg e, if_neg e, List.getElem?_set_ne (by rintro rfl; exact e h)]
theorem wipe_wipe {σ : L2.St} {vs : List Nat} : wipe (wipe σ vs) vs = wipe σ vs := by
  apply List.ext_getElem?
  intro j
  rw [wipe_get, wipe_get]
  by_cases e : j ∈ vs
  · rw [if_pos e, if_pos e]; cases σ[j]? <;> rfl
  · rw [if_neg e, if_neg e]
def wipeE (ρ : Env') : List Nat → Env'
  | [] => ρ
  | v :: vs => (wipeE ρ vs).set v none
theorem wipeE_get (ρ : Env') (j : Nat) : ∀ vs : List Nat, (wipeE ρ vs)[j]? = if j ∈ vs then ρ[j]?.map (fun _ => none) else ρ[j]?
  | [] => by simp [wipeE]
  | v :: vs => by
    have hl : ∀ us : List Nat, (wipeE ρ us).length = ρ.length := fun us => by
      induction us with
      | nil => rfl
      | cons u us ih => unfold wipeE; rw [List.length_set]; exact ih
    unfold wipeE
    rw [List.getElem?_set]
    by_cases e : v = j
    · subst e
      rw [if_pos rfl, if_pos List.mem_cons_self, hl]
      by_cases h : v < ρ.length
      · rw [if_pos h, List.getElem?_eq_getElem h]; rfl
      · rw [if_neg h, List.getElem?_eq_none (by omega)]; rfl
    · rw [if_neg e, wipeE_get ρ j vs]
      have : (j ∈ v :: vs) ↔ j ∈ vs := by rw [List.mem_cons]; exact ⟨fun h => h.resolve_left (Ne.symm e), .inr⟩
      simp only [this]
theorem wipeE_length (ρ : Env') : ∀ vs : List Nat, (wipeE ρ vs).length = ρ.length
  | [] => rfl
  | v :: vs => by unfold wipeE; rw [List.length_set]; exact wipeE_length ρ vs
theorem REnv.wipe {K : PySem.W.Frag} {hid : List Addr} {H : Hp} {M : Mu} {σ : L2.St} {ρ : Env'} (r : REnv K hid H M σ ρ) (vs : List Nat) : REnv K hid H M (L2.wipe σ vs) (wipeE ρ vs) := by
  refine ⟨by rw [wipeE_length, wipe_length]; exact r.1, fun i d h => ?_⟩
  rw [wipeE_get] at h
  by_cases e : i ∈ vs
  · rw [if_pos e] at h
    cases q : ρ[i]? with
    | none => rw [q] at h; cases h
    | some o => rw [q] at h; cases h
  · rw [if_neg e] at h
    obtain ⟨v, h1, h2⟩ := r.2 i d h
    exact ⟨v, by rw [wipe_get, if_neg e]; exact h1, h2⟩
end U

set_option Elab.async false
set_option linter.all false
set_option maxRecDepth 100000
set_option maxHeartbeats 1000000
/-! U5: targets, what is walked, new lists, comprehensions. -/
namespace U
open PySem PySem.Spec PyProof.Rows L2

/-! ### targets -/
abbrev BD := D → Env' → Option Env'
abbrev BL := List D → Env' → Option Env'
def GSim (K : PySem.W.Frag) (T : List Addr) (g : TG) (b : BD) (vs : List Nat) : Prop :=
  ∀ hid H M σ ρ v d ρ' (Q : L2.St → Hp → Prop), REnv K hid H M σ ρ → Sto K T hid H M → Rv K hid H M v d → b d ρ = some ρ' → (∀ σ', REnv K hid H M σ' ρ' → wipe σ' vs = wipe σ vs → Q σ' H) → g v σ H Q
def GLSim (K : PySem.W.Frag) (T : List Addr) (g : TGs) (b : BL) (vs : List Nat) : Prop :=
  ∀ hid H M σ ρ xs ds ρ' (Q : L2.St → Hp → Prop), REnv K hid H M σ ρ → Sto K T hid H M → Rvs K hid H M xs ds → b ds ρ = some ρ' → (∀ σ', REnv K hid H M σ' ρ' → wipe σ' vs = wipe σ vs → Q σ' H) → g xs σ H Q
def DG (X : Cx) (T : List Addr) (tg : Expr) (b : BD) (vs : List Nat) : Prop := ∃ g, PG X tg g ∧ GSim X.K T g b vs
def DGs (X : Cx) (T : List Addr) (tgs : List Expr) (b : BL) (vs : List Nat) : Prop := ∃ g, PGs X tgs g ∧ GLSim X.K T g b vs
def canG (K : PySem.W.Frag) (T : List Addr) (b : BD) (vs : List Nat) : TG := fun v σ H Q => ∃ hid M ρ d ρ', REnv K hid H M σ ρ ∧ Sto K T hid H M ∧ Rv K hid H M v d ∧ b d ρ = some ρ' ∧ ∀ σ', REnv K hid H M σ' ρ' → wipe σ' vs = wipe σ vs → Q σ' H
def bNm (i : Nat) : BD := fun d ρ => some (ρ.set i (some d))
def bNil : BL := fun ds ρ => match ds with
  | [] => some ρ
  | _ => none
def bCons (b : BD) (bs : BL) : BL := fun ds ρ => match ds with
  | d :: ds => (b d ρ).bind (bs ds)
  | [] => none
def bTup (n : Nat) (bs : BL) : BD := fun d ρ => match d with
  | .tup ds => if ds.length = n then bs ds ρ else none
  | _ => none
section
variable {X : Cx} {T : List Addr} {W : WX} {vs : List Nat}
theorem DG.can {tg : Expr} {b : BD} (h : DG X T tg b vs) : PG X tg (canG X.K T b vs) := by
  obtain ⟨g, p, s⟩ := h
  exact ⟨fun pins s1 σ H v u Q I r q => p.run pins s1 σ H v u Q I r (let ⟨hid, M, ρ, d, ρ', a, b, c, e, k⟩ := q; s hid H M σ ρ v d ρ' Q a b c e k)⟩
theorem canG_sim {K : PySem.W.Frag} {b : BD} : GSim K T (canG K T b vs) b vs := fun hid H M σ ρ v d ρ' Q a b c e k => ⟨hid, M, ρ, d, ρ', a, b, c, e, k⟩
theorem dg_nm {i : Nat} {x : Str} {pos : Pos} (hN : X.N.Nodup) (hi : X.N[i]? = some x) (hx : Loc X.env.scope x) (hf : X.fn x = true ∨ X.env.scope.names.lookup x = some .local) (hv : i ∈ vs) : DG X T (.Name x pos) (bNm i) vs := by
  refine ⟨_, pg_name hN hi hx hf, fun hid H M σ ρ v d ρ' Q r s rv e q => ?_⟩
  cases e
  exact q _ (r.set i rv) (wipe_set hv)
theorem dgs_nil : DGs X T [] bNil vs := by
  refine ⟨_, pgs_nil, fun hid H M σ ρ xs ds ρ' Q r s rv e q => ?_⟩
  cases rv with
  | nil => cases e; exact ⟨rfl, q _ r rfl⟩
  | cons => cases e
theorem dgs_cons {e : Expr} {es : List Expr} {b : BD} {bs : BL} (h1 : DG X T e b vs) (h2 : DGs X T es bs vs) (hs : (assignEach (e :: es) X.env).map (·.2) = assign e X.env :: (assignEach es X.env).map (·.2)) : DGs X T (e :: es) (bCons b bs) vs := by
  obtain ⟨g, p, s⟩ := h1
  obtain ⟨g2, p2, s2⟩ := h2
  refine ⟨_, pgs_cons p p2 hs, fun hid H M σ ρ xs ds ρ' Q r st rv e q => ?_⟩
  cases rv with
  | nil => cases e
  | cons hv rv =>
    rename_i v vr d dr
    unfold bCons at e
    dsimp only at e
    cases e1 : b d ρ with
    | none => rw [e1] at e; cases e
    | some ρ1 =>
      rw [e1] at e
      refine ⟨v, vr, rfl, s hid H M σ ρ v d ρ1 _ r st hv e1 fun σ1 r1 w1 => ?_⟩
      exact s2 hid H M σ1 ρ1 vr dr ρ' Q r1 st rv e fun σ2 r2 w2 => q σ2 r2 (w2.trans w1)
theorem dg_tup {es : List Expr} {k n : Nat} {bs : BL} {pos : Pos} (hc : X.calm = true) (h : DGs X T es bs vs) (hn : (assignEach es X.env).length = n) (hst : (assignEach es X.env).findIdx? (·.1) = none) : DG X T (.Tuple es k pos) (bTup n bs) vs := by
  obtain ⟨g, p, s⟩ := h
  refine ⟨_, pg_tup hc p hn hst, fun hid H M σ ρ v d ρ' Q r st rv e q => ?_⟩
  cases d with
  | tup ds =>
    cases rv with
    | tup h1 h2 =>
      unfold bTup at e
      dsimp only at e
      by_cases hl : ds.length = n
      · rw [if_pos hl] at e
        exact ⟨_, _, rfl, h1, by rw [h2.length]; exact hl, s hid H M σ ρ _ ds ρ' Q r st h2 e q⟩
      · rw [if_neg hl] at e; cases e
  | _ => cases e
end

/-! ### what is walked -/
abbrev FI := XW → Env' → Mu → (List D → Mu → Prop) → Prop
def Itm (K : PySem.W.Frag) (T hid : List Addr) (J : It) (H0 : Hp) (M0 : Mu) (ds : List D) : Prop :=
  ∀ hid' H M, Sto K T hid' H M → Car K hid H0 M0 hid' H M →
    (∀ i, i < ds.length → J.go i H ∧ ∀ x H', J.yld i H x H' → ∃ d, ds[i]? = some d ∧ Sto K T hid' H' M ∧ Ext hid' H M H' M ∧ Rv K hid' H' M x d) ∧ J.stop ds.length H
def ISim (K : PySem.W.Frag) (T : List Addr) (W : WX) (wi : TI) (fi : FI) : Prop :=
  ∀ hid σ H ρ M xw Q (R : It → Hp → Prop), REnv K hid H M σ ρ → Sto K T hid H M → WOk K T hid W σ H M xw → fi xw ρ M Q →
    (∀ J H' M' ds, Sto K T hid H' M' → Ext hid H M H' M' → Itm K T hid J H' M' ds → Q ds M' → R J H') → wi σ H R
def DI (X : Cx) (T : List Addr) (W : WX) (tg iter : Expr) (fi : FI) : Prop := ∃ wi, PI X tg iter wi ∧ ISim X.K T W wi fi
theorem Itm.car {K : PySem.W.Frag} {T hid hid2 : List Addr} {J : It} {H0 H2 : Hp} {M0 M2 : Mu} {ds : List D} (h : Itm K T hid J H0 M0 ds) (c : Car K hid H0 M0 hid2 H2 M2) : Itm K T hid2 J H2 M2 ds :=
  fun hid' H M s c2 => h hid' H M s (c.trans c2)
/-- a list or a tuple -/
def iLT (K : PySem.W.Frag) (tl : TE) : TI := fun σ H R => tl σ H fun x H1 => ∃ a, x = .ref a ∧ (((∃ xs, SqL K H1 a xs) ∧ R (Itl K a) H1) ∨ ((∃ xs, SqT K H1 a xs) ∧ R (Itt K a) H1))
theorem pi_lt {X : Cx} {tg l : Expr} {tl : TE} (hl : PE X l tl) : PI X tg l (iLT X.K tl) := by
  refine ⟨fun pins s σ H R I h => ?_⟩
  refine thn (hl.run pins s σ H _ I h) fun v s1 ⟨x, H1, I1, r1, q1⟩ => ?_
  obtain ⟨a, e, q1⟩ := q1
  subst e
  cases r1
  rcases q1 with ⟨⟨xs, hq⟩, q⟩ | ⟨⟨xs, hq⟩, q⟩
  · obtain ⟨its, rv, p, hz⟩ := I1.list hq
    refine wpAny_pyIter_list p.isList ?_
    refine ⟨s1.heap.objs.size, [s1.heap.objs.size], _, _, H1, rfl, I1.kept (t' := s1.toks) fun b o e => Heap.get?_push_of_some _ e, turn_list a _, ⟨_, Heap.get?_push_size _ rfl, rfl, rfl⟩, fun b hb => ?_, q⟩
    have e : b = s1.heap.objs.size := by simpa using hb
    subst e
    exact I1.fpOk (Nat.le_refl _) (I1.hok.fresh (Nat.le_refl _))
  · obtain ⟨its, rv, p, hz⟩ := I1.tuple hq
    refine wpAny_pyIter_tuple (show s1.heap.IsTuple a its.toArray from p) ?_
    refine ⟨s1.heap.objs.size, [s1.heap.objs.size], _, _, H1, rfl, I1.kept (t' := s1.toks) fun b o e => Heap.get?_push_of_some _ e, turn_tuple a _, ⟨_, Heap.get?_push_size _ rfl, rfl, rfl⟩, fun b hb => ?_, q⟩
    have e : b = s1.heap.objs.size := by simpa using hb
    subst e
    exact I1.fpOk (Nat.le_refl _) (I1.hok.fresh (Nat.le_refl _))
def fSeq (f : FE) : FI := fun xw ρ M Q => f xw ρ M fun d M1 => match d with
  | .tup ds => Q ds M1
  | .lst ds => Q ds M1
  | _ => False
theorem itm_list {K : PySem.W.Frag} {T hid : List Addr} {H : Hp} {M : Mu} {a : Addr} {xs : List V} {ds : List D} (h : FzL K hid H M a xs) (r : Rvs K hid H M xs ds) : Itm K T hid (Itl K a) H M ds := by
  intro hid' H' M' s c
  have h' := (c.fzL _ _ h).sq
  have r' := c.rvs _ _ r
  have hl := r.length
  refine ⟨fun i hi => ⟨⟨xs, xs[i]'(by omega), h', List.getElem?_eq_getElem (by omega)⟩, fun x H2 y => ?_⟩, ⟨xs, h', by omega⟩⟩
  obtain ⟨rfl, y⟩ := y
  obtain ⟨v, h1, h2⟩ := r'.get i (d := ds[i]) (List.getElem?_eq_getElem hi)
  rw [y xs h'] at h1
  cases h1
  exact ⟨_, List.getElem?_eq_getElem hi, s, Ext.refl _ _ _, h2⟩
theorem itm_tup {K : PySem.W.Frag} {T hid : List Addr} {H : Hp} {M : Mu} {a : Addr} {xs : List V} {ds : List D} (h : SqT K H a xs) (r : Rvs K hid H M xs ds) : Itm K T hid (Itt K a) H M ds := by
  intro hid' H' M' s c
  have h' := c.sqT _ _ h
  have r' := c.rvs _ _ r
  have hl := r.length
  refine ⟨fun i hi => ⟨⟨xs, xs[i]'(by omega), h', List.getElem?_eq_getElem (by omega)⟩, fun x H2 y => ?_⟩, ⟨xs, h', by omega⟩⟩
  obtain ⟨rfl, y⟩ := y
  obtain ⟨v, h1, h2⟩ := r'.get i (d := ds[i]) (List.getElem?_eq_getElem hi)
  rw [y xs h'] at h1
  cases h1
  exact ⟨_, List.getElem?_eq_getElem hi, s, Ext.refl _ _ _, h2⟩
section
variable {X : Cx} {T : List Addr} {W : WX} {tg : Expr}
theorem di_seq {e : Expr} {f : FE} (h : DE X T W e f) : DI X T W tg e (fSeq f) := by
  obtain ⟨t, p, sa⟩ := h
  refine ⟨_, pi_lt p, fun hid σ H ρ M xw Q R r s w q k => ?_⟩
  refine sa hid σ H ρ M xw _ _ r s w q fun v H1 d M1 s1 e1 r1 q1 => ?_
  cases d with
  | tup ds =>
    cases r1 with
    | tup h1 h2 => exact ⟨_, rfl, .inr ⟨⟨_, h1⟩, k _ H1 M1 ds s1 e1 (itm_tup h1 h2) q1⟩⟩
  | lst ds =>
    cases r1 with
    | lst h1 h2 => exact ⟨_, rfl, .inl ⟨⟨_, h1.sq⟩, k _ H1 M1 ds s1 e1 (itm_list h1 h2) q1⟩⟩
  | _ => exact (show False from q1).elim
def rngD (lo : Int) (n : Nat) : List D := (List.range n).map fun k => .int (lo + (k : Nat))
theorem itm_rng {K : PySem.W.Frag} {hid : List Addr} {H : Hp} {M : Mu} {lo : Int} {n : Nat} : Itm K T hid (Itr lo n) H M (rngD lo n) := by
  intro hid' H' M' s c
  have hl : (rngD lo n).length = n := by unfold rngD; rw [List.length_map, List.length_range]
  refine ⟨fun i hi => ⟨by rw [hl] at hi; exact hi, fun x H2 y => ?_⟩, by rw [hl]; exact Nat.le_refl n⟩
  obtain ⟨rfl, rfl⟩ := y
  refine ⟨.int (lo + (i : Nat)), ?_, s, Ext.refl _ _ _, .int _⟩
  unfold rngD
  rw [hl] at hi
  rw [List.getElem?_map, List.getElem?_range hi]; rfl
def fRng1 (fa : FA) : FI := fun xw ρ M Q => fa xw ρ M fun ds M1 => match ds with
  | [.int j] => (-(2 ^ 62) ≤ j ∧ j < 2 ^ 62) ∧ Q (rngD 0 j.toNat) M1
  | _ => False
def fRng2 (fa : FA) : FI := fun xw ρ M Q => fa xw ρ M fun ds M1 => match ds with
  | [.int i, .int j] => (-(2 ^ 62) ≤ i ∧ i < 2 ^ 62 ∧ -(2 ^ 62) ≤ j ∧ j < 2 ^ 62) ∧ Q (rngD i (j - i).toNat) M1
  | _ => False
theorem di_rng1 {a : Expr} {fa : FA} {p pos : Pos} (hg : Gl X "range") (hm : X.mg "range" = none) (ha : DA X T W [a] fa) (hs : starEach [a] X.env = [(false, eval a X.env)]) : DI X T W tg (.Call (.Name "range" p) [a] [] pos) (fRng1 fa) := by
  obtain ⟨t, pa, sa⟩ := ha
  refine ⟨_, pi_range1 hg hm pa hs, fun hid σ H ρ M xw Q R r s w q k => ?_⟩
  refine sa hid σ H ρ M xw _ _ r s w q fun vs H1 ds M1 s1 e1 r1 q1 => ?_
  split at q1
  · cases r1 with
    | cons h r => cases r; cases h; exact ⟨_, rfl, q1.1.1, q1.1.2, k _ H1 M1 _ s1 e1 itm_rng q1.2⟩
  · exact q1.elim
theorem di_rng2 {a b : Expr} {fa : FA} {p pos : Pos} (hg : Gl X "range") (hm : X.mg "range" = none) (ha : DA X T W [a, b] fa) (hs : starEach [a, b] X.env = [(false, eval a X.env), (false, eval b X.env)]) (hs2 : starEach [b] X.env = [(false, eval b X.env)]) : DI X T W tg (.Call (.Name "range" p) [a, b] [] pos) (fRng2 fa) := by
  obtain ⟨t, pa, sa⟩ := ha
  refine ⟨_, pi_range2 hg hm pa hs hs2, fun hid σ H ρ M xw Q R r s w q k => ?_⟩
  refine sa hid σ H ρ M xw _ _ r s w q fun vs H1 ds M1 s1 e1 r1 q1 => ?_
  split at q1
  · cases r1 with
    | cons h r => cases r with
      | cons h' r => cases r; cases h; cases h'; exact ⟨_, _, rfl, q1.1, k _ H1 M1 _ s1 e1 itm_rng q1.2⟩
  · exact q1.elim
end

/-! ### new lists -/
abbrev FL := XW → Env' → Mu → (List D → Mu → Prop) → Prop
/-- what follows a new list at p that nothing else knows -/
def PstL (K : PySem.W.Frag) (T hid : List Addr) (H : Hp) (M : Mu) (Q : List D → Mu → Prop) (Qv : VK) : Prop :=
  ∀ p xs H' ds M', H p = none → p ∉ hid → Sto K T (p :: hid) H' M' → Ext hid H M H' M' → H' p = some (.lst xs) → Rvs K (p :: hid) H' M' xs ds → Q ds M' → Qv (.ref p) H'
def LSim (K : PySem.W.Frag) (T : List Addr) (W : WX) (t : TE) (f : FL) : Prop :=
  ∀ hid σ H ρ M xw Q Qv, REnv K hid H M σ ρ → Sto K T hid H M → WOk K T hid W σ H M xw → f xw ρ M Q → PstL K T hid H M Q Qv → t σ H Qv
def DL (X : Cx) (T : List Addr) (W : WX) (e : Expr) (f : FL) : Prop := ∃ t, PE X e t ∧ LSim X.K T W t f
def fOfL (f : FL) : FE := fun xw ρ M Q => f xw ρ M fun ds M1 => Q (.lst ds) M1
theorem LSim.e {K : PySem.W.Frag} {T : List Addr} {W : WX} {t : TE} {f : FL} (h : LSim K T W t f) : ESim K T W t (fOfL f) := by
  intro hid σ H ρ M xw Q Qv r s w q p
  refine h hid σ H ρ M xw _ _ r s w q fun a xs H1 ds M1 hp hn s1 e1 h1 r1 q1 => ?_
  exact p _ H1 _ M1 s1.unhide e1 (.lst (.inl ⟨h1, (s1.hidn a List.mem_cons_self).1, hn⟩) (Car.unhide.rvs _ _ r1)) q1
theorem DL.e {X : Cx} {T : List Addr} {W : WX} {e : Expr} {f : FL} (h : DL X T W e f) : DE X T W e (fOfL f) := let ⟨t, p, s⟩ := h; ⟨t, p, s.e⟩
section
variable {K : PySem.W.Frag} {T hid : List Addr} {H H0 : Hp} {M M0 : Mu}
theorem Ext.fr (e : Ext hid H0 M0 H M) {a : Addr} (h : H a = Option.none) : H0 a = Option.none := by
  cases q : H0 a with
  | none => rfl
  | some o => exact absurd h (e.dom a (by rw [q]; exact fun z => nomatch z))
theorem PstL.new {Q : List D → Mu → Prop} {Qv : VK} (p : PstL K T hid H0 M0 Q Qv) (s : Sto K T hid H M) (e : Ext hid H0 M0 H M) {xs : List V} {ds : List D} (r : Rvs K hid H M xs ds) {a : Addr} (ha : H a = none) (q : Q ds M) : Qv (.ref a) (upd H a (.lst xs)) :=
  p a xs _ ds M (e.fr ha) (s.fresh ha).2 (s.hide ha) (e.trans (Ext.new s ha)) upd_same ((Car.hide s ha).rvs _ _ r) q
/-- the list is owned -/
theorem Car.own {p : Addr} {m : MO} : Car K (p :: hid) H M hid H (mset M p m) := by
  refine ⟨fun _ _ h => h, fun a xs h => ?_⟩
  rcases h with ⟨h1, h2, h3⟩ | h | h
  · rw [List.mem_cons, not_or] at h3
    exact .inl ⟨h1, by rw [mset_ne h3.1]; exact h2, h3.2⟩
  · exact .inr (.inl h)
  · exact .inr (.inr h)
theorem Sto.owned {p : Addr} {xs : List V} {ds : List D} (s : Sto K T (p :: hid) H M) (hn : p ∉ hid) (h : H p = some (.lst xs)) (r : Rvs K (p :: hid) H M xs ds) : Sto K T hid H (mset M p (.lst ds)) := by
  have c : Car K (p :: hid) H M hid H (mset M p (.lst ds)) := Car.own
  refine ⟨fun a m q => ?_, s.tab, fun a ha => ?_⟩
  · by_cases e : a = p
    · subst e; rw [mset_same] at q; cases q
      exact ⟨xs, h, c.rvs _ _ r⟩
    · rw [mset_ne e] at q
      exact (s.mem a m q).car c rfl
  · obtain ⟨h1, h2⟩ := s.hidn a (List.mem_cons_of_mem _ ha)
    exact ⟨by rw [mset_ne (by rintro rfl; exact hn ha)]; exact h1, h2⟩
theorem Ext.owned {p : Addr} {m : MO} (e : Ext hid H0 M0 H M) (h0 : H0 p = none) : Ext hid H0 M0 H (mset M p m) :=
  ⟨e.tup, e.frz, fun a xs h h' z => let ⟨k1, k2⟩ := e.lst a xs h h' z; ⟨k1, by rw [mset_ne (ne_of_none h h0)]; exact k2⟩, e.hid, e.dom, fun a h h' => by
    by_cases q : a = p
    · rw [q]; exact h0
    · rw [mset_ne q] at h'; exact e.nl a h h'⟩
end
end U

set_option Elab.async false
set_option linter.all false
set_option maxRecDepth 100000
set_option maxHeartbeats 1000000
/-! U6: expressions that make lists; comprehensions. -/
namespace U
open PySem PySem.Spec PyProof.Rows L2
section
variable {X : Cx} {T : List Addr} {W : WX}
def fLstL (g : FA) : FL := fun xw ρ M Q => g xw ρ M fun ds M1 => ds.length ≤ sizeLine ∧ Q ds M1
theorem dl_lst {es : List Expr} {g : FA} {pos : Pos} (h : DA X T W es g) : DL X T W (.List es pos) (fLstL g) := by
  obtain ⟨t, p, sa⟩ := h
  refine ⟨_, pe_lst p, fun hid σ H ρ M xw Q Qv r s w q p => ?_⟩
  refine sa hid σ H ρ M xw _ _ r s w q fun vs H1 ds M1 s1 e1 r1 q1 => ?_
  exact ⟨by rw [r1.length]; exact q1.1, fun a ha => p.new s1 e1 r1 ha q1.2⟩
/-- list(e) -/
def fListL (fa : FA) : FL := fun xw ρ M Q => fa xw ρ M fun ds M1 => match ds with
  | [d] => (match seqOf M1 d with
    | some es => Q es M1
    | none => False)
  | _ => False
theorem dl_list {x : Str} {p pos : Pos} {e : Expr} {fa : FA} (hg : Gl X x) (hm : X.mg x = none) (hv : bootBuiltins x = some (.type "list")) (ha : DA X T W [e] fa)
    (hn : x ≠ "__name__") (hdb : (x == ("__debug__" : Str)) = false)
    (he : starEach [e] X.env = (false, eval e X.env) :: starEach [] X.env) (hpl : (backTo pos (starEach [] X.env)).any (·.1) = false) : DL X T W (.Call (.Name x p) [e] [] pos) (fListL fa) := by
  obtain ⟨t, pa, sa⟩ := ha
  refine ⟨_, pe_callTy call_list_of hg hm hv pa hn hdb he hpl, fun hid σ H ρ M xw Q Qv r s w q p => ?_⟩
  refine sa hid σ H ρ M xw _ _ r s w q fun vs H1 ds M1 s1 e1 r1 q1 => ?_
  split at q1
  · rename_i d
    split at q1
    · rename_i es e
      cases r1 with
      | cons h r =>
        cases r
        obtain ⟨a, xs, rfl, h3, h4⟩ := seq_ok s1 h e
        exact ⟨_, _, rfl, h3, fun c hc => p.new s1 e1 h4 hc q1⟩
    · exact q1.elim
  · exact q1.elim
/-- a + b of lists -/
def fCatL (fa fb : FE) : FL := fun xw ρ M Q => fa xw ρ M fun x M1 => fb xw ρ M1 fun y M2 => match lstOf M2 x, lstOf M2 y with
  | some a, some b => a.length + b.length ≤ sizeLine ∧ Q (a ++ b) M2
  | _, _ => False
theorem dl_cat {a b : Expr} {fa fb : FE} {pos : Pos} (ha : DE X T W a fa) (hb : DE X T W b fb) : DL X T W (.BinOp a .Add b pos) (fCatL fa fb) := by
  obtain ⟨ta, pa, sa⟩ := ha
  obtain ⟨tb, pb, sb⟩ := hb
  refine ⟨_, pe_op op_catL pa pb, fun hid σ H ρ M xw Q Qv r s w q p => ?_⟩
  refine sa hid σ H ρ M xw _ _ r s w q fun v H1 d M1 s1 e1 r1 q1 => ?_
  refine sb hid σ H1 ρ M1 xw _ _ (r.ext e1) s1 (w.ext e1) q1 fun u H2 d2 M2 s2 e2 r2 q2 => ?_
  split at q2
  · rename_i x y h1 h2
    obtain ⟨l, xs, rfl, h3, k1⟩ := lstOf_ok s2 (e2.rv _ _ r1) h1
    obtain ⟨l2, ys, rfl, h4, k2⟩ := lstOf_ok s2 r2 h2
    have i1 := k1.length
    have i2 := k2.length
    exact ⟨_, _, _, _, rfl, rfl, h3, h4, by omega, fun c hc => p.new s2 (e1.trans e2) (k1.append k2) hc q2.2⟩
  · exact q2.elim

/-! ### comprehensions of one clause -/
abbrev xF : XW := fun _ _ => False
abbrev WF : WX := fun _ _ _ _ => False
def lcGo (b : BD) (ft : FT) (fe : FE) (ρ : Env') : List D → List D → Mu → (List D → Mu → Prop) → Prop
  | [], acc, M, Q => Q acc M
  | d :: ds, acc, M, Q => match b d ρ with
    | some ρ2 => ft xF ρ2 M fun c M1 => if c = true then fe xF ρ2 M1 fun y M2 => acc.length < sizeLine ∧ lcGo b ft fe ρ ds (acc ++ [y]) M2 Q else lcGo b ft fe ρ ds acc M1 Q
    | none => False
def fLc (fi : FI) (b : BD) (ft : FT) (fe : FE) (vs : List Nat) : FL := fun xw ρ M Q => fi xw ρ M fun ds M1 => lcGo b ft fe (wipeE ρ vs) ds [] M1 Q
theorem wok_F {K : PySem.W.Frag} {T hid : List Addr} {W : WX} {σ : L2.St} {H : Hp} {M : Mu} : WOk K T hid W σ H M xF := fun _ _ _ _ _ _ _ _ z => z.elim
theorem lc_sim {K : PySem.W.Frag} {T : List Addr} {W W' : WX} {wi : TI} {fi : FI} {g : TG} {b : BD} {tt : TT} {ft : FT} {te : TE} {fe : FE} {vs : List Nat} (hi : ISim K T W wi fi) (hg : GSim K T g b vs) (ht : TSim K T W' tt ft) (he : ESim K T W' te fe) :
    LSim K T W (tLc wi g tt te vs) (fLc fi b ft fe vs) := by
  intro hid σ H ρ M xw Q Qv r s w q p
  refine hi hid σ H ρ M xw _ _ r s w q fun J H1 M1 ds s1 e1 im q1 => ?_
  intro D hD
  have hn : D ∉ hid := (s1.fresh hD).2
  refine ⟨fun i m H2 => ∃ M2 acc accV, m = ds.length - i ∧ i ≤ ds.length ∧ Sto K T (D :: hid) H2 M2 ∧ Ext hid H1 M1 H2 M2 ∧ H2 D = some (.lst accV) ∧ Rvs K (D :: hid) H2 M2 accV acc ∧ lcGo b ft fe (wipeE ρ vs) (ds.drop i) acc M2 Q,
    ⟨ds.length, M1, [], [], by simp, Nat.zero_le _, s1.hide hD, Ext.new s1 hD, upd_same, .nil, q1⟩, ?_⟩
  rintro i m H2 ⟨M2, acc, accV, rfl, hle, s2, e2, h2, r2, q2⟩
  have c2 : Car K hid H1 M1 (D :: hid) H2 M2 := Car.of_under e2 hD
  obtain ⟨go, stop⟩ := im (D :: hid) H2 M2 s2 c2
  by_cases hlt : i < ds.length
  · refine .inr ⟨(go i hlt).1, fun H5 => ∃ M5 acc' accV', i + 1 ≤ ds.length ∧ Sto K T (D :: hid) H5 M5 ∧ Ext hid H1 M1 H5 M5 ∧ H5 D = some (.lst accV') ∧ Rvs K (D :: hid) H5 M5 accV' acc' ∧ lcGo b ft fe (wipeE ρ vs) (ds.drop (i + 1)) acc' M5 Q, ?_, ?_⟩
    · rintro H5 ⟨M5, acc', accV', h⟩
      exact ⟨ds.length - (i + 1), by omega, M5, acc', accV', rfl, h⟩
    · intro x H3 hy
      obtain ⟨d, hd, s3, e3, r3⟩ := (go i hlt).2 x H3 hy
      rw [List.drop_eq_getElem_cons hlt] at q2
      have ed : ds[i] = d := by rw [List.getElem?_eq_getElem hlt] at hd; exact Option.some.inj hd
      rw [ed] at q2
      unfold lcGo at q2
      have rw3 : REnv K (D :: hid) H3 M2 (wipe σ vs) (wipeE ρ vs) := (((r.ext e1).car c2).ext e3).wipe vs
      split at q2
      · rename_i ρ2 eb
        refine hg (D :: hid) H3 M2 (wipe σ vs) (wipeE ρ vs) x d ρ2 _ rw3 s3 r3 eb fun σ2 rr2 w2 => ⟨w2.trans wipe_wipe, ?_⟩
        refine ht (D :: hid) σ2 H3 ρ2 M2 xF _ _ rr2 s3 wok_F q2 fun c H4 M4 s4 e4 q4 => ?_
        have e14 : Ext hid H1 M1 H4 M4 := e2.under hD (e3.trans e4)
        have hD4 : H4 D = some (.lst accV) := (e3.trans e4).hid D List.mem_cons_self _ h2
        cases c with
        | false => exact ⟨M4, acc, accV, hlt, s4, e14, hD4, (e3.trans e4).rvs _ _ r2, q4⟩
        | true =>
          refine he (D :: hid) σ2 H4 ρ2 M4 xF _ _ (rr2.ext e4) s4 wok_F q4 fun v H5 y M5 s5 e5 r5 q5 => ?_
          have hD5 : H5 D = some (.lst accV) := e5.hid D List.mem_cons_self _ hD4
          have hl := r2.length
          have e345 := (e3.trans e4).trans e5
          have cw : Car K (D :: hid) H5 M5 (D :: hid) (upd H5 D (.lst (accV ++ [v]))) M5 := Car.whid hD5
          exact ⟨accV, hD5, by rw [hl]; exact q5.1, M5, acc ++ [y], accV ++ [v], hlt, s5.whid hD5, (e2.under hD e345).whid hD hn, upd_same, cw.rvs _ _ ((e345.rvs _ _ r2).append (.cons r5 .nil)), q5.2⟩
      · exact q2.elim
  · have ei : i = ds.length := by omega
    subst ei
    rw [List.drop_of_length_le (Nat.le_refl _)] at q2
    exact .inl ⟨stop, p D accV H2 acc M2 (e1.fr hD) hn s2 (e1.trans e2) h2 r2 q2⟩
/-- [elt for tg in iter if ..], as a value -/
theorem dl_lc {elt tg iter : Expr} {ifs : List Expr} {scope : Scope} {own : List (Str × Nat)} {pos : Pos} {fi : FI} {b : BD} {ft : FT} {fe : FE} (hc : X.calm = true) (hN : X.N.Nodup) (hi : DI X T W tg iter fi) (ok : BlkOk X.N X.env.scope scope own)
    (h : ∀ (s : Shared) (H : Hp) (C : Addr) (cl : List (Str × Addr)) (fp : List Addr), DG (X.blk s H scope (compEnvC scope cl C X.env) fp) T tg b (own.map (·.2)) ∧ DTs (X.blk s H scope (compEnvC scope cl C X.env) fp) T WF ifs ft ∧ DE (X.blk s H scope (compEnvC scope cl C X.env) fp) T WF elt fe)
    (hs : ∀ x, foldedSetIterable iter X.env x = pure x) : DL X T W (.ListComp elt [⟨tg, iter, ifs, 0⟩] scope pos) (fLc fi b ft fe (own.map (·.2))) := by
  obtain ⟨wi, pi, si⟩ := hi
  exact ⟨_, pe_lc hc hN pi ok (fun s H C cl fp => (h s H C cl fp).1.can) (fun s H C cl fp => (h s H C cl fp).2.1.can) (fun s H C cl fp => (h s H C cl fp).2.2.can) hs, lc_sim si canG_sim canT_sim canE_sim⟩
end
end U

set_option Elab.async false
set_option linter.all false
set_option maxRecDepth 100000
set_option maxHeartbeats 1000000
/-! U7: statements. -/
namespace U
open PySem PySem.Spec PyProof.Rows L2
section
variable {X : Cx} {T : List Addr} {W : WX}
abbrev xwAt (E : FEnds) (ρ : Env') : XW := fun xd M' => E.xw xd ρ M'
def fPass : FS := fun E ρ M => E.nx ρ M
theorem dss_nil : DSs X T W [] fPass := ⟨_, pss_nil, fun hid σ H ρ M E D r s w q k => k.nx σ H ρ M r s (Ext.refl _ _ _) q⟩
def fThen (f g : FS) : FS := fun E ρ M => f { E with nx := g E } ρ M
theorem EndsOk.then {K : PySem.W.Frag} {T hid : List Addr} {W : WX} {H : Hp} {M : Mu} {E : FEnds} {D : Ends} {t : TS} {g : FS} (k : EndsOk K T hid H M E D) (w : WOkS K T hid W H M E.xw) (h : SSim K T W t g) : EndsOk K T hid H M { E with nx := g E } { D with nx := t D } :=
  ⟨fun σ' H' ρ' M' r s e q => h hid σ' H' ρ' M' E D r s (w.ext e) q (k.ext e), k.rt, k.bk, k.ct⟩
theorem dss_cons {st : Stmt} {rest : List Stmt} {f g : FS} (h1 : DS X T W st f) (h2 : DSs X T W rest g) : DSs X T W (st :: rest) (fThen f g) := by
  obtain ⟨t, p, a⟩ := h1
  obtain ⟨u, p2, b⟩ := h2
  exact ⟨_, pss_cons p p2, fun hid σ H ρ M E D r s w q k => a hid σ H ρ M { E with nx := g E } _ r s w q (EndsOk.then (g := g) k w b)⟩
theorem dss_one {st : Stmt} {f : FS} (h1 : DS X T W st f) : DSs X T W [st] f := let ⟨t, p, a⟩ := h1; ⟨t, pss_one p, a⟩
theorem ds_pass {pos : Pos} : DS X T W (.Pass pos) fPass := ⟨_, ps_pass, fun hid σ H ρ M E D r s w q k => k.nx σ H ρ M r s (Ext.refl _ _ _) q⟩
def fBreak : FS := fun E ρ M => E.bk ρ M
def fCont : FS := fun E ρ M => E.ct ρ M
theorem ds_break {pos : Pos} : DS X T W (.Break pos) fBreak := ⟨_, ps_break, fun hid σ H ρ M E D r s w q k => k.bk σ H ρ M r s (Ext.refl _ _ _) q⟩
theorem ds_cont {pos : Pos} : DS X T W (.Continue pos) fCont := ⟨_, ps_continue, fun hid σ H ρ M E D r s w q k => k.ct σ H ρ M r s (Ext.refl _ _ _) q⟩
def fExpr (f : FE) : FS := fun E ρ M => f (xwAt E ρ) ρ M fun _ M1 => E.nx ρ M1
theorem ds_expr {e : Expr} {f : FE} {pos : Pos} (h : DE X T W e f) (hs : swapsWith e none pos.line X.env = pure false) : DS X T W (.Expr e pos) (fExpr f) := by
  obtain ⟨t, p, sa⟩ := h
  refine ⟨_, ps_expr p hs, fun hid σ H ρ M E D r s w q k => ?_⟩
  exact sa hid σ H ρ M _ _ _ r s (w.at r) q fun v H1 d M1 s1 e1 r1 q1 => k.nx σ H1 ρ M1 (r.ext e1) s1 e1 q1
def fRet (f : FE) : FS := fun E ρ M => f (xwAt E ρ) ρ M E.rt
theorem ds_ret {e : Expr} {f : FE} {pos : Pos} (h : DE X T W e f) : DS X T W (.Return (some e) pos) (fRet f) := by
  obtain ⟨t, p, sa⟩ := h
  exact ⟨_, ps_ret p, fun hid σ H ρ M E D r s w q k => sa hid σ H ρ M _ _ _ r s (w.at r) q k.rt⟩
def fRetN : FS := fun E _ M => E.rt .non M
theorem ds_retN {pos : Pos} : DS X T W (.Return none pos) fRetN := ⟨_, ps_retN, fun hid σ H ρ M E D r s w q k => k.rt _ H _ M s (Ext.refl _ _ _) .non q⟩
def fIfS (c : FT) (f g : FS) : FS := fun E ρ M => c (xwAt E ρ) ρ M fun b M1 => if b = true then f E ρ M1 else g E ρ M1
theorem ds_if {c : Expr} {a b : List Stmt} {fc : FT} {f g : FS} {pos : Pos} (hc : DT X T W c fc) (ha : DSs X T W a f) (hb : DSs X T W b g) : DS X T W (.If c a b pos) (fIfS fc f g) := by
  obtain ⟨tc, pc, sc⟩ := hc
  obtain ⟨t, pa, sa⟩ := ha
  obtain ⟨u, pb, sb⟩ := hb
  refine ⟨_, ps_if pc pa pb, fun hid σ H ρ M E D r s w q k => ?_⟩
  refine sc hid σ H ρ M _ _ _ r s (w.at r) q fun c H1 M1 s1 e1 q1 => ?_
  cases c with
  | true => exact sa hid σ H1 ρ M1 E D (r.ext e1) s1 (w.ext e1) q1 (k.ext e1)
  | false => exact sb hid σ H1 ρ M1 E D (r.ext e1) s1 (w.ext e1) q1 (k.ext e1)

/-! ### assignments -/
def fSet (i : Nat) (f : FE) : FS := fun E ρ M => f (xwAt E ρ) ρ M fun d M1 => E.nx (ρ.set i (some d)) M1
theorem set_sim {K : PySem.W.Frag} {i : Nat} {t : TE} {f : FE} (h : ESim K T W t f) : SSim K T W (tAsg t (gName i)) (fSet i f) := fun hid σ H ρ M E D r s w q k =>
  h hid σ H ρ M _ _ _ r s (w.at r) q fun v H1 d M1 s1 e1 r1 q1 => k.nx _ H1 _ M1 ((r.ext e1).set i r1) s1 e1 q1
theorem ds_set {i : Nat} {x : Str} {e : Expr} {f : FE} {pos pos' : Pos} (hN : X.N.Nodup) (hi : X.N[i]? = some x) (hx : Loc X.env.scope x) (he : DE X T W e f) (hs : swapsWith e (some (.Name x pos')) pos.line X.env = pure false) (hf : X.fn x = true ∨ X.env.scope.names.lookup x = some .local) :
    DS X T W (.Assign [.Name x pos'] e pos) (fSet i f) := by
  obtain ⟨t, p, sa⟩ := he
  exact ⟨_, ps_set hN hi hx p hs hf, set_sim sa⟩
/-- a new list that the name owns -/
def fOwn (i : Nat) (f : FL) : FS := fun E ρ M => f (xwAt E ρ) ρ M fun ds M1 => ∀ p, M p = none → M1 p = none → E.nx (ρ.set i (some (.loc p))) (mset M1 p (.lst ds))
theorem own_sim {K : PySem.W.Frag} {i : Nat} {t : TE} {f : FL} (h : LSim K T W t f) : SSim K T W (tAsg t (gName i)) (fOwn i f) := fun hid σ H ρ M E D r s w q k =>
  h hid σ H ρ M _ _ _ r s (w.at r) q fun p xs H1 ds M1 hp hn s1 e1 h1 r1 q1 =>
    have e2 : Ext hid H M H1 (mset M1 p (.lst ds)) := e1.owned hp
    k.nx _ H1 _ _ ((r.ext e2).set i (.loc p)) (s1.owned hn h1 r1) e2 (q1 p (s.fresh hp).1 (s1.hidn p List.mem_cons_self).1)
theorem ds_own {i : Nat} {x : Str} {e : Expr} {f : FL} {pos pos' : Pos} (hN : X.N.Nodup) (hi : X.N[i]? = some x) (hx : Loc X.env.scope x) (he : DL X T W e f) (hs : swapsWith e (some (.Name x pos')) pos.line X.env = pure false) (hf : X.fn x = true ∨ X.env.scope.names.lookup x = some .local) :
    DS X T W (.Assign [.Name x pos'] e pos) (fOwn i f) := by
  obtain ⟨t, p, sa⟩ := he
  exact ⟨_, ps_set hN hi hx p hs hf, own_sim sa⟩
/-- x = [.. for ..] where the list is stored from within -/
theorem ds_setLc {i : Nat} {y : Str} {py : Pos} {elt tg iter : Expr} {ifs : List Expr} {scope : Scope} {own : List (Str × Nat)} {pos spos : Pos} {fi : FI} {b : BD} {ft : FT} {fe : FE} (hc : X.calm = true) (hN : X.N.Nodup) (hy : X.N[i]? = some y) (hyl : X.env.scope.names.lookup y = some .local)
    (hsw : swapsWith (.ListComp elt [⟨tg, iter, ifs, 0⟩] scope pos) (some (.Name y py)) spos.line X.env = pure true) (hi : DI X T W tg iter fi) (ok : BlkOk X.N X.env.scope scope own)
    (h : ∀ (s : Shared) (H : Hp) (C : Addr) (cl : List (Str × Addr)) (fp : List Addr), DG (X.blk s H scope (compEnvC scope cl C X.env) fp) T tg b (own.map (·.2)) ∧ DTs (X.blk s H scope (compEnvC scope cl C X.env) fp) T WF ifs ft ∧ DE (X.blk s H scope (compEnvC scope cl C X.env) fp) T WF elt fe)
    (hs : ∀ x, foldedSetIterable iter X.env x = pure x) : DS X T W (.Assign [.Name y py] (.ListComp elt [⟨tg, iter, ifs, 0⟩] scope pos) spos) (fSet i (fOfL (fLc fi b ft fe (own.map (·.2))))) ∧ DS X T W (.Assign [.Name y py] (.ListComp elt [⟨tg, iter, ifs, 0⟩] scope pos) spos) (fOwn i (fLc fi b ft fe (own.map (·.2)))) := by
  obtain ⟨wi, pi, si⟩ := hi
  have P := ps_setLc (te := canE X.K T WF fe) (tt := canT X.K T WF ft) (g := canG X.K T b (own.map (·.2))) hc hN hy hyl hsw pi ok (fun s H C cl fp => (h s H C cl fp).1.can) (fun s H C cl fp => (h s H C cl fp).2.1.can) (fun s H C cl fp => (h s H C cl fp).2.2.can) hs
  exact ⟨⟨_, P, set_sim (lc_sim si canG_sim canT_sim canE_sim).e⟩, ⟨_, P, own_sim (lc_sim si canG_sim canT_sim canE_sim)⟩⟩
/-- target = value, the target a tuple of names -/
def fAsg (f : FE) (b : BD) : FS := fun E ρ M => f (xwAt E ρ) ρ M fun d M1 => match b d ρ with
  | some ρ1 => E.nx ρ1 M1
  | none => False
theorem ds_asg {tg e : Expr} {f : FE} {b : BD} {vs : List Nat} {pos : Pos} (he : DE X T W e f) (hg : DG X T tg b vs) (hs : swapsWithSole [tg] e pos.line X.env = pure false) (hw : swappedStores [tg] e X.env = pure none)
    (h1 : (assignEach [tg] X.env).map (·.2) = [assign tg X.env]) : DS X T W (.Assign [tg] e pos) (fAsg f b) := by
  obtain ⟨t, p, sa⟩ := he
  obtain ⟨g, pg, sg⟩ := hg
  refine ⟨_, ps_asg p pg hs hw h1, fun hid σ H ρ M E D r s w q k => ?_⟩
  refine sa hid σ H ρ M _ _ _ r s (w.at r) q fun v H1 d M1 s1 e1 r1 q1 => ?_
  split at q1
  · rename_i ρ1 eb
    exact sg hid H1 M1 σ ρ v d ρ1 _ (r.ext e1) s1 r1 eb fun σ' r' _ => k.nx σ' H1 ρ1 M1 r' s1 e1 q1
  · exact q1.elim
/-- a, b = x, y -/
def fPar (i j : Nat) (fa : FA) : FS := fun E ρ M => fa (xwAt E ρ) ρ M fun ds M1 => match ds with
  | [d, e] => E.nx ((ρ.set i (some d)).set j (some e)) M1
  | _ => False
theorem ds_par {i j : Nat} {x y : Str} {a b : Expr} {fa : FA} {px py pt pos : Pos} {kt k2 : Nat} {pt2 : Pos} (hc : X.calm = true) (hN : X.N.Nodup) (hi : X.N[i]? = some x) (hj : X.N[j]? = some y) (hij : i ≠ j)
    (hx : X.env.scope.names.lookup x = some .local) (hy : X.env.scope.names.lookup y = some .local) (ha : DA X T W [a, b] fa)
    (hw : swappedStores [.Tuple [.Name x px, .Name y py] kt pt] (.Tuple [a, b] k2 pt2) X.env = pure (some [x, y]))
    (hs : swapsWithSole [.Tuple [.Name x px, .Name y py] kt pt] (.Tuple [a, b] k2 pt2) pos.line X.env = pure false) :
    DS X T W (.Assign [.Tuple [.Name x px, .Name y py] kt pt] (.Tuple [a, b] k2 pt2) pos) (fPar i j fa) := by
  obtain ⟨t, p, sa⟩ := ha
  refine ⟨_, ps_par hc hN hi hj hij hx hy p hw hs, fun hid σ H ρ M E D r s w q k => ?_⟩
  refine sa hid σ H ρ M _ _ _ r s (w.at r) q fun vs H1 ds M1 s1 e1 r1 q1 => ?_
  split at q1
  · cases r1 with
    | cons h r1 => cases r1 with
      | cons h' r1 => cases r1; exact ⟨_, _, rfl, k.nx _ H1 _ M1 (((r.ext e1).set i h).set j h') s1 e1 q1⟩
  · exact q1.elim
/-- o[i] = e -/
def gSetIx (o i v : D) (M : Mu) (k : Mu → Prop) : Prop := match o, i with
  | .loc a, .int z => (match M a with
    | some (.lst ds) => (match ixN ds.length z with
      | some j => k (mset M a (.lst (ds.set j v)))
      | none => False)
    | _ => False)
  | _, _ => False
def fSetIx (fo fi fe : FE) : FS := fun E ρ M => fe (xwAt E ρ) ρ M fun v M1 => fo (xwAt E ρ) ρ M1 fun o M2 => fi (xwAt E ρ) ρ M2 fun i M3 => gSetIx o i v M3 fun M4 => E.nx ρ M4
theorem ds_setIx {o i e : Expr} {fo fi fe : FE} {tpos pos : Pos} (ho : DE X T W o fo) (hi : DE X T W i fi) (he : DE X T W e fe)
    (ha : ∀ v, assign (.Subscript o i tpos) X.env v = (do
      let ov ← holding [v] (eval o X.env)
      let iv ← holding [v, ov] (eval i X.env)
      standAt tpos
      holding [v, ov, iv] (setItem ov iv v)
      release [v, ov, iv] []))
    (hs : swapsWithSole [.Subscript o i tpos] e pos.line X.env = pure false) (hw : swappedStores [.Subscript o i tpos] e X.env = pure none)
    (h1 : (assignEach [.Subscript o i tpos] X.env).map (·.2) = [assign (.Subscript o i tpos) X.env]) : DS X T W (.Assign [.Subscript o i tpos] e pos) (fSetIx fo fi fe) := by
  obtain ⟨to, po, so⟩ := ho
  obtain ⟨ti, pi, si⟩ := hi
  obtain ⟨te, pe, se⟩ := he
  refine ⟨_, ps_asg pe (pg_sub po pi set_list ha) hs hw h1, fun hid σ H ρ M E D r s w q k => ?_⟩
  refine se hid σ H ρ M _ _ _ r s (w.at r) q fun v H1 d M1 s1 e1 r1 q1 => ?_
  refine so hid σ H1 ρ M1 _ _ _ (r.ext e1) s1 ((w.at r).ext e1) q1 fun ov H2 od M2 s2 e2 r2 q2 => ?_
  refine si hid σ H2 ρ M2 _ _ _ (r.ext (e1.trans e2)) s2 ((w.at r).ext (e1.trans e2)) q2 fun iv H3 id M3 s3 e3 r3 q3 => ?_
  unfold gSetIx at q3
  split at q3
  · rename_i a z
    split at q3
    · rename_i ds em
      split at q3
      · rename_i j ej
        cases r3
        have r2' : ov = .ref a := by cases r2; rfl
        subst r2'
        obtain ⟨xs, h4, h5, _⟩ := s3.at em
        have rv : Rv X.K hid H3 M3 v d := (e2.trans e3).rv _ _ r1
        refine ⟨a, xs, z, j, rfl, rfl, h4, by rw [h5.length]; exact ej, ?_⟩
        have ew := Ext.wr (es := ds.set j d) (xs := xs.set j v) s3 em
        have e13 := (e1.trans e2).trans (e3.trans ew)
        exact k.nx σ _ ρ _ (r.ext e13) (s3.wr em (h5.set j rv)) e13 q3
      · exact q3.elim
    · exact q3.elim
  · exact q3.elim

/-! ### name op= e -/
theorem iadd_meets (l b : Addr) (us ws : Array Value) (n m : Nat) (dd : Option Addr) (sl : Array (Option Value)) (h0 : ¬ (!us.isEmpty && Builtin.List.listTooLong (us.size + ws.size)) = true) (h1 : us.size ≤ sizeLine) (h2 : us.size + ws.size ≤ sizeLine) :
    Meets (Builtin.«list.__iadd__» ⟨[.ref l, .ref b], []⟩) (fun _ R s => s.heap.get? l = some { cls := .type "list", data := .seq us n } ∧ s.heap.get? b = some { cls := .type "list", dict := dd, data := .seq ws m, slots := sl } ∧
      R (.ok (.ret (.ref l))) { s with heap := s.heap.update l (Obj.mapSeq (· ++ ws)) }) := by
  refine .of_wp fun prog w A R s h => ?_
  obtain ⟨h, g, d, t, os⟩ := s
  obtain ⟨ql, qb, qr⟩ := h
  have k1 := AutoSeq1.idx_int
  have k2 := AutoSeq1.sub_list_list
  have k3 := AutoSeq1.sub_list_tuple
  have hsum : (us ++ ws).size ≤ sizeLine + 1 := by rw [Array.size_append]; omega
  wp_walk using (wpAny_updateSeq ql rfl (hz := h1) (_hz' := hsum)), AutoSeq1.wpAny_loadPart' ql, AutoSeq1.wpAny_loadPart' qb
  exact ⟨_, rfl, qr⟩
def rExtL (K : PySem.W.Frag) : R2 := fun x y H Q => ∃ l b xs zs, x = .ref l ∧ y = .ref b ∧ H l = some (.lst xs) ∧ SqL K H b zs ∧ xs.length + zs.length ≤ sizeLine ∧ Q (.ref l) (upd H l (.lst (xs ++ zs)))
theorem iop_extL : OpR X (inplaceOp .Add) (rExtL X.K) := by
  intro pins s σ H x y v u Q I rx ry h
  obtain ⟨l, b, xs, zs, rfl, rfl, hH, hB, hz, q⟩ := h
  cases rx
  cases ry
  obtain ⟨z, its, n, r, hl, e⟩ := I.lstM hH
  obtain ⟨its2, r2, ⟨⟨cls2, dd2, data2, sl2⟩, n2, e2, hc2, hdn2, hd2⟩, z2⟩ := I.list hB
  simp only at hc2 hdn2 hd2
  subst hc2 hdn2 hd2
  have hl2 := r2.length
  have hsz : its.toArray.size + its2.toArray.size ≤ sizeLine := by rw [List.size_toArray, List.size_toArray]; omega
  have hlong : ¬ (!its.toArray.isEmpty && Builtin.List.listTooLong (its.toArray.size + its2.toArray.size)) = true := by rw [notLongL hsz, Bool.and_false]; exact Bool.false_ne_true
  refine iadd_road ⟨_, e, rfl⟩ ⟨_, e2, rfl⟩ (call_meets PySem.F.slot_list_iadd ⟨_, e, rfl⟩ PySem.F.entry_list_iadd (PySem.F.args_list_iadd_2 _ _) (iadd_meets l b its.toArray its2.toArray n n2 none sl2 hlong (by omega) hsz) ⟨e, e2, ?_⟩)
  exact ⟨.ref l, _, I.lset (its' := its ++ its2) (t' := s.toks) hH e (by simp) (r.append r2) (by rw [List.length_append]; omega), rfl, q⟩
def rIaddA (K : PySem.W.Frag) : R2 := fun x y H Q => rI0 (fun i j => .int (i + j)) x y H Q ∨ rExtL K x y H Q
theorem iop_addA : OpR X (inplaceOp .Add) (rIaddA X.K) := iop_add.or iop_extL
def gIadd : G2 := fun x y M Q => match x, y with
  | .int i, .int j => Q (.int (i + j)) M
  | .loc a, y => (match M a, lstOf M y with
    | some (.lst ds), some es => ds.length + es.length ≤ sizeLine ∧ Q (.loc a) (mset M a (.lst (ds ++ es)))
    | _, _ => False)
  | _, _ => False
theorem o_iadd {K : PySem.W.Frag} : OSim K T (rIaddA K) gIadd := by
  intro hid H M x y v w Q Qv s r1 r2 q p
  unfold gIadd at q
  split at q
  · cases r1; cases r2
    exact .inl ⟨_, _, rfl, rfl, p _ H _ M s (Ext.refl _ _ _) (.int _) q⟩
  · rename_i a
    split at q
    · rename_i ds es e1 e2
      cases r1
      obtain ⟨xs, h4, h5, _⟩ := s.at e1
      obtain ⟨b, ys, rfl, h6, h7⟩ := lstOf_ok s r2 e2
      have l1 := h5.length
      have l2 := h7.length
      exact .inr ⟨a, b, xs, ys, rfl, rfl, h4, h6, by omega, p _ _ _ _ (s.wr e1 (h5.append h7)) (Ext.wr s e1) (.loc a) q.2⟩
    · exact q.elim
  · exact q.elim
def fAug (i : Nat) (g : G2) (f : FE) : FS := fun E ρ M => match ρ[i]? with
  | some (some d) => f (xwAt E ρ) ρ M fun y M1 => g d y M1 fun z M2 => E.nx (ρ.set i (some z)) M2
  | _ => False
theorem ds_aug {i : Nat} {x : Str} {e : Expr} {f : FE} {op : Operator} {r : R2} {g : G2} {pos pos' : Pos} (hN : X.N.Nodup) (hi : X.N[i]? = some x) (hx : Loc X.env.scope x) (ho : OpR X (inplaceOp op) r) (o : OSim X.K T r g) (he : DE X T W e f) (hf : X.fn x = true ∨ X.env.scope.names.lookup x = some .local) :
    DS X T W (.AugAssign (.Name x pos') op e pos) (fAug i g f) := by
  obtain ⟨t, p, sa⟩ := he
  refine ⟨_, ps_aug hN hi hx p ho hf, fun hid σ H ρ M E D r s w q k => ?_⟩
  unfold fAug at q
  split at q
  · rename_i d ed
    obtain ⟨v, h1, h2⟩ := r.2 i d ed
    refine ⟨v, h1, ?_⟩
    refine sa hid σ H ρ M _ _ _ r s (w.at r) q fun u H1 y M1 s1 e1 r1 q1 => ?_
    exact o hid H1 M1 d y v u _ _ s1 (e1.rv _ _ h2) r1 q1 fun z H2 z' M2 s2 e2 r2 q2 => k.nx _ H2 _ M2 ((r.ext (e1.trans e2)).set i r2) s2 (e1.trans e2) q2
  · exact q.elim

/-! ### a list that is written no more -/
def fFrz (i : Nat) (f : FS) : FS := fun E ρ M => match ρ[i]? with
  | some (some (.loc a)) => (match M a with
    | some (.lst ds) => f E (ρ.set i (some (.lst ds))) (mdel M a)
    | _ => False)
  | _ => False
theorem dss_frz {i : Nat} {sts : List Stmt} {f : FS} (h : DSs X T W sts f) : DSs X T W sts (fFrz i f) := by
  obtain ⟨t, p, sa⟩ := h
  refine ⟨t, p, fun hid σ H ρ M E D r s w q k => ?_⟩
  unfold fFrz at q
  split at q
  · rename_i a ea
    split at q
    · rename_i ds em
      obtain ⟨v, h1, h2⟩ := r.2 i _ ea
      cases h2
      obtain ⟨xs, h3, h4, h5⟩ := s.at em
      have e : Ext hid H M H (mdel M a) := Ext.frees (.inr trivial)
      have rl : Rv X.K hid H (mdel M a) (.ref a) (.lst ds) := .lst (.inl ⟨h3, mdel_same, h5⟩) (e.rvs _ _ h4)
      have hs : σ.set i (some (.ref a)) = σ := by
        apply List.ext_getElem?
        intro j
        by_cases z : i = j
        · subst z
          have hlt := (List.getElem?_eq_some_iff.mp h1).1
          rw [List.getElem?_set_self hlt, h1]
        · rw [List.getElem?_set_ne z]
      have r' := (r.ext e).set i rl
      rw [hs] at r'
      exact sa hid σ H _ _ E D r' (s.frees a) (w.ext e) q (k.ext e)
    · exact q.elim
  · exact q.elim

/-! ### loops -/
def forGo (b : BD) (f : FS) : List D → FEnds → Env' → Mu → Prop
  | [], E, ρ, M => E.nx ρ M
  | d :: ds, E, ρ, M => match b d ρ with
    | some ρ2 => f { E with nx := forGo b f ds E, ct := forGo b f ds E, bk := E.nx } ρ2 M
    | none => False
def fFor (fi : FI) (b : BD) (f : FS) : FS := fun E ρ M => fi (xwAt E ρ) ρ M fun ds M1 => forGo b f ds E ρ M1
theorem ds_for {tg iter : Expr} {body : List Stmt} {fi : FI} {b : BD} {f : FS} {vs : List Nat} {pos : Pos} (hp : PassesOwn (model X.prog X.w) X.A X.env X.xe) (hc : X.calm = true) (hi : DI X T W tg iter fi) (hg : DG X T tg b vs) (hb : DSs X T W body f)
    (hs : ∀ x, foldedSetIterable iter X.env x = pure x) : DS X T W (.For tg iter body [] pos) (fFor fi b f) := by
  obtain ⟨wi, pi, si⟩ := hi
  obtain ⟨g, pg, sg⟩ := hg
  obtain ⟨t, pb, sb⟩ := hb
  refine ⟨_, ps_for hp hc pi pg pb hs, fun hid σ H ρ M E D r s w q k => ?_⟩
  refine si hid σ H ρ M _ _ _ r s (w.at r) q fun J H1 M1 ds s1 e1 im q1 => ?_
  refine ⟨fun i m σ2 H2 => ∃ ρ2 M2, m = ds.length - i ∧ i ≤ ds.length ∧ REnv X.K hid H2 M2 σ2 ρ2 ∧ Sto X.K T hid H2 M2 ∧ Ext hid H1 M1 H2 M2 ∧ forGo b f (ds.drop i) E ρ2 M2,
    ⟨ds.length, ρ, M1, by simp, Nat.zero_le _, r.ext e1, s1, Ext.refl _ _ _, q1⟩, ?_⟩
  rintro i m σ2 H2 ⟨ρ2, M2, rfl, hle, r2, s2, e2, q2⟩
  obtain ⟨go, stop⟩ := im hid H2 M2 s2 e2.car
  by_cases hlt : i < ds.length
  · refine .inr ⟨(go i hlt).1, fun σ5 H5 => ∃ ρ5 M5, REnv X.K hid H5 M5 σ5 ρ5 ∧ Sto X.K T hid H5 M5 ∧ Ext hid H1 M1 H5 M5 ∧ forGo b f (ds.drop (i + 1)) E ρ5 M5, ?_, ?_⟩
    · rintro σ5 H5 ⟨ρ5, M5, h1, h2, h3, h4⟩
      exact ⟨ds.length - (i + 1), by omega, ρ5, M5, rfl, hlt, h1, h2, h3, h4⟩
    · intro x H3 hy
      obtain ⟨d, hd, s3, e3, r3⟩ := (go i hlt).2 x H3 hy
      rw [List.drop_eq_getElem_cons hlt] at q2
      have ed : ds[i] = d := by rw [List.getElem?_eq_getElem hlt] at hd; exact Option.some.inj hd
      rw [ed] at q2
      unfold forGo at q2
      split at q2
      · rename_i ρ3 eb
        refine sg hid H3 M2 σ2 ρ2 x d ρ3 _ (r2.ext e3) s3 r3 eb fun σ3 r4 _ => ?_
        have e13 := e2.trans e3
        refine sb hid σ3 H3 ρ3 M2 { E with nx := forGo b f (ds.drop (i + 1)) E, ct := forGo b f (ds.drop (i + 1)) E, bk := E.nx } _ r4 s3 (w.ext (e1.trans e13)) q2 ⟨fun σ5 H5 ρ5 M5 r5 s5 e5 q5 => ?_, k.rt.ext (e1.trans e13), fun σ5 H5 ρ5 M5 r5 s5 e5 q5 => ?_, fun σ5 H5 ρ5 M5 r5 s5 e5 q5 => ?_⟩
        · exact ⟨ρ5, M5, r5, s5, e13.trans e5, q5⟩
        · exact k.nx σ5 H5 ρ5 M5 r5 s5 ((e1.trans e13).trans e5) q5
        · exact ⟨ρ5, M5, r5, s5, e13.trans e5, q5⟩
      · exact q2.elim
  · have ei : i = ds.length := by omega
    subst ei
    rw [List.drop_of_length_le (Nat.le_refl _)] at q2
    exact .inl ⟨stop, k.nx σ2 H2 ρ2 M2 r2 s2 (e1.trans e2) q2⟩
def fWhile (c : FT) (f : FS) : FS := fun E ρ M => ∃ Wn : Nat → Env' → Mu → Prop, (∃ m, Wn m ρ M) ∧ ∀ m ρ M, Wn m ρ M → c (xwAt E ρ) ρ M fun b M1 =>
  if b = true then f { E with nx := fun ρ' M' => ∃ m', m' < m ∧ Wn m' ρ' M', ct := fun ρ' M' => ∃ m', m' < m ∧ Wn m' ρ' M', bk := E.nx } ρ M1 else E.nx ρ M1
theorem ds_while {c : Expr} {body : List Stmt} {fc : FT} {f : FS} {pos : Pos} (hp : PassesOwn (model X.prog X.w) X.A X.env X.xe) (hc : DT X T W c fc) (hb : DSs X T W body f) : DS X T W (.While c body [] pos) (fWhile fc f) := by
  obtain ⟨tc, pc, sc⟩ := hc
  obtain ⟨t, pb, sb⟩ := hb
  refine ⟨_, ps_while hp pc pb, fun hid σ H ρ M E D r s w q k => ?_⟩
  obtain ⟨Wn, ⟨m0, w0⟩, turn⟩ := q
  refine ⟨fun m σ2 H2 => ∃ ρ2 M2, REnv X.K hid H2 M2 σ2 ρ2 ∧ Sto X.K T hid H2 M2 ∧ Ext hid H M H2 M2 ∧ Wn m ρ2 M2, ⟨m0, ρ, M, r, s, Ext.refl _ _ _, w0⟩, ?_⟩
  rintro m σ2 H2 ⟨ρ2, M2, r2, s2, e2, w2⟩
  refine sc hid σ2 H2 ρ2 M2 _ _ _ r2 s2 ((w.ext e2).at r2) (turn m ρ2 M2 w2) fun b H3 M3 s3 e3 q3 => ?_
  have e13 := e2.trans e3
  cases b with
  | true =>
    refine ⟨fun σ5 H5 => ∃ m', m' < m ∧ ∃ ρ5 M5, REnv X.K hid H5 M5 σ5 ρ5 ∧ Sto X.K T hid H5 M5 ∧ Ext hid H M H5 M5 ∧ Wn m' ρ5 M5, ?_, ?_⟩
    · rintro σ5 H5 ⟨m', hm, h⟩
      exact ⟨m', hm, h⟩
    · rw [if_pos rfl] at q3
      refine sb hid σ2 H3 ρ2 M3 { E with nx := fun ρ' M' => ∃ m', m' < m ∧ Wn m' ρ' M', ct := fun ρ' M' => ∃ m', m' < m ∧ Wn m' ρ' M', bk := E.nx } _ (r2.ext e3) s3 (w.ext e13) q3 ⟨fun σ5 H5 ρ5 M5 r5 s5 e5 q5 => ?_, k.rt.ext e13, fun σ5 H5 ρ5 M5 r5 s5 e5 q5 => ?_, fun σ5 H5 ρ5 M5 r5 s5 e5 q5 => ?_⟩
      · obtain ⟨m', hm, h⟩ := q5
        exact ⟨m', hm, ρ5, M5, r5, s5, e13.trans e5, h⟩
      · exact k.nx σ5 H5 ρ5 M5 r5 s5 (e13.trans e5) q5
      · obtain ⟨m', hm, h⟩ := q5
        exact ⟨m', hm, ρ5, M5, r5, s5, e13.trans e5, h⟩
  | false => exact k.nx σ2 H3 ρ2 M3 (r2.ext e3) s3 e13 q3
end
end U

set_option Elab.async false
set_option linter.all false
set_option maxRecDepth 100000
set_option maxHeartbeats 1000000
/-! U8: defs: what they promise, calls, bodies; where one stands. -/
namespace U
open PySem PySem.Spec PyProof.Rows L2

/-! ### methods of lists that are written -/
section
variable {X : Cx} {T : List Addr} {W : WX}
def fAppend (fo : FE) (fa : FA) : FE := fun xw ρ M Q => fo xw ρ M fun o M1 => (match o with
  | .loc a => (match M1 a with
    | some (.lst _) => fa xw ρ M1 fun ds M2 => (match ds with
      | [d] => (match M2 a with
        | some (.lst es) => es.length < sizeLine ∧ Q .non (mset M2 a (.lst (es ++ [d])))
        | _ => False)
      | _ => False)
    | _ => False)
  | _ => False)
theorem de_append {o e : Expr} {fo : FE} {fa : FA} {apos cpos : Pos} (ho : DE X T W o fo) (ha : DA X T W [e] fa) (hbase : attributeBase o "append" X.env (eval o X.env) = eval o X.env)
    (hfew : ((backTo cpos (starEach [e] X.env)).all (fun x => !x.1) && (backToKw cpos (keywordEach [] X.env)).all (fun x => x.1.isSome)
      && decide ([e].length + ([] : List Keyword).length + (if ([] : List Keyword).isEmpty then 0 else 1) < 30)) = true)
    (hline : (apos.endLine == cpos.line) = true) (hs : starEach [e] X.env = (false, eval e X.env) :: starEach [] X.env) (hplain : (backTo cpos (starEach [] X.env)).any (·.1) = false) :
    DE X T W (.Call (.Attribute o "append" apos) [e] [] cpos) (fAppend fo fa) := by
  obtain ⟨to, po, so⟩ := ho
  obtain ⟨ta, pa, sa⟩ := ha
  refine ⟨_, pe_bm PySem.F.plainAttrs_list PySem.F.slot_list_append PySem.F.type_list_append mt_append po pa hbase hfew hline hs hplain, fun hid σ H ρ M xw Q Qv r s w q p => ?_⟩
  refine so hid σ H ρ M xw _ _ r s w q fun v H1 d M1 s1 e1 r1 q1 => ?_
  split at q1
  · rename_i a
    split at q1
    · rename_i ds0 em0
      cases r1
      obtain ⟨xs0, h0, _, _⟩ := s1.at em0
      refine ⟨.inl ⟨rfl, _, SqL.of h0⟩, ?_⟩
      refine sa hid σ H1 ρ M1 xw _ _ (r.ext e1) s1 (w.ext e1) q1 fun vs H2 ds M2 s2 e2 r2 q2 => ?_
      split at q2
      · rename_i d
        split at q2
        · rename_i es em
          cases r2 with
          | cons h r2 =>
            cases r2
            obtain ⟨xs, h4, h5, _⟩ := s2.at em
            have l1 := h5.length
            exact ⟨a, xs, _, rfl, rfl, h4, by rw [l1]; exact q2.1, p _ _ _ _ (s2.wr em (h5.append (.cons h .nil))) ((e1.trans e2).trans (Ext.wr s2 em)) .non q2.2⟩
        · exact q2.elim
      · exact q2.elim
    · exact q1.elim
  · exact q1.elim
/-- o.pop() -/
def fPop (fo : FE) : FE := fun xw ρ M Q => fo xw ρ M fun o M1 => (match o with
  | .loc a => (match M1 a with
    | some (.lst es) => (match es.getLast? with
      | some d => Q d (mset M1 a (.lst es.dropLast))
      | none => False)
    | _ => False)
  | _ => False)
theorem de_pop {o : Expr} {fo : FE} {apos cpos : Pos} (ho : DE X T W o fo) (hbase : attributeBase o "pop" X.env (eval o X.env) = eval o X.env) (hline : (apos.endLine == cpos.line) = true) :
    DE X T W (.Call (.Attribute o "pop" apos) [] [] cpos) (fPop fo) := by
  obtain ⟨to, po, so⟩ := ho
  refine ⟨_, pe_bm0 PySem.F.plainAttrs_list PySem.F.slot_list_pop PySem.F.type_list_pop mt_pop po hbase hline, fun hid σ H ρ M xw Q Qv r s w q p => ?_⟩
  refine so hid σ H ρ M xw _ _ r s w q fun v H1 d M1 s1 e1 r1 q1 => ?_
  split at q1
  · rename_i a
    split at q1
    · rename_i es em
      split at q1
      · rename_i d ed
        cases r1
        obtain ⟨xs, h4, h5, _⟩ := s1.at em
        have l1 := h5.length
        rw [List.getLast?_eq_getElem?] at ed
        obtain ⟨y, h6, h7⟩ := h5.get _ ed
        refine ⟨.inl ⟨rfl, _, SqL.of h4⟩, a, xs, y, rfl, rfl, h4, by rw [l1]; exact h6, ?_⟩
        have ew := Ext.wr (es := es.dropLast) (xs := xs.dropLast) s1 em
        exact p _ _ _ _ (s1.wr em h5.dropLast) (e1.trans ew) (ew.rv _ _ h7) q1
      · exact q1.elim
    · exact q1.elim
  · exact q1.elim
end

/-! ### promises -/
abbrev FSpec := List D → Mu → (D → Mu → Prop) → XW → Prop
def spOf (K : PySem.W.Frag) (T : List Addr) (S : FSpec) : Sp := fun vs H Q E => ∃ hid ds M Qd xw, Sto K T hid H M ∧ Rvs K hid H M vs ds ∧ S ds M Qd xw ∧ Pst K T hid H M Qd Q ∧
  ∀ cls dd H' M' xd, Sto K T hid H' M' → Ext hid H M H' M' → XR K hid H' M' cls dd xd → xw xd M' → E cls dd H'
/-- the module's name x is a def of n parameters that keeps the promise S -/
structure Fn (P : Program) (w : World) (K : PySem.W.Frag) (mg : Str → Option Value) (base : Heap) (T : List Addr) (k : Nat) (x : Str) (S : FSpec) : Prop where
  ex : ∃ f fd ps, mg x = some (.ref f) ∧ PySem.W.keepIn K (.ref f) = true ∧ Binds K fd ps [] ∧ FnOk P w K mg base (L2.CX P w) k f fd ps (spOf K T S)
theorem Fn.mono {P : Program} {w : World} {K : PySem.W.Frag} {mg : Str → Option Value} {base : Heap} {T : List Addr} {j k : Nat} {x : Str} {S : FSpec} (F : Fn P w K mg base T j x S) (h : j ≤ k) : Fn P w K mg base T k x S :=
  let ⟨f, fd, ps, a, b, c, d⟩ := F.ex; ⟨f, fd, ps, a, b, c, d.mono h⟩
theorem Fn.imp {P : Program} {w : World} {K : PySem.W.Frag} {mg : Str → Option Value} {base : Heap} {T : List Addr} {k : Nat} {x : Str} {S S' : FSpec} (F : Fn P w K mg base T k x S) (h : ∀ ds M Q xw, S' ds M Q xw → S ds M Q xw) : Fn P w K mg base T k x S' :=
  let ⟨f, fd, ps, a, b, c, d⟩ := F.ex
  ⟨f, fd, ps, a, b, c, d.imp fun vs H Q E ⟨hid, ds, M, Qd, xw, h1, h2, h3, h4⟩ => ⟨hid, ds, M, Qd, xw, h1, h2, h _ _ _ _ h3, h4⟩⟩
def fCall (S : FSpec) (fa : FA) : FE := fun xw ρ M Q => fa xw ρ M fun ds M1 => S ds M1 Q xw
section
variable {X : Cx} {T : List Addr} {W : WX}
theorem de_call {k : Nat} {x : Str} {S : FSpec} {p pos : Pos} {e : Expr} {es : List Expr} {fa : FA} (F : Fn X.prog X.w X.K X.mg X.base T k x S) (hr : Room k X.A) (tk : Takes X W) (hg : Gl X x) (ha : DA X T W (e :: es) fa) (hdb : (x == ("__debug__" : Str)) = false)
    (he : starEach (e :: es) X.env = (false, eval e X.env) :: starEach es X.env) (hpl : (backTo pos (starEach es X.env)).any (·.1) = false) : DE X T W (.Call (.Name x p) (e :: es) [] pos) (fCall S fa) := by
  obtain ⟨f, fd, ps, hm, hk, hb, G⟩ := F.ex
  obtain ⟨t, pa, sa⟩ := ha
  refine ⟨_, pe_callS G hr hg hm hk hb (fun σ => passAt tk σ) pa hdb he hpl, fun hid σ H ρ M xw Q Qv r s w q p => ?_⟩
  refine sa hid σ H ρ M xw _ _ r s w q fun vs H1 ds M1 s1 e1 r1 q1 => ?_
  exact ⟨hid, ds, M1, Q, xw, s1, r1, q1, p.ext e1, fun cls dd H' M' xd s2 e2 x2 q2 => w cls dd H' M' xd s2 (e1.trans e2) x2 q2⟩
end

/-! ### where one stands -/
structure Std (P : Program) (w : World) (K : PySem.W.Frag) (mg : Str → Option Value) (base : Heap) (N : List Str) (sc : Scope) (fn : Str → Bool) (k : Nat) (W : WX) (X : Cx) : Prop where
  eP : X.prog = P
  ew : X.w = w
  eK : X.K = K
  em : X.mg = mg
  eb : X.base = base
  eN : X.N = N
  nd : N.Nodup
  es : X.env.scope = sc
  fn : ∀ x, fn x = true → X.fn x = true
  calm : X.calm = true
  takes : Takes X W
  pass : PassesOwn (model X.prog X.w) X.A X.env X.xe
  room : Room k X.A
section
variable {P : Program} {w : World} {K : PySem.W.Frag} {mg : Str → Option Value} {base : Heap} {N ps : List Str} {sc : Scope} {fn : Str → Bool} {k : Nat} {W : WX} {X : Cx} {T : List Addr}
theorem Std.blk (g : Std P w K mg base N sc fn k W X) (s : Shared) (H : Hp) (scope : Scope) (C : Addr) (cl : List (Str × Addr)) (fp : List Addr) :
    Std P w K mg base N (relS scope sc) (fun x => scope.names.lookup x == some .cell) k WF (X.blk s H scope (compEnvC scope cl C X.env) fp) :=
  ⟨g.eP, g.ew, g.eK, g.em, g.eb, g.eN, g.nd, by rw [← g.es]; rfl, fun _ h => h, g.calm, takes0, PassesOwn.never, g.room⟩
/-- the data of a def's body -/
def startD (N : List Str) (ds : List D) : Env' := ds.map some ++ List.replicate (N.length - ds.length) none
def bodyE (N : List Str) (f : FS) (ds : List D) (M : Mu) (Q : D → Mu → Prop) (xw : XW) : Prop :=
  f { nx := fun _ M' => Q .non (mres M' M), rt := fun d M' => Q d (mres M' M), xw := fun xd _ M' => xw xd (mres M' M) } (startD N ds) M
theorem Ext.res {hid : List Addr} {H : Hp} {M M' : Mu} : Ext hid H M' H (mres M' M) := Ext.less fun a h => by unfold mres; split <;> first | rfl | exact h
theorem Sto.res {hid : List Addr} {H : Hp} {M M' : Mu} (s : Sto K T hid H M') : Sto K T hid H (mres M' M) := by
  have e : Ext hid H M' H (mres M' M) := Ext.res
  refine ⟨fun a m h => ?_, s.tab, fun a ha => ?_⟩
  · have h' : M' a = some m := by
      unfold mres at h
      split at h
      · cases h
      · exact h
    exact (s.mem a m h').ext e rfl
  · obtain ⟨h1, h2⟩ := s.hidn a ha
    exact ⟨by unfold mres; split <;> first | rfl | exact h1, h2⟩
theorem XR.ext {hid : List Addr} {H H' : Hp} {M M' : Mu} {cls : Value} {dd : Option Addr} {xd : XD} (e : Ext hid H M H' M') (hh : H' = H) (x : XR K hid H M cls dd xd) : XR K hid H' M' cls dd xd := by
  subst hh
  obtain ⟨h1, h2⟩ := x
  refine ⟨h1, ?_⟩
  rcases h2 with h2 | ⟨d, fvs, a, b, c, r⟩
  · exact .inl h2
  · exact .inr ⟨d, fvs, a, b, c, e.rvs _ _ r⟩
/-- THE RULE for a def -/
theorem fn_okF {x qual : Str} {params : Arguments} {body : List Stmt} {f : Addr} {fd : FuncData} {S : FSpec} {fs : FS} (F : FunD K x qual params body sc [] [] f fd) (sco : FnScope N ps sc)
    (har : ∀ ds M Q xw, S ds M Q xw → ds.length = ps.length)
    (hd : ∀ X W, Std P w K mg base N sc (fun _ => true) k W X → DSs X T W body fs)
    (hs : ∀ ds M Q xw, S ds M Q xw → bodyE N fs ds M Q xw) : FnOk P w K mg base (L2.CX P w) (k + 1) f fd ps (spOf K T S) := by
  refine F.ok sco (fun vs H Q E h => ?_) fun cdv A outer s H vs Q E hr h => ?_
  · obtain ⟨hid, ds, M, Qd, xw, s, r, q, _⟩ := h
    rw [r.length]
    exact har ds M Qd xw q
  · obtain ⟨hid, ds, M, Qd, xw, st, r, q, po, px⟩ := h
    have hl : vs.length = ds.length := r.length
    have g : Std P w K mg base N sc (fun _ => true) k (fun cls d _ H' => E cls d H') (cxOf (L2.CX P w) P w K mg base N qual sc f cdv A outer s H E) :=
      ⟨rfl, rfl, rfl, rfl, rfl, rfl, sco.nd, rfl, fun _ _ => rfl, rfl, takes_of rfl rfl rfl rfl, passes_of rfl, hr⟩
    obtain ⟨t, p, sim⟩ := hd _ _ g
    refine ⟨t, p, sim hid _ H (startD N ds) M { nx := fun _ M' => Qd .non (mres M' M), rt := fun d M' => Qd d (mres M' M), xw := fun xd _ M' => xw xd (mres M' M) } _ ⟨?_, fun i d hi => ?_⟩ st (fun cls dd σ' H' ρ' M' xd r' s' e' x' q' => ?_) (hs ds M Qd xw q) ⟨?_, ?_, fun _ _ _ _ _ _ _ z => z, fun _ _ _ _ _ _ _ z => z⟩⟩
    · unfold startD L2.start
      rw [List.length_append, List.length_append, List.length_map, List.length_map, List.length_replicate, List.length_replicate, hl]
    · unfold startD at hi
      have hi' : i < ds.length := by
        by_cases h : i < ds.length
        · exact h
        · rw [List.getElem?_append_right (by simpa using h), List.getElem?_replicate] at hi
          split at hi <;> cases hi
      rw [List.getElem?_append_left (by simpa using hi'), List.getElem?_map] at hi
      have hd' : ds[i]? = some d := by
        cases e : ds[i]? with
        | none => rw [e] at hi; cases hi
        | some a => rw [e] at hi; cases hi; rfl
      obtain ⟨v, h1, h2⟩ := r.get i hd'
      refine ⟨v, ?_, h2⟩
      unfold L2.start
      rw [List.getElem?_append_left (by rw [List.length_map]; omega), List.getElem?_map, h1]
      rfl
    · exact px cls dd H' (mres M' M) xd s'.res (e'.trans Ext.res) (x'.ext Ext.res rfl) q'
    · intro σ' H' ρ' M' r' s' e' q'
      exact po _ H' _ (mres M' M) s'.res (e'.trans Ext.res) .non q'
    · intro v H' d M' s' e' r' q'
      exact po v H' d (mres M' M) s'.res (e'.trans Ext.res) ((Ext.res (M := M)).rv _ _ r') q'
theorem fn_ok {x qual : Str} {params : Arguments} {body : List Stmt} {f : Addr} {fd : FuncData} {S : FSpec} {fs : FS} {nm : Str} (F : FunD K x qual params body sc [] [] f fd) (hm : mg nm = some (.ref f)) (sco : FnScope N ps sc) (hb : Binds K fd ps [])
    (har : ∀ ds M Q xw, S ds M Q xw → ds.length = ps.length)
    (hd : ∀ X W, Std P w K mg base N sc (fun _ => true) k W X → DSs X T W body fs)
    (hs : ∀ ds M Q xw, S ds M Q xw → bodyE N fs ds M Q xw) : Fn P w K mg base T (k + 1) nm S := ⟨f, fd, ps, hm, F.kp, hb, fn_okF F sco har hd hs⟩
end
end U

set_option Elab.async false
set_option linter.all false
set_option maxRecDepth 100000
set_option maxHeartbeats 1000000
/-! U9: the rules as they are printed: n_ for an expression, t_ for a test, s_ for a statement. -/
namespace U
open PySem PySem.Spec PyProof.Rows L2
/-- the built-in names that no module of the program binds -/
structure Fr (mg : Str → Option Value) : Prop where
  len : mg "len" = none
  int : mg "int" = none
  list : mg "list" = none
  tuple : mg "tuple" = none
  range : mg "range" = none
  zip : mg "zip" = none
  enumerate : mg "enumerate" = none
  reversed : mg "reversed" = none
  any : mg "any" = none
  all : mg "all" = none
  sum : mg "sum" = none
  sorted : mg "sorted" = none
  set : mg "set" = none
  max : mg "max" = none
  min : mg "min" = none
  isinstance : mg "isinstance" = none
  bool : mg "bool" = none
  str : mg "str" = none
  dict : mg "dict" = none
def frNames : List Str := ["len", "int", "list", "tuple", "range", "zip", "enumerate", "reversed", "any", "all", "sum", "sorted", "set", "max", "min", "isinstance", "bool", "str", "dict"]
theorem Fr.of {mg : Str → Option Value} (h : ∀ x ∈ frNames, mg x = none) : Fr mg := by
  constructor <;> exact h _ (by simp [frNames])

/-- a op b op' c -/
def fChain (g g' : G2) (fa fb fc : FE) : FE := fun xw ρ M Q => fa xw ρ M fun x M1 => fb xw ρ M1 fun y M2 => g x y M2 fun z M3 => match z with
  | .bl k => if k = true then fc xw ρ M3 fun u M4 => g' y u M4 Q else Q (.bl false) M3
  | _ => False
theorem sim_chain {K : PySem.W.Frag} {T : List Addr} {W : WX} {r r' : R2} {g g' : G2} {ta tb tc : TE} {fa fb fc : FE} (o : OSim K T r g) (o' : OSim K T r' g') (a : ESim K T W ta fa) (b : ESim K T W tb fb) (c : ESim K T W tc fc) : ESim K T W (tChain r r' ta tb tc) (fChain g g' fa fb fc) := by
  intro hid σ H ρ M xw Q Qv r s w q p
  refine a hid σ H ρ M xw _ _ r s w q fun v H1 d M1 s1 e1 r1 q1 => ?_
  refine b hid σ H1 ρ M1 xw _ _ (r.ext e1) s1 (w.ext e1) q1 fun u H2 d2 M2 s2 e2 r2 q2 => ?_
  have e12 := e1.trans e2
  refine o hid H2 M2 d d2 v u _ _ s2 (e2.rv _ _ r1) r2 q2 fun z H3 d3 M3 s3 e3 r3 q3 => ?_
  have e13 := e12.trans e3
  cases d3 with
  | bl k =>
    cases r3
    refine ⟨k, rfl, ?_⟩
    cases k with
    | false => exact p _ H3 _ M3 s3 e13 (.bl false) q3
    | true =>
      refine c hid σ H3 ρ M3 xw _ _ (r.ext e13) s3 (w.ext e13) q3 fun u4 H4 d4 M4 s4 e4 r4 q4 => ?_
      exact o' hid H4 M4 d2 d4 u u4 Q Qv s4 ((e3.trans e4).rv _ _ r2) r4 q4 (p.ext (e13.trans e4))
  | _ => exact (show False from q3).elim
section
variable {X : Cx} {T : List Addr} {W : WX}
theorem de_chain {op op' : CmpOp} {r r' : R2} {g g' : G2} {a b c : Expr} {fa fb fc : FE} {pos : Pos} (ho : OpR X (compareOp op) r) (ho' : OpR X (compareOp op') r') (o : OSim X.K T r g) (o' : OSim X.K T r' g') (ha : DE X T W a fa) (hb : DE X T W b fb) (hc : DE X T W c fc)
    (hm : lastMarks [op, op'] [b, c] = false) : DE X T W (.Compare a [op, op'] [b, c] pos) (fChain g g' fa fb fc) := by
  obtain ⟨ta, pa, sa⟩ := ha
  obtain ⟨tb, pb, sb⟩ := hb
  obtain ⟨tc, pc, sc⟩ := hc
  exact ⟨_, pe_chain ho ho' pa pb pc hm, sim_chain o o' sa sb sc⟩
theorem dt_chain {op op' : CmpOp} {r r' : R2} {g g' : G2} {a b c : Expr} {fa fb fc : FE} {pos : Pos} (ho : OpR X (compareOp op) r) (ho' : OpR X (compareOp op') r') (o : OSim X.K T r g) (o' : OSim X.K T r' g') (ha : DE X T W a fa) (hb : DE X T W b fb) (hc : DE X T W c fc)
    (hm : lastMarks [op, op'] [b, c] = false) : DT X T W (.Compare a [op, op'] [b, c] pos) (fB (fChain g g' fa fb fc)) := by
  obtain ⟨ta, pa, sa⟩ := ha
  obtain ⟨tb, pb, sb⟩ := hb
  obtain ⟨tc, pc, sc⟩ := hc
  exact ⟨_, pt_chain ho ho' pa pb pc hm, simT_of (sim_chain o o' sa sb sc)⟩
end

section
variable {P : Program} {w : World} {K : PySem.W.Frag} {mg : Str → Option Value} {base : Heap} {N : List Str} {sc : Scope} {fn : Str → Bool} {k : Nat} {W : WX} {X : Cx} {T : List Addr}
variable (g : Std P w K mg base N sc fn k W X)
include g
theorem Std.gl {x : Str} (h : sc.names.lookup x = some .globalImplicit) : Gl X x := by unfold Gl Env.kindOf; rw [g.es]; exact h
theorem Std.none {x : Str} (h : mg x = Option.none) : X.mg x = Option.none := by rw [g.em]; exact h
theorem Std.hu : X.A.units + 64 < cLine := g.room.units
theorem Std.hu65 : X.A.units + 65 < cLine := by have := g.room.un; omega
theorem n_nm (i : Nat) {x : Str} {pos : Pos} (hN : N[i]? = some x := by rfl) (hv : Vis sc x := by first | exact Or.inl rfl | exact Or.inr (Or.inl rfl) | exact Or.inr (Or.inr rfl)) (hd : (x == ("__debug__" : Str)) = false := by decide +kernel) (hcd : (x == ("__classdict__" : Str)) = false := by decide +kernel) : DE X T W (.Name x pos) (fNm i) :=
  de_nm i (by rw [g.eN]; exact hN) (by rw [g.es]; exact hv) hd hcd
theorem n_gint {i : Int} {t : Tok} {x : Str} {pos : Pos} (hm : mg x = some (.int i t)) (hg : sc.names.lookup x = some .globalImplicit := by rfl) (hd : (x == ("__debug__" : Str)) = false := by decide +kernel) : DE X T W (.Name x pos) (fC (.int i)) :=
  de_gint (g.gl hg) (by rw [g.em]; exact hm) hd
theorem n_tyv {n : String} {x : Str} {pos : Pos} (hm : mg x = none) (hv : bootBuiltins x = some (.type n)) (hg : sc.names.lookup x = some .globalImplicit := by rfl) (hn : x ≠ "__name__" := by decide +kernel) (hd : (x == ("__debug__" : Str)) = false := by decide +kernel) : DE X T W (.Name x pos) (fC (.ty n)) :=
  de_tyv (g.gl hg) (g.none hm) hv hn hd
variable {a b c : Expr} {fa fb fc : FE} {pos : Pos}
theorem n_add (ha : DE X T W a fa) (hb : DE X T W b fb) : DE X T W (.BinOp a .Add b pos) (fOp gAdd fa fb) := de_bin op_addA o_add ha hb
theorem n_sub (ha : DE X T W a fa) (hb : DE X T W b fb) : DE X T W (.BinOp a .Sub b pos) (fOp gSub fa fb) := de_bin op_sub o_sub ha hb
theorem n_mul (ha : DE X T W a fa) (hb : DE X T W b fb) : DE X T W (.BinOp a .Mult b pos) (fOp gMul fa fb) := de_bin op_mulA o_mul ha hb
theorem n_fdiv (ha : DE X T W a fa) (hb : DE X T W b fb) : DE X T W (.BinOp a .FloorDiv b pos) (fOp gFdiv fa fb) := de_bin op_fdivW o_fdiv ha hb
theorem n_mod (ha : DE X T W a fa) (hb : DE X T W b fb) : DE X T W (.BinOp a .Mod b pos) (fOp gMod fa fb) := de_bin op_mod o_mod ha hb
theorem n_pow (ha : DE X T W a fa) (hb : DE X T W b fb) : DE X T W (.BinOp a .Pow b pos) (fOp gPow fa fb) := de_bin op_pow o_pow ha hb
theorem n_neg (ha : DE X T W a fa) : DE X T W (.UnaryOp .USub a pos) (fNeg fa) := de_neg ha
theorem n_eq (ha : DE X T W a fa) (hb : DE X T W b fb) : DE X T W (.Compare a [.Eq] [b] pos) (fOp gEq fa fb) := de_cmp (op_eqD g.hu) o_eq (nomark _) ha hb
theorem n_ne (ha : DE X T W a fa) (hb : DE X T W b fb) : DE X T W (.Compare a [.NotEq] [b] pos) (fOp gNe fa fb) := de_cmp (op_neD g.hu) o_ne (nomark _) ha hb
theorem n_lt (ha : DE X T W a fa) (hb : DE X T W b fb) : DE X T W (.Compare a [.Lt] [b] pos) (fOp gLt fa fb) := de_cmp op_lt o_lt (nomark _) ha hb
theorem n_le (ha : DE X T W a fa) (hb : DE X T W b fb) : DE X T W (.Compare a [.LtE] [b] pos) (fOp gLe fa fb) := de_cmp op_le o_le (nomark _) ha hb
theorem n_gt (ha : DE X T W a fa) (hb : DE X T W b fb) : DE X T W (.Compare a [.Gt] [b] pos) (fOp gGt fa fb) := de_cmp op_gt o_gt (nomark _) ha hb
theorem n_ge (ha : DE X T W a fa) (hb : DE X T W b fb) : DE X T W (.Compare a [.GtE] [b] pos) (fOp gGe fa fb) := de_cmp op_ge o_ge (nomark _) ha hb
theorem n_is (ha : DE X T W a fa) (hb : DE X T W b fb) : DE X T W (.Compare a [.Is] [b] pos) (fOp gIs fa fb) := de_cmp op_isA o_is (nomark _) ha hb
theorem n_isNot (ha : DE X T W a fa) (hb : DE X T W b fb) : DE X T W (.Compare a [.IsNot] [b] pos) (fOp gIsNot fa fb) := de_cmp op_notA o_isNot (nomark _) ha hb
theorem n_in (ha : DE X T W a fa) (hb : DE X T W b fb) (hm : behindInMarks .In b = false := by rfl) : DE X T W (.Compare a [.In] [b] pos) (fOp gIn fa fb) := de_cmp (op_inA g.hu65) o_in hm ha hb
theorem n_notIn (ha : DE X T W a fa) (hb : DE X T W b fb) (hm : behindInMarks .NotIn b = false := by rfl) : DE X T W (.Compare a [.NotIn] [b] pos) (fOp gNotIn fa fb) := de_cmp (op_notInA g.hu65) o_notIn hm ha hb
theorem t_eq (ha : DE X T W a fa) (hb : DE X T W b fb) : DT X T W (.Compare a [.Eq] [b] pos) (fB (fOp gEq fa fb)) := dt_cmp (op_eqD g.hu) o_eq (nomark _) ha hb
theorem t_ne (ha : DE X T W a fa) (hb : DE X T W b fb) : DT X T W (.Compare a [.NotEq] [b] pos) (fB (fOp gNe fa fb)) := dt_cmp (op_neD g.hu) o_ne (nomark _) ha hb
theorem t_lt (ha : DE X T W a fa) (hb : DE X T W b fb) : DT X T W (.Compare a [.Lt] [b] pos) (fB (fOp gLt fa fb)) := dt_cmp op_lt o_lt (nomark _) ha hb
theorem t_le (ha : DE X T W a fa) (hb : DE X T W b fb) : DT X T W (.Compare a [.LtE] [b] pos) (fB (fOp gLe fa fb)) := dt_cmp op_le o_le (nomark _) ha hb
theorem t_gt (ha : DE X T W a fa) (hb : DE X T W b fb) : DT X T W (.Compare a [.Gt] [b] pos) (fB (fOp gGt fa fb)) := dt_cmp op_gt o_gt (nomark _) ha hb
theorem t_ge (ha : DE X T W a fa) (hb : DE X T W b fb) : DT X T W (.Compare a [.GtE] [b] pos) (fB (fOp gGe fa fb)) := dt_cmp op_ge o_ge (nomark _) ha hb
theorem t_is (ha : DE X T W a fa) (hb : DE X T W b fb) : DT X T W (.Compare a [.Is] [b] pos) (fB (fOp gIs fa fb)) := dt_cmp op_isA o_is (nomark _) ha hb
theorem t_isNot (ha : DE X T W a fa) (hb : DE X T W b fb) : DT X T W (.Compare a [.IsNot] [b] pos) (fB (fOp gIsNot fa fb)) := dt_cmp op_notA o_isNot (nomark _) ha hb
theorem t_in (ha : DE X T W a fa) (hb : DE X T W b fb) (hm : behindInMarks .In b = false := by rfl) : DT X T W (.Compare a [.In] [b] pos) (fB (fOp gIn fa fb)) := dt_cmp (op_inA g.hu65) o_in hm ha hb
theorem t_notIn (ha : DE X T W a fa) (hb : DE X T W b fb) (hm : behindInMarks .NotIn b = false := by rfl) : DT X T W (.Compare a [.NotIn] [b] pos) (fB (fOp gNotIn fa fb)) := dt_cmp (op_notInA g.hu65) o_notIn hm ha hb
theorem n_leLt (ha : DE X T W a fa) (hb : DE X T W b fb) (hc : DE X T W c fc) (hm : lastMarks [.LtE, .Lt] [b, c] = false := by with_unfolding_all rfl) : DE X T W (.Compare a [.LtE, .Lt] [b, c] pos) (fChain gLe gLt fa fb fc) := de_chain op_le op_lt o_le o_lt ha hb hc hm
theorem n_leLe (ha : DE X T W a fa) (hb : DE X T W b fb) (hc : DE X T W c fc) (hm : lastMarks [.LtE, .LtE] [b, c] = false := by with_unfolding_all rfl) : DE X T W (.Compare a [.LtE, .LtE] [b, c] pos) (fChain gLe gLe fa fb fc) := de_chain op_le op_le o_le o_le ha hb hc hm
theorem t_leLt (ha : DE X T W a fa) (hb : DE X T W b fb) (hc : DE X T W c fc) (hm : lastMarks [.LtE, .Lt] [b, c] = false := by with_unfolding_all rfl) : DT X T W (.Compare a [.LtE, .Lt] [b, c] pos) (fB (fChain gLe gLt fa fb fc)) := dt_chain op_le op_lt o_le o_lt ha hb hc hm
theorem t_leLe (ha : DE X T W a fa) (hb : DE X T W b fb) (hc : DE X T W c fc) (hm : lastMarks [.LtE, .LtE] [b, c] = false := by with_unfolding_all rfl) : DT X T W (.Compare a [.LtE, .LtE] [b, c] pos) (fB (fChain gLe gLe fa fb fc)) := dt_chain op_le op_le o_le o_le ha hb hc hm
theorem t_tr {e : Expr} {f : FE} (h : DE X T W e f) (he : ∀ whole, isTrue e X.env whole = (do let v ← whole; standAt e.pos; holding [v] (truthy v)) := by intro _; rfl) : DT X T W e (fTr f) := dt_tr h he
theorem n_ix (ha : DE X T W a fa) (hb : DE X T W b fb) (hs : PlainIx b := by exact fun _ _ => rfl) : DE X T W (.Subscript a b pos) (fOp gIx fa fb) := de_ix ix_seq o_ix hs ha hb
theorem l_cons {e : Expr} {es : List Expr} {f : FE} {h : FA} (h1 : DE X T W e f) (h2 : DA X T W es h) (hs : starEach (e :: es) X.env = (false, eval e X.env) :: starEach es X.env := by rfl) : DA X T W (e :: es) (fCons f h) := da_cons h1 h2 hs
theorem n_tup {es : List Expr} {j : Nat} {h : FA} (h1 : DA X T W es h) : DE X T W (.Tuple es j pos) (fTup h) := de_tup h1
theorem n_lst {es : List Expr} {h : FA} (h1 : DA X T W es h) : DL X T W (.List es pos) (fLstL h) := dl_lst h1
theorem n_cat (ha : DE X T W a fa) (hb : DE X T W b fb) : DL X T W (.BinOp a .Add b pos) (fCatL fa fb) := dl_cat ha hb
variable {p : Pos} {e : Expr} {es : List Expr} {fs : FA}
theorem n_len {p : Pos} {fs : FA} (F : Fr mg) (ha : DA X T W [e] fs) (hg : sc.names.lookup ("len" : Str) = some .globalImplicit := by rfl) (he : starEach [e] X.env = (false, eval e X.env) :: starEach [] X.env := by rfl) : DE X T W (.Call (.Name "len" p) [e] [] pos) (fCB gLen fs) :=
  de_callB call_len c_len (g.gl hg) (g.none F.len) boot_len ha (by decide +kernel) (by decide +kernel) he rfl
theorem n_int1 {p : Pos} {fs : FA} (F : Fr mg) (ha : DA X T W [e] fs) (hg : sc.names.lookup ("int" : Str) = some .globalImplicit := by rfl) (he : starEach [e] X.env = (false, eval e X.env) :: starEach [] X.env := by rfl) : DE X T W (.Call (.Name "int" p) [e] [] pos) (fCB gInt fs) :=
  de_callTy call_int1 c_int (g.gl hg) (g.none F.int) boot_int ha (by decide +kernel) (by decide +kernel) he rfl
theorem n_tuple {p : Pos} {fs : FA} (F : Fr mg) (ha : DA X T W [e] fs) (hg : sc.names.lookup ("tuple" : Str) = some .globalImplicit := by rfl) (he : starEach [e] X.env = (false, eval e X.env) :: starEach [] X.env := by rfl) : DE X T W (.Call (.Name "tuple" p) [e] [] pos) (fCB gTuple fs) :=
  de_callTy call_tuple_of c_tuple (g.gl hg) (g.none F.tuple) boot_tuple ha (by decide +kernel) (by decide +kernel) he rfl
theorem n_list {p : Pos} {fs : FA} (F : Fr mg) (ha : DA X T W [e] fs) (hg : sc.names.lookup ("list" : Str) = some .globalImplicit := by rfl) (he : starEach [e] X.env = (false, eval e X.env) :: starEach [] X.env := by rfl) : DL X T W (.Call (.Name "list" p) [e] [] pos) (fListL fs) :=
  dl_list (g.gl hg) (g.none F.list) boot_list ha (by decide +kernel) (by decide +kernel) he rfl
theorem n_max {e2 : Expr} {p : Pos} {fs : FA} (F : Fr mg) (ha : DA X T W [e, e2] fs) (hg : sc.names.lookup ("max" : Str) = some .globalImplicit := by rfl) (he : starEach [e, e2] X.env = (false, eval e X.env) :: starEach [e2] X.env := by rfl) (hpl : (backTo pos (starEach [e2] X.env)).any (·.1) = false := by rfl) : DE X T W (.Call (.Name "max" p) [e, e2] [] pos) (fCB gMax fs) :=
  de_callB (call_max2 g.calm) c_max (g.gl hg) (g.none F.max) boot_max ha (by decide +kernel) (by decide +kernel) he hpl
theorem n_min {e2 : Expr} {p : Pos} {fs : FA} (F : Fr mg) (ha : DA X T W [e, e2] fs) (hg : sc.names.lookup ("min" : Str) = some .globalImplicit := by rfl) (he : starEach [e, e2] X.env = (false, eval e X.env) :: starEach [e2] X.env := by rfl) (hpl : (backTo pos (starEach [e2] X.env)).any (·.1) = false := by rfl) : DE X T W (.Call (.Name "min" p) [e, e2] [] pos) (fCB gMin fs) :=
  de_callB (call_min2 g.calm) c_min (g.gl hg) (g.none F.min) boot_min ha (by decide +kernel) (by decide +kernel) he hpl
theorem n_isBool {e2 : Expr} {p : Pos} {fs : FA} (F : Fr mg) (ha : DA X T W [e, e2] fs) (hg : sc.names.lookup ("isinstance" : Str) = some .globalImplicit := by rfl) (he : starEach [e, e2] X.env = (false, eval e X.env) :: starEach [e2] X.env := by rfl) (hpl : (backTo pos (starEach [e2] X.env)).any (·.1) = false := by rfl) : DE X T W (.Call (.Name "isinstance" p) [e, e2] [] pos) (fCB gIsBool fs) :=
  de_callB call_isi c_isBool (g.gl hg) (g.none F.isinstance) boot_isinstance ha (by decide +kernel) (by decide +kernel) he hpl
theorem n_call {x : Str} {S : FSpec} {p : Pos} {fs : FA} (F : Fn P w K mg base T k x S) (ha : DA X T W (e :: es) fs) (hg : sc.names.lookup x = some .globalImplicit := by rfl) (hdb : (x == ("__debug__" : Str)) = false := by decide +kernel)
    (he : starEach (e :: es) X.env = (false, eval e X.env) :: starEach es X.env := by rfl) (hpl : (backTo pos (starEach es X.env)).any (·.1) = false := by rfl) : DE X T W (.Call (.Name x p) (e :: es) [] pos) (fCall S fs) := by
  refine de_call (k := k) ?_ g.room g.takes (g.gl hg) ha hdb he hpl
  rw [g.eP, g.ew, g.eK, g.em, g.eb]
  exact F
theorem n_append {o : Expr} {fo : FE} {apos : Pos} {fs : FA} (ho : DE X T W o fo) (ha : DA X T W [e] fs) (hbase : attributeBase o "append" X.env (eval o X.env) = eval o X.env := by rfl)
    (hfew : ((backTo pos (starEach [e] X.env)).all (fun x => !x.1) && (backToKw pos (keywordEach [] X.env)).all (fun x => x.1.isSome)
      && decide ([e].length + ([] : List Keyword).length + (if ([] : List Keyword).isEmpty then 0 else 1) < 30)) = true := by rfl)
    (hline : (apos.endLine == pos.line) = true := by rfl) (hs : starEach [e] X.env = (false, eval e X.env) :: starEach [] X.env := by rfl) :
    DE X T W (.Call (.Attribute o "append" apos) [e] [] pos) (fAppend fo fs) := de_append ho ha hbase hfew hline hs rfl
theorem n_pop {o : Expr} {fo : FE} {apos : Pos} (ho : DE X T W o fo) (hbase : attributeBase o "pop" X.env (eval o X.env) = eval o X.env := by rfl) (hline : (apos.endLine == pos.line) = true := by rfl) : DE X T W (.Call (.Attribute o "pop" apos) [] [] pos) (fPop fo) := de_pop ho hbase hline
/-! targets, walks -/
theorem g_nm {vs : List Nat} (i : Nat) {x : Str} (hN : N[i]? = some x := by rfl) (hx : Loc sc x := by first | exact Or.inl rfl | exact Or.inr rfl) (hf : fn x = true ∨ sc.names.lookup x = some .local := by first | exact .inr rfl | exact .inl rfl) (hv : i ∈ vs := by decide) : DG X T (.Name x pos) (bNm i) vs :=
  dg_nm (by rw [g.eN]; exact g.nd) (by rw [g.eN]; exact hN) (by rw [g.es]; exact hx) (hf.elim (fun h => .inl (g.fn x h)) fun h => .inr (by rw [g.es]; exact h)) hv
theorem g_cons {vs : List Nat} {es : List Expr} {b : BD} {bs : BL} (h1 : DG X T e b vs) (h2 : DGs X T es bs vs) (hs : (assignEach (e :: es) X.env).map (·.2) = assign e X.env :: (assignEach es X.env).map (·.2) := by rfl) : DGs X T (e :: es) (bCons b bs) vs := dgs_cons h1 h2 hs
theorem g_tup {vs : List Nat} {es : List Expr} {j n : Nat} {bs : BL} (h : DGs X T es bs vs) (hn : (assignEach es X.env).length = n := by rfl) (hst : (assignEach es X.env).findIdx? (·.1) = none := by rfl) : DG X T (.Tuple es j pos) (bTup n bs) vs := dg_tup g.calm h hn hst
theorem i_rng1 {tg : Expr} {p : Pos} {fs : FA} (F : Fr mg) (ha : DA X T W [a] fs) (hg : sc.names.lookup ("range" : Str) = some .globalImplicit := by rfl) (hs : starEach [a] X.env = [(false, eval a X.env)] := by rfl) : DI X T W tg (.Call (.Name "range" p) [a] [] pos) (fRng1 fs) := di_rng1 (g.gl hg) (g.none F.range) ha hs
theorem i_rng2 {tg : Expr} {p : Pos} {fs : FA} (F : Fr mg) (ha : DA X T W [a, b] fs) (hg : sc.names.lookup ("range" : Str) = some .globalImplicit := by rfl) (hs : starEach [a, b] X.env = [(false, eval a X.env), (false, eval b X.env)] := by rfl) (hs2 : starEach [b] X.env = [(false, eval b X.env)] := by rfl) : DI X T W tg (.Call (.Name "range" p) [a, b] [] pos) (fRng2 fs) := di_rng2 (g.gl hg) (g.none F.range) ha hs hs2
/-! comprehensions -/
theorem n_lc {elt tg iter : Expr} {ifs : List Expr} {scope : Scope} (own : List (Str × Nat)) {fi : FI} {b : BD} {ft : FT} {fe : FE} (hi : DI X T W tg iter fi) (ok : blkC N sc scope own = true)
    (h : ∀ X', Std P w K mg base N (relS scope sc) (fun x => scope.names.lookup x == some .cell) k WF X' → DG X' T tg b (own.map (·.2)) ∧ DTs X' T WF ifs ft ∧ DE X' T WF elt fe)
    (hs : ∀ x, foldedSetIterable iter X.env x = pure x := by intro _; rfl) : DL X T W (.ListComp elt [⟨tg, iter, ifs, 0⟩] scope pos) (fLc fi b ft fe (own.map (·.2))) :=
  dl_lc g.calm (by rw [g.eN]; exact g.nd) hi (blkOk_by (by rw [g.eN, g.es]; exact ok)) (fun s H C cl fp => h _ (g.blk s H scope C cl fp)) hs
/-! statements -/
theorem s_set {i : Nat} {x : Str} {f : FE} {pos' : Pos} (he : DE X T W e f) (hN : N[i]? = some x := by rfl) (hx : Loc sc x := by first | exact Or.inl rfl | exact Or.inr rfl) (hs : swapsWith e (some (.Name x pos')) pos.line X.env = pure false := by rfl) (hf : fn x = true ∨ sc.names.lookup x = some .local := by first | exact .inr rfl | exact .inl rfl) :
    DS X T W (.Assign [.Name x pos'] e pos) (fSet i f) :=
  ds_set (by rw [g.eN]; exact g.nd) (by rw [g.eN]; exact hN) (by rw [g.es]; exact hx) he hs (hf.elim (fun h => .inl (g.fn x h)) fun h => .inr (by rw [g.es]; exact h))
theorem s_own {i : Nat} {x : Str} {f : FL} {pos' : Pos} (he : DL X T W e f) (hN : N[i]? = some x := by rfl) (hx : Loc sc x := by first | exact Or.inl rfl | exact Or.inr rfl) (hs : swapsWith e (some (.Name x pos')) pos.line X.env = pure false := by rfl) (hf : fn x = true ∨ sc.names.lookup x = some .local := by first | exact .inr rfl | exact .inl rfl) :
    DS X T W (.Assign [.Name x pos'] e pos) (fOwn i f) :=
  ds_own (by rw [g.eN]; exact g.nd) (by rw [g.eN]; exact hN) (by rw [g.es]; exact hx) he hs (hf.elim (fun h => .inl (g.fn x h)) fun h => .inr (by rw [g.es]; exact h))
/-- y = [.. for ..], y a local, on one line -/
theorem s_lc2 {i : Nat} {y : Str} {py spos : Pos} {elt tg iter : Expr} {ifs : List Expr} {scope : Scope} (own : List (Str × Nat)) {fi : FI} {b : BD} {ft : FT} {fe : FE} (hi : DI X T W tg iter fi) (ok : blkC N sc scope own = true)
    (h : ∀ X', Std P w K mg base N (relS scope sc) (fun x => scope.names.lookup x == some .cell) k WF X' → DG X' T tg b (own.map (·.2)) ∧ DTs X' T WF ifs ft ∧ DE X' T WF elt fe)
    (hN : N[i]? = some y) (hyl : sc.names.lookup y = some .local) (hk : sc.kind = .function) (hl : (py.line == pos.line) = true) (hz : (scope.names.any fun (n, k) => n == y && (k == .local || k == .cell)) = false)
    (hs : ∀ x, foldedSetIterable iter X.env x = pure x) :
    DS X T W (.Assign [.Name y py] (.ListComp elt [⟨tg, iter, ifs, 0⟩] scope pos) spos) (fSet i (fOfL (fLc fi b ft fe (own.map (·.2))))) ∧ DS X T W (.Assign [.Name y py] (.ListComp elt [⟨tg, iter, ifs, 0⟩] scope pos) spos) (fOwn i (fLc fi b ft fe (own.map (·.2)))) :=
  ds_setLc g.calm (by rw [g.eN]; exact g.nd) (by rw [g.eN]; exact hN) (by rw [g.es]; exact hyl) (sw_true (by rw [g.es]; exact hk) (by rw [g.es]; exact hyl) hl hz) hi (blkOk_by (by rw [g.eN, g.es]; exact ok)) (fun s H C cl fp => h _ (g.blk s H scope C cl fp)) hs
theorem s_setLc {i : Nat} {y : Str} {py spos : Pos} {elt tg iter : Expr} {ifs : List Expr} {scope : Scope} (own : List (Str × Nat)) {fi : FI} {b : BD} {ft : FT} {fe : FE} (hi : DI X T W tg iter fi) (ok : blkC N sc scope own = true)
    (h : ∀ X', Std P w K mg base N (relS scope sc) (fun x => scope.names.lookup x == some .cell) k WF X' → DG X' T tg b (own.map (·.2)) ∧ DTs X' T WF ifs ft ∧ DE X' T WF elt fe)
    (hN : N[i]? = some y := by rfl) (hyl : sc.names.lookup y = some .local := by rfl) (hk : sc.kind = .function := by rfl) (hl : (py.line == pos.line) = true := by rfl) (hz : (scope.names.any fun (n, k) => n == y && (k == .local || k == .cell)) = false := by decide +kernel)
    (hs : ∀ x, foldedSetIterable iter X.env x = pure x := by intro _; rfl) :
    DS X T W (.Assign [.Name y py] (.ListComp elt [⟨tg, iter, ifs, 0⟩] scope pos) spos) (fSet i (fOfL (fLc fi b ft fe (own.map (·.2))))) := (s_lc2 g own hi ok h hN hyl hk hl hz hs).1
theorem s_ownLc {i : Nat} {y : Str} {py spos : Pos} {elt tg iter : Expr} {ifs : List Expr} {scope : Scope} (own : List (Str × Nat)) {fi : FI} {b : BD} {ft : FT} {fe : FE} (hi : DI X T W tg iter fi) (ok : blkC N sc scope own = true)
    (h : ∀ X', Std P w K mg base N (relS scope sc) (fun x => scope.names.lookup x == some .cell) k WF X' → DG X' T tg b (own.map (·.2)) ∧ DTs X' T WF ifs ft ∧ DE X' T WF elt fe)
    (hN : N[i]? = some y := by rfl) (hyl : sc.names.lookup y = some .local := by rfl) (hk : sc.kind = .function := by rfl) (hl : (py.line == pos.line) = true := by rfl) (hz : (scope.names.any fun (n, k) => n == y && (k == .local || k == .cell)) = false := by decide +kernel)
    (hs : ∀ x, foldedSetIterable iter X.env x = pure x := by intro _; rfl) :
    DS X T W (.Assign [.Name y py] (.ListComp elt [⟨tg, iter, ifs, 0⟩] scope pos) spos) (fOwn i (fLc fi b ft fe (own.map (·.2)))) := (s_lc2 g own hi ok h hN hyl hk hl hz hs).2
/-- y = [.. for ..], y a cell: the list is made, then stored -/
theorem sw_cell {elt : Expr} {gs : List Comprehension} {scope : Scope} {py : Pos} {y : Str} {l : Nat} (hy : sc.names.lookup y = some .cell) : swapsWith (.ListComp elt gs scope pos) (some (.Name y py)) l X.env = pure false := by
  have ky : X.env.kindOf y = some .cell := by unfold Env.kindOf; rw [g.es]; exact hy
  have hb : (X.env.kindOf y == some .local) = false := by rw [ky]; rfl
  unfold swapsWith
  show (pure (X.env.blockKind == .function && X.env.kindOf y == some .local && py.line == (Expr.ListComp elt gs scope pos).pos.line && _) : Sem Bool) = pure false
  rw [hb, Bool.and_false, Bool.false_and, Bool.false_and]
theorem s_asg {tg : Expr} {f : FE} {b : BD} {vs : List Nat} (he : DE X T W e f) (hg : DG X T tg b vs) (hs : swapsWithSole [tg] e pos.line X.env = pure false := by rfl) (hw : swappedStores [tg] e X.env = pure none := by rfl)
    (h1 : (assignEach [tg] X.env).map (·.2) = [assign tg X.env] := by rfl) : DS X T W (.Assign [tg] e pos) (fAsg f b) := ds_asg he hg hs hw h1
theorem s_setIx {o i : Expr} {fo fi fe : FE} {tpos : Pos} (ho : DE X T W o fo) (hi : DE X T W i fi) (he : DE X T W e fe)
    (ha : ∀ v, assign (.Subscript o i tpos) X.env v = (do
      let ov ← holding [v] (eval o X.env)
      let iv ← holding [v, ov] (eval i X.env)
      standAt tpos
      holding [v, ov, iv] (setItem ov iv v)
      release [v, ov, iv] []) := by intro _; rfl)
    (hs : swapsWithSole [.Subscript o i tpos] e pos.line X.env = pure false := by rfl) (hw : swappedStores [.Subscript o i tpos] e X.env = pure none := by rfl)
    (h1 : (assignEach [.Subscript o i tpos] X.env).map (·.2) = [assign (.Subscript o i tpos) X.env] := by rfl) : DS X T W (.Assign [.Subscript o i tpos] e pos) (fSetIx fo fi fe) := ds_setIx ho hi he ha hs hw h1
theorem s_aug {i : Nat} {x : Str} {f : FE} {pos' : Pos} (he : DE X T W e f) (hN : N[i]? = some x := by rfl) (hx : Loc sc x := by first | exact Or.inl rfl | exact Or.inr rfl) (hf : fn x = true ∨ sc.names.lookup x = some .local := by first | exact .inr rfl | exact .inl rfl) :
    DS X T W (.AugAssign (.Name x pos') .Add e pos) (fAug i gIadd f) :=
  ds_aug (by rw [g.eN]; exact g.nd) (by rw [g.eN]; exact hN) (by rw [g.es]; exact hx) iop_addA o_iadd he (hf.elim (fun h => .inl (g.fn x h)) fun h => .inr (by rw [g.es]; exact h))
theorem s_expr {f : FE} (h : DE X T W e f) (hs : swapsWith e none pos.line X.env = pure false := by rfl) : DS X T W (.Expr e pos) (fExpr f) := ds_expr h hs
theorem s_for {tg iter : Expr} {body : List Stmt} {fi : FI} {b : BD} {f : FS} {vs : List Nat} (hi : DI X T W tg iter fi) (hg : DG X T tg b vs) (hb : DSs X T W body f) (hs : ∀ x, foldedSetIterable iter X.env x = pure x := by intro _; rfl) : DS X T W (.For tg iter body [] pos) (fFor fi b f) :=
  ds_for g.pass g.calm hi hg hb hs
theorem s_while {body : List Stmt} {fc : FT} {f : FS} (hc : DT X T W c fc) (hb : DSs X T W body f) : DS X T W (.While c body [] pos) (fWhile fc f) := ds_while g.pass hc hb
end
end U

set_option Elab.async false
set_option linter.all false
set_option maxRecDepth 100000
set_option maxHeartbeats 1000000
/-! U10: defs that call themselves; the law's end. -/
namespace U
open PySem PySem.Spec PyProof.Rows L2
section
variable {P : Program} {w : World} {K : PySem.W.Frag} {mg : Str → Option Value} {base : Heap} {N ps : List Str} {sc : Scope} {k : Nat} {T : List Addr}
theorem fn_false {x qual : Str} {params : Arguments} {body : List Stmt} {f : Addr} {fd : FuncData} {nm : Str} (F : FunD K x qual params body sc [] [] f fd) (hm : mg nm = some (.ref f)) (sco : FnScope N ps sc) (hb : Binds K fd ps [])
    {S : FSpec} (h0 : ∀ ds M Q xw, ¬ S ds M Q xw) : Fn P w K mg base T (k + 1) nm S :=
  ⟨f, fd, ps, hm, F.kp, hb, F.ok sco (fun vs H Q E ⟨_, _, _, _, _, _, _, q, _⟩ => (h0 _ _ _ _ q).elim) fun cdv A outer s H vs Q E hr ⟨_, _, _, _, _, _, _, q, _⟩ => (h0 _ _ _ _ q).elim⟩
theorem bodyN {N' : List Str} {f : FS} {S : FSpec} (h : N.length = N'.length) (k : ∀ ds M Q xw, S ds M Q xw → bodyE N' f ds M Q xw) : ∀ ds M Q xw, S ds M Q xw → bodyE N f ds M Q xw := by
  intro ds M Q xw hs
  have := k ds M Q xw hs
  unfold bodyE startD at this ⊢
  rw [h]
  exact this
/-- a def that calls itself: S n tells what it does at inputs of size below n -/
theorem fn_rec {x qual : Str} {params : Arguments} {body : List Stmt} {f : Addr} {fd : FuncData} {S : Nat → FSpec} {fs : Nat → FS} {nm : Str} (F : FunD K x qual params body sc [] [] f fd) (hm : mg nm = some (.ref f)) (sco : FnScope N ps sc) (hb : Binds K fd ps [])
    (har : ∀ n ds M Q xw, S n ds M Q xw → ds.length = ps.length) (h0 : ∀ ds M Q xw, ¬ S 0 ds M Q xw)
    (hd : ∀ j n, k ≤ j → Fn P w K mg base T j nm (S n) → ∀ X W, Std P w K mg base N sc (fun _ => true) j W X → DSs X T W body (fs n))
    (hs : ∀ n ds M Q xw, S (n + 1) ds M Q xw → bodyE N (fs n) ds M Q xw) : ∀ n, Fn P w K mg base T (k + n + 1) nm (S n)
  | 0 => fn_false F hm sco hb h0
  | n + 1 => fn_ok F hm sco hb (har (n + 1)) (hd (k + n + 1) n (by omega) (fn_rec F hm sco hb har h0 hd hs n)) (hs n)
end
section
variable {l : PySem.W.OpenLaw} {w : World} {K : PySem.W.Frag} {mg : Str → Option Value} {h : Heap} {k n : Nat}
theorem sto0 {T : List Addr} {H : Hp} (hT : ∀ P ∈ T, H P = some (.tbl #[])) : Sto K T [] H fun _ => none :=
  ⟨fun _ _ e => (nomatch e), fun P hP => ⟨#[], hT P hP, by with_unfolding_all trivial⟩, fun _ hm => (nomatch hm)⟩
theorem rvs_ints {H : Hp} {M : Mu} : ∀ ns : List Int, Rvs K [] H M (ns.map V.int) (ns.map D.int)
  | [] => .nil
  | i :: ns => .cons (.int i) (rvs_ints ns)
theorem law_at {x : Str} {f : Addr} {fd : FuncData} {S : FSpec} (cs : List (Addr × Addr)) (hT : ∀ p ∈ cs, h.get? p.2 = some { cls := .none, data := .fields #[] }) (hn : ∀ p ∈ cs, K.lookup p.2 = none) (hC : ∀ p ∈ cs, PySem.W.CodeHd h p.1 p.2)
    (hb : ∀ (s : Shared) (u : Value), BindsTo s fd ⟨[u], []⟩ [(x, u)]) (hS : ∀ ns : List Int, ns.length ≤ n → (∀ z ∈ ns, Builtin.Int.intBits z ≤ 1048576) → S [.lst (ns.map .int)] (fun _ => none) (fun d _ => d = .bl true) fun _ _ => False)
    (hF : ∀ base : Heap, K.In base → base.Ns mainGlobals mg → (∀ p ∈ cs, LamX.TabB base mg p.1 p.2) → FnOk l.prog w K mg base (L2.CX l.prog w) k f fd [x] (spOf K (cs.map (·.2)) S)) : LamX.LawAtS l w K (L2.CX l.prog w) k n x mg f h := by
  refine ⟨fd, cs, spOf K (cs.map (·.2)) S, hT, hn, hC, hb, fun H a ns h1 h2 h3 h4 => ?_, hF⟩
  have hT2 : ∀ P ∈ cs.map (·.2), H P = some (.tbl #[]) := fun P hP => by
    obtain ⟨p, hp, rfl⟩ := List.mem_map.mp hP
    exact h3 p hp
  refine ⟨[], [.lst (ns.map .int)], fun _ => none, _, _, sto0 hT2, .cons (.lst ?_ (rvs_ints ns)) .nil, hS ns h1 h2, fun v H' d M' _ _ r q => ?_, fun _ _ _ _ _ _ _ _ z => z⟩
  · rcases h4 with (h4 | h4) | h4
    · exact .inl ⟨h4, rfl, fun z => (nomatch z)⟩
    · exact .inr (.inl h4)
    · exact .inr (.inr h4)
  · cases q
    cases r
    rfl
theorem cx_no (P : Program) (w : World) (H : Hp) (s : Shared) (e : Value) (s' : Shared) (h : L2.CX P w [] H s (fun _ _ _ => False) e s') : False := by
  obtain ⟨_, _, _, _, _, _, _, _, _, _, _, _, z⟩ := h
  exact z
end
end U

set_option Elab.async false
set_option linter.all false
set_option maxRecDepth 100000
set_option maxHeartbeats 2000000
/-! G1: a generator expression over anything that PI serves, its element any expression: the frame. -/
namespace U
open PySem PySem.Spec PyProof.Rows L2

/-- the context of a generator expression's frame; s, H: ahead of the frame's making -/
abbrev gCx (X : Cx) (A' : Around) (s : Shared) (H : Hp) (cenv : Env) (fp : List Addr) : Cx :=
  { X with A := A', s_0 := s, H_0 := H, env := cenv, outer := X.stack, stack := cenv :: X.stack, ex := fp, fn := fun _ => false, pn := [], xe := fun _ _ => False }
structure GenOk (N : List Str) (sc scope : Scope) (own : List (Str × Nat)) : Prop where
  blk : BlkOk N sc scope own
  nocell : ∀ y ∈ scope.names, y.2 ≠ .cell
  dot : scope.names.lookup (".0" : Str) = some .local
  co : scope.isCoroutine = false
abbrev gEnv (X : Cx) (scope : Scope) (C : Addr) (code : Value) : Env := genEnv scope (cloFrom X.env.cells scope.names []) C code builtinsNs X.env
section
variable {X : Cx} {pins : List (Addr × Obj)} {σ : L2.St} {H : Hp} {s : Shared}
theorem gen_start {scope : Scope} {own : List (Str × Nat)} {fp : List Addr} {A' : Around} {code it : Value} {h1 : Heap} {a : Addr} {oa : Obj} {gs : GenState} {tk : Nat} (I : Inv X pins σ H s) (ok : GenOk X.N X.env.scope scope own) (hN : X.N.Nodup) (hfp : ∀ b ∈ fp, FpOk X pins H b ∧ b < s.heap.objs.size)
    (hh : X.calm = true → A'.handled = none) (hfr : A'.frames = some (gEnv X scope s.heap.objs.size code :: X.stack))
    (hn : h1.Ns s.heap.objs.size (fun y => if y = ".0" then some it else none)) (hs1 : Heap.SameBut s.heap.objs.size (s.heap.push { cls := .type "frame", data := .dict #[] }) h1)
    (ha : a = h1.objs.size) (hga : (h1.push oa).get? a = some oa) (hnc : ∀ v, oa.data ≠ .cell v) (hgb : gs.bare = true) :
    Inv (gCx X A' s H (gEnv X scope s.heap.objs.size code) fp) [(a, oa)] (wipe σ (own.map (·.2))) H { s with gens := s.gens.push gs, toks := tk, heap := h1.push oa } := by
  have hfree : ∀ y ∈ scope.names, y.2 = .free → ∃ c, X.env.cells.lookup y.1 = some c := fun y hy e => by
    rcases ok.blk.free y hy e with k | k
    · exact I.ok.has _ (.inl k)
    · exact I.ok.has _ (.inr k)
  have hsz : h1.objs.size = s.heap.objs.size + 1 := by rw [hs1.1, Heap.size_push]
  have kp1 : ∀ b o, s.heap.get? b = some o → h1.get? b = some o := fun b o e => hs1.extBut b o (Nat.ne_of_lt (Heap.lt_size e)) (Heap.get?_push_of_some _ e)
  have kp : ∀ b o, s.heap.get? b = some o → (h1.push oa).get? b = some o := fun b o e => Heap.get?_push_of_some _ (kp1 b o e)
  generalize hcenv : gEnv X scope s.heap.objs.size code = cenv at hfr
  have hL : cenv.locals = s.heap.objs.size := by rw [← hcenv]; rfl
  have hcl : cenv.cells = cloFrom X.env.cells scope.names [] := by rw [← hcenv]; rfl
  have hsc : cenv.scope = scope := by rw [← hcenv]; rfl
  have cm : ∀ {y c}, (y, c) ∈ cloFrom X.env.cells scope.names [] → X.env.cells.lookup y = some c ∧ c < s.heap.objs.size := fun {y c} hm => by
    rcases cloFrom_mem hm with hm | ⟨h1, rfl⟩
    · cases hm
    · obtain ⟨c, hc⟩ := hfree _ h1 rfl
      rw [hc]
      obtain ⟨w, z⟩ := I.cell _ _ hc
      exact ⟨rfl, z.lt⟩
  have mem : ∀ {y c}, cenv.cells.lookup y = some c → X.env.cells.lookup y = some c ∧ c < s.heap.objs.size := fun {y c} e => by
    rw [hcl] at e
    exact cm (PySem.mem_of_lookup e)
  have look : ∀ {y}, scope.names.lookup y = some .free → ∃ c, cenv.cells.lookup y = some c ∧ X.env.cells.lookup y = some c := fun {y} hl => by
    have hy : (y, NameKind.free) ∈ scope.names := PySem.mem_of_lookup hl
    obtain ⟨c', e'⟩ := mem_lookup (cloFrom_has (cells := X.env.cells) (acc := []) hy)
    rw [← hcl] at e'
    exact ⟨c', e', (mem e').1⟩
  have nC : H s.heap.objs.size = none := I.hok.fresh (Nat.le_refl _)
  have okB : (gCx X A' s H cenv fp).Ok := by
    refine ⟨I.ok.mod, by show cenv.scope.kind = _; rw [hsc]; exact ok.blk.kind, by show cenv.globals = _; rw [← hcenv]; exact I.ok.glob, by show cenv.builtins = _; rw [← hcenv]; rfl, by show s.heap.objs.size ≤ cenv.locals; rw [hL]; exact Nat.le_refl _,
      fun y z c e1 e2 => I.ok.inj y z c (mem e1).1 (mem e2).1, fun y hy => ?_, fun y c z e => (nomatch z), hh, hfr, .inr ⟨rfl, by show cenv.frame = some cenv.locals; rw [← hcenv]; rfl⟩, fun b hb => ⟨?_, fun y c e z => ?_⟩, I.bs, Nat.le_trans I.ok.bsz I.sz, fun b o e hb => ?_, fun b hb z => ?_, I.stack, I.stkFree⟩
    · show ∃ c, cenv.cells.lookup y = some c
      have key : ∀ k, cenv.kindOf y = some k → (k = .cell ∨ k = .free) → ∃ c, cenv.cells.lookup y = some c := fun k hk hk' => by
        unfold Env.kindOf at hk
        rw [hsc] at hk
        rcases hk' with rfl | rfl
        · exact absurd rfl (ok.nocell _ (PySem.mem_of_lookup hk))
        · obtain ⟨c, h1, _⟩ := look hk
          exact ⟨c, h1⟩
      rcases hy with hy | hy
      · exact key _ hy (.inl rfl)
      · exact key _ hy (.inr rfl)
    · show b ≠ cenv.locals
      rw [hL]; exact Nat.ne_of_lt (hfp b hb).2
    · exact (hfp b hb).1.2.2.2.2.1 y c (mem e).1 z
    · rcases (hfp b hb).1.2.2.2.1 with z | z
      · exact I.ok.noex b o e z
      · exact absurd (Nat.lt_of_lt_of_le (Heap.lt_size e) (Nat.le_trans I.ok.bsz z)) (Nat.lt_irrefl _)
    · rcases List.mem_cons.mp (I.stkSub b z) with z | z
      · exact (hfp b hb).1.2.1 z
      · exact (hfp b hb).1.2.2.1 z
  have hale : s.heap.objs.size < a := by rw [ha, hsz]; exact Nat.lt_succ_self _
  refine ⟨okB, rfl, I.bare.push hgb, Un.kept kp, ⟨fun y => if y = ".0" then some it else none, ?_, fun i y av e1 e2 e3 => ?_⟩, fun y c e => ?_, ?_, fun y c e => ?_, fun p hp => ?_, I.hok.kept kp, by rw [wipe_length]; exact I.len⟩
  · show Heap.Ns _ cenv.locals _
    rw [hL]
    exact hn.push _
  · obtain ⟨e2, hne⟩ := wipe_some e2
    have hfr : scope.names.lookup y = some .free := by
      have no : ∀ k', scope.names.lookup y = some k' → ¬ (k' = .local ∨ k' = .cell) := fun k' e hh => by
        rcases ok.blk.own _ (PySem.mem_of_lookup e) hh with e' | e'
        · obtain ⟨p, hp, hpy⟩ := List.mem_map.mp e'
          have e3 := ok.blk.ix p hp
          have : p.1 = y := hpy
          rw [this] at e3
          exact hne (List.mem_map.mpr ⟨p, hp, nodup_ix hN e3 e1⟩)
        · exact e' (List.mem_of_getElem? e1)
      have e3 : Vis cenv.scope y := e3
      rw [hsc] at e3
      rcases e3 with e3 | e3 | e3
      · exact absurd (.inl rfl) (no _ e3)
      · exact absurd (.inr rfl) (no _ e3)
      · exact e3
    obtain ⟨m, hn, hl⟩ := I.loc
    have hvis : Vis X.env.scope y := (ok.blk.free _ (PySem.mem_of_lookup hfr) rfl).elim (fun k => .inr (.inl k)) (fun k => .inr (.inr k))
    obtain ⟨w, r, q⟩ := hl i y av e1 e2 hvis
    refine ⟨w, r, .inr ⟨.inr (by show cenv.scope.names.lookup y = _; rw [hsc]; exact hfr), ?_⟩⟩
    obtain ⟨c, h1, h2⟩ := look hfr
    rcases q with ⟨k, _⟩ | ⟨_, c', e', z⟩
    · have k : X.env.scope.names.lookup y = some .local := k
      rcases ok.blk.free _ (PySem.mem_of_lookup hfr) rfl with k' | k' <;> rw [show X.env.scope.names.lookup y = _ from k'] at k <;> cases k
    · rw [h2] at e'; cases e'
      exact ⟨c, h1, z.keeps kp⟩
  · obtain ⟨h1, _⟩ := mem e
    obtain ⟨w, z⟩ := I.cell y c h1
    exact ⟨w, z.keeps kp⟩
  · show H cenv.locals = none
    rw [hL]; exact nC
  · exact I.freeC y c (mem e).1
  · have hp : p ∈ ([] : List (Addr × Obj)) ++ [(a, oa)] := hp
    have e : p = (a, oa) := by simpa using hp
    subst e
    refine ⟨hga, I.hok.fresh (Nat.le_of_lt hale), ?_, ?_, hnc⟩
    · show a ≠ cenv.locals
      rw [hL]; exact Nat.ne_of_gt hale
    · intro hb
      rcases List.mem_cons.mp (I.stkSub _ hb) with z | z
      · have := I.lt
        rw [← z] at this
        exact absurd (Nat.lt_trans hale this) (Nat.lt_irrefl _)
      · exact I.nofs (Nat.le_of_lt hale) z
end
end U

set_option Elab.async false
set_option linter.all false
set_option maxRecDepth 100000
set_option maxHeartbeats 2000000
/-! G2: a generator expression's turns; any, all. -/
namespace U
open PySem PySem.Spec PyProof.Rows L2

theorem Inv.same {X : Cx} {pins : List (Addr × Obj)} {σ : L2.St} {H : Hp} {s s' : Shared} (I : Inv X pins σ H s) (hh : s'.heap = s.heap) (ho : s'.os = s.os) (hg : AllBare s'.gens) : Inv X pins σ H s' :=
  ⟨I.ok, by rw [ho]; exact I.os, hg, by rw [hh]; exact I.base, by rw [hh]; exact I.loc, by rw [hh]; exact I.cell, I.free, I.freeC, by rw [hh]; exact I.pin, by rw [hh]; exact I.hok, I.len⟩
theorem bare_set {s : Shared} {g : Nat} {x : GenState} (h : AllBare s.gens) (hx : x.bare = true) : AllBare (s.setGen g x).gens := by
  intro y hy
  have hy : y ∈ s.gens.setIfInBounds g x := hy
  rcases Array.mem_or_eq_of_mem_setIfInBounds hy with h1 | h1
  · exact h y h1
  · rw [h1]; exact hx
theorem set_size {s : Shared} {g : Nat} {x : GenState} : (s.setGen g x).gens.size = s.gens.size := by simp [Shared.setGen]
theorem set_get {s : Shared} {g : Nat} {x : GenState} (h : g < s.gens.size) : (s.setGen g x).gens[g]? = some x := by simp [Shared.setGen, h]

/-- a generator expression that is under way: X its frame's context -/
structure GPlan where
  X : Cx
  elt : Expr
  tg : Expr
  iter : Expr
  scope : Scope
  gpos : Pos
  it : Addr
  a : Addr
  oa : Obj
  g : Nat
  fp : List Addr
  tn : Nat → Heap → Prop
  σ : L2.St
  vs : List Nat
  N : Nat
  W : Nat → Hp → Prop
  bv : Nat → V
  A : Around
  S : Option Addr
namespace GPlan
variable (p : GPlan)
abbrev e : Expr := .GeneratorExp p.elt [⟨p.tg, p.iter, [], 0⟩] p.scope p.gpos
abbrev p0 : List (Addr × Obj) := [(p.a, p.oa)]
/-- the consumer's own object, as it stands -/
def Own (s : Shared) (q : List (Addr × Obj)) : Prop := match p.S with
  | none => q = []
  | some S => ∃ o, q = [(S, o)] ∧ s.heap.get? S = some o
def St (i : Nat) (s : Shared) : Prop := ∃ H' q, p.Own s q ∧ Inv p.X (p.p0 ++ q) (wipe p.σ p.vs) H' s ∧ p.tn i s.heap ∧ (∀ b ∈ p.fp, H' b = none) ∧ p.W i H'
def R : GenEnd := fun n s₀ r s₁ => r = .ok .next ∧ (n = 0 ∧ p.g < s₁.gens.size ∧ ∃ H', Inv p.X p.p0 (wipe p.σ p.vs) H' s₁ ∧ p.W p.N H')
def Y : Protocol := fun m s₀ v s kap => m < p.N ∧ RelV (p.bv (p.N - m - 1)) v ∧ p.St (p.N - m) s ∧ p.g < s.gens.size ∧ ∀ s'', p.St (p.N - m) s'' → p.g < s''.gens.size → kap (.send .none) s''
structure Ok : Prop where
  cal : p.X.calm = true
  ar : p.X.A = p.A.in1.over (.compLoop p.e 0 (.ref p.it) .none p.X.env) []
  xe : p.X.xe = fun _ _ => False
  exf : p.X.ex = p.fp
  pn : p.X.pn = []
  co : p.X.env.scope.isCoroutine = false
  nab : p.a ∉ p.fp
  nSb : ∀ S, p.S = some S → S ∉ p.fp
  len : True
  turn : ∃ J, Turn p.X.prog p.X.w p.X.K p.tg J p.fp p.it p.tn ∧ ∃ (g : TG) (te : TE), PG p.X p.tg g ∧ PE p.X p.elt te ∧
    (∀ i H, i < p.N → p.W i H → J.go i H ∧ ∀ x H', J.yld i H x H' → g x (wipe p.σ p.vs) H' fun σ2 H2 => wipe σ2 p.vs = wipe p.σ p.vs ∧ te σ2 H2 fun y H4 => y = p.bv i ∧ p.W (i + 1) H4) ∧ ∀ H, p.W p.N H → J.stop p.N H
  gen : ∀ s i, p.St i s → s.heap.IsGen p.a p.g
variable {p}
theorem Own.keep {s s' : Shared} {q : List (Addr × Obj)} (h : p.Own s q) (k : ∀ r ∈ q, s'.heap.get? r.1 = some r.2) : p.Own s' q := by
  unfold Own at h ⊢
  cases e : p.S with
  | none => rw [e] at h; exact h
  | some S =>
    rw [e] at h
    obtain ⟨o, rfl, ho⟩ := h
    exact ⟨o, rfl, k _ List.mem_cons_self⟩
theorem Own.nfp (ok : p.Ok) {s : Shared} {q : List (Addr × Obj)} (h : p.Own s q) : ∀ r ∈ q, r.1 ∉ p.fp := by
  unfold Own at h
  cases e : p.S with
  | none => rw [e] at h; intro r hr; rw [h] at hr; cases hr
  | some S =>
    rw [e] at h
    obtain ⟨o, rfl, ho⟩ := h
    intro r hr
    rw [List.mem_singleton.mp hr]
    exact ok.nSb S e
theorem stat (ok : p.Ok) {σ' : L2.St} {H' : Hp} {s s' : Shared} {q : List (Addr × Obj)} (o : p.Own s q) (I' : Inv p.X (p.p0 ++ q) σ' H' s') (hn : ∀ b ∈ p.fp, H' b = none) : ∀ b ∈ p.fp, FpOk p.X (p.p0 ++ q) H' b := fun b hb =>
  have hb' : b ∈ p.X.ex := by rw [ok.exf]; exact hb
  ⟨hn b hb, (I'.ok.exf b hb').1, I'.ok.exfs b hb', .inl hb', fun x c e => (I'.ok.exf b hb').2 x c e, fun r hr z => by
    rw [ok.pn, List.nil_append] at hr
    rcases List.mem_append.mp hr with hr | hr
    · rw [List.mem_singleton.mp hr] at z
      exact ok.nab (by rw [show p.a = b from z]; exact hb)
    · exact o.nfp ok r hr (by rw [z]; exact hb)⟩
theorem seg (ok : p.Ok) : ∀ (k i : Nat) (s₀ s : Shared), p.N - i = k → i ≤ p.N → p.St i s → p.g < s.gens.size →
    Seg (model p.X.prog p.X.w) p.A.in1 p.R p.Y k s₀ (.compLoop p.e 0 (.ref p.it) .none p.X.env) ((model p.X.prog p.X.w).den (.compLoop p.e 0 (.ref p.it) .none p.X.env)) [] s := by
  obtain ⟨J, T, gg, te, pg, pe, step, stop⟩ := ok.turn
  have ar := ok.ar
  have xf : ∀ {α : Type} {t : Sem α} {Q : α → Shared → Prop} {s : Shared}, wpAny (model p.X.prog p.X.w) p.X.A t Q p.X.xe s → wpAny (model p.X.prog p.X.w) p.X.A t Q (fun _ _ => False) s := fun h => by rw [ok.xe] at h; exact h
  intro k
  induction k with
  | zero =>
    intro i s₀ s hk hi hst hg
    have hin : i = p.N := by omega
    subst hin
    obtain ⟨H5, q, o5, I5, t5, n5, w5⟩ := hst
    show Seg _ _ _ _ _ s₀ _ ((compTurn p.e 0 (.ref p.it) .none p.X.env).onRaise (leaving p.X.env)) [] s
    rw [compTurn_gen, Sem.onRaise_eq_wrap]
    refine seg_bind_wrap (wpAny_standAt ?_)
    refine seg_bind_wrap ?_
    rw [← ar]
    have td := T.done p.X rfl rfl rfl ok.cal p.N (p.p0 ++ q) s _ H5 (fun _ _ => False) I5 (stat ok o5 I5 n5) t5 (stop H5 w5)
    refine GenW.wpAny_gsz (n := p.g + 1) hg (thnF td fun r s6 ⟨hr, I6⟩ hg6 => ?_)
    subst hr
    exact seg_end (.ok .next) ⟨rfl, rfl, hg6, H5, I6.unpinned, w5⟩
  | succ k ih =>
    intro i s₀ s hk hi hst hg
    have hlt : i < p.N := by omega
    obtain ⟨H5, q, o5, I5, t5, n5, w5⟩ := hst
    obtain ⟨go, st1⟩ := step i H5 hlt w5
    show Seg _ _ _ _ _ s₀ _ ((compTurn p.e 0 (.ref p.it) .none p.X.env).onRaise (leaving p.X.env)) [] s
    rw [compTurn_gen, Sem.onRaise_eq_wrap]
    refine seg_bind_wrap (wpAny_standAt ?_)
    refine seg_bind_wrap ?_
    rw [← ar]
    have ti := T.item p.X rfl rfl rfl ok.cal i (p.p0 ++ q) s _ H5 (fun _ _ => False) I5 (stat ok o5 I5 n5) t5 go
    refine GenW.wpAny_gsz (n := p.g + 1) hg (thnF ti fun r s6 ⟨u, hr, h6⟩ hg6 => ?_)
    subst hr
    refine seg_bind_wrap ?_
    rw [← ar]
    refine GenW.wpAny_gsz (n := p.g + 1) hg6 (thnF h6 fun _ s7 ⟨x, H7, I7, r7, y7, t7, n7⟩ hg7 => ?_)
    have I7' := I7.pinned (stat ok o5 I7 n7) (T.obj _ _ t7)
    refine seg_bind_wrap ?_
    rw [← ar]
    refine GenW.wpAny_gsz (n := p.g + 1) hg7 (thnF (xf (pg.run _ s7 _ H7 x u _ I7' r7 (st1 x H7 y7))) fun _ s8 ⟨σ8, H8, I8, hw8, q8⟩ hg8 => ?_)
    refine seg_bind_wrap (wpAny_tests_nil ?_)
    simp only [if_true]
    have hy : ∀ v, yieldOut p.X.env v = yieldValue v := fun v => by simp only [yieldOut, ok.co, Bool.false_eq_true, if_false]
    simp only [hy]
    rw [Sem.bind_eq_wrap', Sem.bind_eq_wrap', Sem.wrap_wrap, Sem.wrap_wrap]
    refine seg_wrap ?_
    rw [← ar]
    refine GenW.wpAny_gsz (n := p.g + 1) hg8 (thnF (xf (pe.run _ s8 σ8 H8 _ I8 q8)) fun z s10 ⟨yv, H10, I10, r10, ey, w10⟩ hg10 => ?_)
    subst ey
    have pin' : ∀ b ∈ p.fp, ∀ o, s7.heap.get? b = some o → s10.heap.get? b = some o ∧ H10 b = none := fun b hb o e =>
      let z := I10.pin (b, o) (List.mem_append_right _ (List.mem_append_right _ (mem_pinsAt hb e)))
      ⟨z.1, z.2.1⟩
    have hl : (wipe p.σ p.vs).length = σ8.length := by rw [← hw8, wipe_length]
    have S10 : p.St (i + 1) s10 := by
      refine ⟨H10, q, o5.keep fun r hr => (I10.pin r (List.mem_append_right _ (List.mem_append_left _ (List.mem_append_right _ hr)))).1, (I10.unpinned (pins := p.p0 ++ q)).weak hl (fun j v e => ?_), T.keep _ _ _ t7 fun b hb o e => (pin' b hb o e).1, fun b hb => ?_, w10⟩
      · rw [← hw8] at e
        exact (wipe_some e).1
      · obtain ⟨o, e, _⟩ := T.obj _ _ t7 b hb
        exact (pin' b hb o e).2
    refine seg_at (seg_yield rfl rfl rfl ⟨by omega, by rw [show p.N - k - 1 = i by omega]; exact r10, by rw [show p.N - k = i + 1 by omega]; exact S10, hg10, fun s'' hw hg11 => ?_⟩)
    exact seg_again rfl (ih (i + 1) s'' s'' (by omega) hlt (by rw [show p.N - k = i + 1 by omega] at hw; exact hw) hg11)
theorem start (ok : p.Ok) {s₀ s : Shared} (hst : p.St 0 s) (hg : p.g < s.gens.size) :
    Seg (model p.X.prog p.X.w) p.A.in1 p.R p.Y p.N s₀ (.compStart p.e 0 (.ref p.it) .none p.X.env) ((model p.X.prog p.X.w).den (.compStart p.e 0 (.ref p.it) .none p.X.env)) [] s := by
  have loop := seg ok p.N 0 s₀ s (Nat.sub_zero _) (Nat.zero_le _) hst hg
  obtain ⟨J, T, _⟩ := ok.turn
  obtain ⟨H5, q, o5, I5, t5, n5, w5⟩ := hst
  show Seg _ _ _ _ _ s₀ _ ((compStart p.e 0 (.ref p.it) .none p.X.env).onRaise (leaving p.X.env)) [] s
  unfold compStart
  rw [Sem.onRaise_eq_wrap]
  show Seg _ _ _ _ _ s₀ _ ((ask >>= _).wrap _ _ _ _) [] s
  refine seg_bind_wrap (wpAny_askSetting ?_)
  split
  · exact seg_again rfl loop
  · first
      | exact seg_bind_wrap (wpAny_rule (seg_bind_wrap (wpAny_standAt (seg_bind_wrap (T.self _ 0 s _ _ t5 (seg_again rfl loop))))))
      | (refine seg_bind_wrap (wpAny_rule ?_); show Seg _ _ _ _ _ s₀ _ ((standAt p.iter.pos >>= _).wrap _ _ _ _) [] s; exact seg_bind_wrap (wpAny_standAt (seg_bind_wrap (T.self _ 0 s _ _ t5 (seg_again rfl loop)))))
def Cont (p : GPlan) (j : Nat) (gs : GenState) : Prop := ∀ s'', p.St j s'' → p.g < s''.gens.size → gs.Goes (model p.X.prog p.X.w) p.A.in1 p.R p.Y (p.N - j) (.send .none) s''
/-- ahead of its j-th item -/
def Rdy (p : GPlan) (j : Nat) (s : Shared) : Prop := p.St j s ∧ p.g < s.gens.size ∧ ∃ gs, s.gens[p.g]? = some gs ∧ p.Cont j gs
theorem St.gens {s : Shared} {j : Nat} {gs : GenState} (h : p.St j s) (hb : gs.bare = true) : p.St j (s.setGen p.g gs) := by
  obtain ⟨H', q, o, I, t, n, w⟩ := h
  exact ⟨H', q, o.keep fun r hr => (I.pin r (List.mem_append_right _ (List.mem_append_right _ hr))).1, U.Inv.same I rfl rfl (bare_set I.bare hb), t, n, w⟩
theorem St.nl {s : Shared} {j : Nat} (h : p.St j s) : s.heap.NoLimit := let ⟨_, _, _, I, _⟩ := h; I.nolimit
theorem item (ok : p.Ok) {j : Nat} {s : Shared} {Q : Option Value → Shared → Prop} {E : Value → Shared → Prop} (hh : p.A.handled = none) (hroom : p.A.depth < recursionLimit) (hj : j < p.N) (h : p.Rdy j s)
    (hQ : ∀ v s', RelV (p.bv j) v → p.Rdy (j + 1) s' → Q (some v) s') : wpAny (model p.X.prog p.X.w) p.A (pyNext (.ref p.a)) Q E s := by
  obtain ⟨st, hg, gs, hgs, hgo⟩ := h
  obtain ⟨m, hm⟩ : ∃ m, p.N - j = m + 1 := ⟨p.N - j - 1, by omega⟩
  unfold Cont at hgo
  rw [hm] at hgo
  have hl : s.heap.NoLimit := st.nl
  refine wpAny_pyNext_genexpQ (n := m + 1) (P := fun n s₀ s₁ => n = 0 ∧ p.g < s₁.gens.size ∧ ∃ H', Inv p.X p.p0 (wipe p.σ p.vs) H' s₁ ∧ p.W p.N H') (Y := p.Y) hh hl hroom (ok.gen s j st) hgs (hgo _ (st.gens rfl) (by rw [set_size]; exact hg)) (fun v s₁ gs' hb hv => ?_) (fun s₁ hp h' hk => ?_)
  · obtain ⟨h1, h2, h3, h4, h5⟩ := hv
    have e1 : p.N - (m + 1 - 1) - 1 = j := by omega
    have e2 : p.N - (m + 1 - 1) = j + 1 := by omega
    rw [e1] at h2
    rw [e2] at h3
    refine hQ v _ h2 ⟨h3.gens hb, by rw [set_size]; exact h4, gs', set_get h4, fun s'' hw1 hw2 => ?_⟩
    rw [show p.N - (j + 1) = m by omega]
    rw [e2] at h5
    exact h5 s'' hw1 hw2
  · exact absurd hp.1 (Nat.succ_ne_zero m)
theorem done (ok : p.Ok) {s : Shared} {Q : Option Value → Shared → Prop} {E : Value → Shared → Prop} (hh : p.A.handled = none) (hroom : p.A.depth < recursionLimit) (h : p.Rdy p.N s)
    (hQ : ∀ s' H', Inv p.X p.p0 (wipe p.σ p.vs) H' s' → p.W p.N H' → Q none s') : wpAny (model p.X.prog p.X.w) p.A (pyNext (.ref p.a)) Q E s := by
  obtain ⟨st, hg, gs, hgs, hgo⟩ := h
  unfold Cont at hgo
  rw [Nat.sub_self] at hgo
  have hl : s.heap.NoLimit := st.nl
  refine wpAny_pyNext_genexpQ (n := 0) (P := fun n s₀ s₁ => n = 0 ∧ p.g < s₁.gens.size ∧ ∃ H', Inv p.X p.p0 (wipe p.σ p.vs) H' s₁ ∧ p.W p.N H') (Y := p.Y) hh hl hroom (ok.gen s _ st) hgs (hgo _ (st.gens rfl) (by rw [set_size]; exact hg)) (fun v s₁ gs' hb hv => ?_) (fun s₁ hp h' hk => ?_)
  · obtain ⟨_, _, h3, h4, h5⟩ := hv
    exact False.elim (h5 _ h3 h4)
  · obtain ⟨_, hg1, H', I, w⟩ := hp
    have I2 : Inv p.X p.p0 (wipe p.σ p.vs) H' (s₁.setGen p.g .finished) := U.Inv.same I rfl rfl (bare_set I.bare rfl)
    exact hQ _ H' (I2.kept (t' := s₁.toks) hk) w
/-- any -/
theorem any_loop (ok : p.Ok) {A0 : Around} (hA : p.A = A0.in1) {R : Result → Shared → Prop} (tr : Nat → Bool) (htr : p.bv = fun i => .bl (tr i)) (hh : p.A.handled = none) (hroom : p.A.depth < recursionLimit)
    (hR : ∀ s' i H', i ≤ p.N → Inv p.X p.p0 (wipe p.σ p.vs) H' s' → p.W i H' → R (.ok (.ret (.bool ((List.range p.N).any tr)))) s') :
    ∀ (k j : Nat) (s : Shared), p.N - j = k → j ≤ p.N → p.Rdy j s → (∀ i, i < j → tr i = false) → codeAny (model p.X.prog p.X.w) A0 (.builtin "any.loop" ⟨[.ref p.a], []⟩) R s := by
  intro k
  induction k with
  | zero =>
    intro j s hk hj hst hf
    have e : j = p.N := by omega
    subst e
    refine codeAny_builtin F.entry_any_loop ?_
    rw [Around.under_plainId F.plain_any_loop _]
    show wpAny _ A0.in1 (pyNext (.ref p.a) >>= _) _ _ s
    rw [← hA]
    refine wpAny_bind (done ok hh hroom hst fun s' H' I w => ?_)
    refine wpAny_bind (wpAny_rule (wpAny_pure ?_))
    have h := hR s' p.N H' (Nat.le_refl _) I w
    have e : (List.range p.N).any tr = false := by
      rw [List.any_eq_false]
      intro i hi
      rw [hf i (List.mem_range.mp hi)]; exact Bool.false_ne_true
    rw [e] at h
    exact h
  | succ k ih =>
    intro j s hk hj hst hf
    have hlt : j < p.N := by omega
    refine codeAny_builtin F.entry_any_loop ?_
    rw [Around.under_plainId F.plain_any_loop _]
    show wpAny _ A0.in1 (pyNext (.ref p.a) >>= _) _ _ s
    rw [← hA]
    refine wpAny_bind (item ok hh hroom hlt hst fun v s' hv hst' => ?_)
    rw [htr] at hv
    have hv : v = .bool (tr j) := hv
    subst hv
    refine wpAny_bind (wpAny_holding (wpAny_truthy_bool ?_))
    refine wpAny_bind (wpAny_letGo ?_)
    cases hb : tr j with
    | false =>
      simp only [Bool.false_eq_true, if_false]
      refine wpAny_pure ⟨plainId_quiet F.plain_any_loop _, ih (j + 1) _ (by omega) hlt hst' fun i hi => ?_⟩
      by_cases e : i = j
      · rw [e]; exact hb
      · exact hf i (by omega)
    | true =>
      simp only [if_true]
      obtain ⟨⟨H', q, _, I, _, _, w⟩, _⟩ := hst'
      have h := hR s' (j + 1) H' hlt I.unpinned w
      have e : (List.range p.N).any tr = true := List.any_eq_true.mpr ⟨j, List.mem_range.mpr hlt, hb⟩
      rw [e] at h
      exact wpAny_bind (wpAny_rule (wpAny_pure h))
/-- all -/
theorem all_loop (ok : p.Ok) {A0 : Around} (hA : p.A = A0.in1) {R : Result → Shared → Prop} (tr : Nat → Bool) (htr : p.bv = fun i => .bl (tr i)) (hh : p.A.handled = none) (hroom : p.A.depth < recursionLimit)
    (hR : ∀ s' i H', i ≤ p.N → Inv p.X p.p0 (wipe p.σ p.vs) H' s' → p.W i H' → R (.ok (.ret (.bool ((List.range p.N).all tr)))) s') :
    ∀ (k j : Nat) (s : Shared), p.N - j = k → j ≤ p.N → p.Rdy j s → (∀ i, i < j → tr i = true) → codeAny (model p.X.prog p.X.w) A0 (.builtin "all.loop" ⟨[.ref p.a], []⟩) R s := by
  intro k
  induction k with
  | zero =>
    intro j s hk hj hst hf
    have e : j = p.N := by omega
    subst e
    refine codeAny_builtin F.entry_all_loop ?_
    rw [Around.under_plainId F.plain_all_loop _]
    show wpAny _ A0.in1 (pyNext (.ref p.a) >>= _) _ _ s
    rw [← hA]
    refine wpAny_bind (done ok hh hroom hst fun s' H' I w => ?_)
    refine wpAny_bind (wpAny_rule (wpAny_pure ?_))
    have h := hR s' p.N H' (Nat.le_refl _) I w
    have e : (List.range p.N).all tr = true := List.all_eq_true.mpr fun i hi => hf i (List.mem_range.mp hi)
    rw [e] at h
    exact h
  | succ k ih =>
    intro j s hk hj hst hf
    have hlt : j < p.N := by omega
    refine codeAny_builtin F.entry_all_loop ?_
    rw [Around.under_plainId F.plain_all_loop _]
    show wpAny _ A0.in1 (pyNext (.ref p.a) >>= _) _ _ s
    rw [← hA]
    refine wpAny_bind (item ok hh hroom hlt hst fun v s' hv hst' => ?_)
    rw [htr] at hv
    have hv : v = .bool (tr j) := hv
    subst hv
    refine wpAny_bind (wpAny_holding (wpAny_truthy_bool ?_))
    refine wpAny_bind (wpAny_letGo ?_)
    cases hb : tr j with
    | true =>
      simp only [if_true]
      refine wpAny_pure ⟨plainId_quiet F.plain_all_loop _, ih (j + 1) _ (by omega) hlt hst' fun i hi => ?_⟩
      by_cases e : i = j
      · rw [e]; exact hb
      · exact hf i (by omega)
    | false =>
      simp only [Bool.false_eq_true, if_false]
      obtain ⟨⟨H', q, _, I, _, _, w⟩, _⟩ := hst'
      have h := hR s' (j + 1) H' hlt I.unpinned w
      have e : (List.range p.N).all tr = false := by
        rw [List.all_eq_false]
        exact ⟨j, List.mem_range.mpr hlt, by rw [hb]; exact Bool.false_ne_true⟩
      rw [e] at h
      exact wpAny_bind (wpAny_rule (wpAny_pure h))
end GPlan
end U

set_option Elab.async false
set_option linter.all false
set_option maxRecDepth 100000
set_option maxHeartbeats 4000000
/-! G3: a generator expression made; any, all of it. -/
namespace U
open PySem PySem.Spec PyProof.Rows L2
section
variable {X : Cx} {pins : List (Addr × Obj)} {σ : L2.St} {H : Hp} {s : Shared}
abbrev gE (elt tg iter : Expr) (scope : Scope) (gpos : Pos) : Expr := .GeneratorExp elt [⟨tg, iter, [], 0⟩] scope gpos
abbrev gA (X : Cx) (e : Expr) (it : Addr) (cenv : Env) : Around := X.A.in1.in1.over (.compLoop e 0 (.ref it) .none cenv) []
theorem gA_frames {e : Expr} {elt : Expr} {gs : List Comprehension} {scope : Scope} {gpos : Pos} (he : e = .GeneratorExp elt gs scope gpos) {it : Addr} {cenv : Env} (hf : X.A.frames = some X.stack) : (gA X e it cenv).frames = some (cenv :: X.stack) := by
  subst he
  show pushEnvs [cenv] (pushEnvs (envsOf []) X.A.frames) = _
  rw [hf]
  rfl
theorem gA_room {e : Expr} {elt : Expr} {gs : List Comprehension} {scope : Scope} {gpos : Pos} (he : e = .GeneratorExp elt gs scope gpos) {it : Addr} {cenv : Env} {k : Nat} (hr : Room (k + 1) X.A) : Room k (gA X e it cenv) := by
  subst he
  refine ⟨hr.hd, ?_, ?_⟩
  · have := hr.dp
    show X.A.depth + 0 + 1 + 3 * k + 5 < _
    omega
  · have := hr.un
    show X.A.units + 1 + 1 + 0 + 3 + 16 * k + 200 < _
    omega
/-- what is known of a generator that is made -/
structure Made (X : Cx) (pins : List (Addr × Obj)) (σ : L2.St) (elt tg iter : Expr) (scope : Scope) (gpos : Pos) (own : List (Str × Nat)) (J : It) (H4 : Hp) (s4 s6 : Shared) (it a : Addr) (oa : Obj) (fp : List Addr) (tn : Nat → Heap → Prop) (code : Value) : Prop where
  I4 : Inv X pins σ H4 s4
  T : Turn X.prog X.w X.K tg J fp it tn
  fps : ∀ b ∈ fp, FpOk X pins H4 b ∧ b < s4.heap.objs.size
  I6 : Inv (gCx X (gA X (gE elt tg iter scope gpos) it (gEnv X scope s4.heap.objs.size code)) s4 H4 (gEnv X scope s4.heap.objs.size code) fp) [(a, oa)] (wipe σ (own.map (·.2))) H4 s6
  t6 : tn 0 s6.heap
  lt : s4.heap.objs.size < a
  oas : ∃ nm qn, oa.cls = .type "generator" ∧ oa.data = .fields #[.int s4.gens.size 0, nm, qn] ∧ oa.slots = #[]
  gl : s4.gens.size < s6.gens.size
  gg : s6.gens[s4.gens.size]? = some (.fresh (.compStart (gE elt tg iter scope gpos) 0 (.ref it) .none (gEnv X scope s4.heap.objs.size code)))
  fr6 : s6.heap.objs.size = a + 1
theorem gexp_make {c P : Addr} {elt tg iter : Expr} {scope : Scope} {gpos : Pos} {own : List (Str × Nat)} {wi : TI} {k : Nat} {R : It → Hp → Prop} {Q' : Value → Shared → Prop}
    (hr : Room (k + 1) X.A) (hc : X.calm = true) (hN : X.N.Nodup) (TB : GxR.TabB X.base X.mg c P) (hcode : X.env.code = .ref c) (ok : GenOk X.N X.env.scope scope own) (hi : PI X tg iter wi) (hs : ∀ v, genFold iter X.env v = pure v)
    (I : Inv X pins σ H s) (h : wi σ H fun J H1 => GxR.TabG H1 P ∧ ∀ H2, GxR.Tabbed P H1 H2 → R J H2)
    (hQ : ∀ J H4 s4 s6 it a oa fp tn code, R J H4 → Made X pins σ elt tg iter scope gpos own J H4 s4 s6 it a oa fp tn code → Q' (.ref a) s6) :
    wpAny (model X.prog X.w) X.A (eval (gE elt tg iter scope gpos) X.env) Q' X.xe s := by
  have hfree : ∀ y ∈ scope.names, y.2 = .free → ∃ c, X.env.cells.lookup y.1 = some c := fun y hy e => by
    rcases ok.blk.free y hy e with k | k
    · exact I.ok.has _ (.inl k)
    · exact I.ok.has _ (.inr k)
  refine wpAny_GeneratorExp_make ok.co (closure_ok hfree) ok.nocell ok.dot ok.blk.kind (by have := hr.dp; omega) ?_ hs
  refine thn (hi.run pins s σ H _ I h) fun xv s1 hx => thn hx fun itv s2 h2 => ?_
  obtain ⟨it, fp, tn, J, H2, e, I2, T, st2, f2, ⟨ps, hP, ht⟩, q⟩ := h2
  subst e
  have hPs : s2.heap.get? P = some { cls := .none, data := .fields ps } := I2.hok P _ hP
  have cd : PySem.W.CodeHd s2.heap c P := TB.code.keeps I2.bk
  have nP : ∀ b ∈ fp, b ≠ P := fun b hb z => by
    have := (f2 b hb).1
    rw [z, hP] at this; cases this
  have cont : ∀ (code : Value) (h3 : Heap) (tk : Nat) (ps' : Array Value), Heap.ExtBut P s2.heap h3 → s2.heap.objs.size ≤ h3.objs.size → h3.get? P = some { cls := .none, data := .fields ps' } → (∃ more, ps' = ps ++ more) → TriplesOk ps'.toList →
      wpAny (model X.prog X.w) X.A (builtinsFor X.env.globals X.env.builtins) (fun bi s₄ =>
        ∀ h', h'.Ns s₄.heap.objs.size (fun y => if y = ".0" then some (.ref it) else none) → Heap.SameBut s₄.heap.objs.size (s₄.heap.push { cls := .type "frame", data := .dict #[] }) h' →
          Q' (.ref h'.objs.size) { s₄ with
            gens := s₄.gens.push (.fresh (.compStart (gE elt tg iter scope gpos) 0 (.ref it) .none (genEnv scope (cloFrom X.env.cells scope.names []) s₄.heap.objs.size code bi X.env))),
            toks := s₄.toks + 1 + 1 + 1,
            heap := h'.push { cls := .type "generator", data := .fields #[.int s₄.gens.size 0, .str "<genexpr>" (s₄.toks + 1), .str (X.env.qual ++ "<genexpr>") (s₄.toks + 1 + 1)] } }) X.xe { s2 with heap := h3, toks := tk } := by
    intro code h3 tk ps' hx hsz hP3 hmore ht3
    obtain ⟨bm, ob, e1, e2, e3, e4, e5, e6, e7, e8⟩ := TB.bm
    have keep3 : ∀ b u, b ≠ P → s2.heap.get? b = some u → h3.get? b = some u := fun b u hb e => hx b u hb e
    refine wpAny_builtinsFor (m := X.mg) (by rw [I2.ok.glob]; exact (I2.mod.glob.keeps I2.bk).extBut hx TB.gP) e1 e2 (keep3 _ _ e4 (I2.bk _ _ e5)) e6 e7 e8 ?_
    intro h' hn' hs'
    obtain ⟨more, rfl⟩ := hmore
    generalize hs4 : ({ s2 with heap := h3, toks := tk } : Shared) = s4 at *
    have h4 : s4.heap = h3 := by rw [← hs4]
    have I4 : Inv X pins σ (upd H2 P (.tbl (ps ++ more))) s4 := by
      rw [← hs4]
      exact GxR.inv_tab (g' := s2.gens) (d' := s2.drawn) I2 hP (fun b u hb e => keep3 b u hb e) hP3 I2.bare
    have f4 : ∀ b ∈ fp, FpOk X pins (upd H2 P (.tbl (ps ++ more))) b ∧ b < s4.heap.objs.size := fun b hb => by
      obtain ⟨o, e, _⟩ := T.obj _ _ st2 b hb
      refine ⟨⟨by rw [upd_ne (nP b hb)]; exact (f2 b hb).1, (f2 b hb).2⟩, ?_⟩
      rw [h4]
      exact Nat.lt_of_lt_of_le (Heap.lt_size e) hsz
    have t4 : tn 0 s4.heap := T.keep _ _ _ st2 fun b hb o e => by rw [h4]; exact keep3 b o (nP b hb) e
    have hsz2 : h'.objs.size = s4.heap.objs.size + 1 := by rw [hs'.1, Heap.size_push]
    have kp1 : ∀ b o, s4.heap.get? b = some o → h'.get? b = some o := fun b o e => hs'.extBut b o (Nat.ne_of_lt (Heap.lt_size e)) (Heap.get?_push_of_some _ e)
    refine hQ J _ s4 _ it h'.objs.size { cls := .type "generator", data := .fields #[.int s4.gens.size 0, .str "<genexpr>" (s4.toks + 1), .str (X.env.qual ++ "<genexpr>") (s4.toks + 1 + 1)] } fp tn code (q _ ⟨⟨ps ++ more, upd_same, ht3⟩, fun b hb => upd_ne hb⟩) ⟨I4, T, f4, ?_, ?_, by rw [hsz2]; exact Nat.lt_succ_self _, ⟨_, _, rfl, rfl, rfl⟩, ?_, ?_, by rw [Heap.size_push]⟩
    · exact gen_start (it := .ref it) I4 ok hN f4 (fun z => I4.ok.hd z) (gA_frames rfl I4.ok.frames) hn' hs' rfl (Heap.get?_push_size _ rfl) (fun v z => by cases z) rfl
    · exact T.keep _ _ _ t4 fun b hb o e => Heap.get?_push_of_some _ (kp1 b o e)
    · show s4.gens.size < (s4.gens.push _).size
      rw [Array.size_push]; exact Nat.lt_succ_self _
    · show (s4.gens.push _)[s4.gens.size]? = _
      rw [Array.getElem?_push_size]
  refine ⟨I2.nolimit, ?_⟩
  cases hf : codeAmong gpos ps.toList with
  | none =>
    refine wpAny_genexprCodeX hcode (cd.code hPs ht) (cd.tab hPs) hf fun c' h' tk hx hge hlt hco' _ htab' _ => ?_
    obtain ⟨o1, vs, f1, tf, fl, tg', inF, tx, tt, op, _, _, _, _, _, _, _, _, _, htr, _⟩ := hco'
    exact cont _ h' tk _ hx (Nat.le_trans hge (Nat.le_of_lt hlt)) htab'.2 ⟨_, rfl⟩ htr
  | some cv =>
    refine wpAny_genexprCode_hit hcode (cd.code hPs ht) hf ?_
    exact cont cv s2.heap s2.toks ps (Heap.ExtBut.refl _ _) (Nat.le_refl _) hPs ⟨#[], by simp⟩ ht

/-- a pure generator expression's reading: N items, the i-th is bv i -/
def GW (J : It) (g : TG) (te : TE) (vs : List Nat) (σ : L2.St) (N : Nat) (W : Nat → Hp → Prop) (bv : Nat → V) : Prop :=
  (∀ i H, i < N → W i H → J.go i H ∧ ∀ x H', J.yld i H x H' → g x (wipe σ vs) H' fun σ2 H2 => wipe σ2 vs = wipe σ vs ∧ te σ2 H2 fun y H4 => y = bv i ∧ W (i + 1) H4) ∧ ∀ H, W N H → J.stop N H
def tGen (P : Addr) (wi : TI) (g : TG) (te : TE) (vs : List Nat) (fin : Nat → (Nat → V) → (V → Prop) → Prop) : TE := fun σ H Q => wi σ H fun J H1 => GxR.TabG H1 P ∧ ∀ H2, GxR.Tabbed P H1 H2 →
  ∃ (N : Nat) (W : Nat → Hp → Prop) (bv : Nat → V), W 0 H2 ∧ GW J g te vs σ N W bv ∧ fin N bv fun v => ∀ i H, i ≤ N → W i H → Q v H
def finAny : Nat → (Nat → V) → (V → Prop) → Prop := fun N bv k => ∃ tr : Nat → Bool, bv = (fun i => .bl (tr i)) ∧ k (.bl ((List.range N).any tr))
def finAll : Nat → (Nat → V) → (V → Prop) → Prop := fun N bv k => ∃ tr : Nat → Bool, bv = (fun i => .bl (tr i)) ∧ k (.bl ((List.range N).all tr))
section
variable {c P : Addr} {elt tg iter : Expr} {scope : Scope} {gpos p pos : Pos} {own : List (Str × Nat)} {wi : TI} {g : TG} {te : TE} {k : Nat}
/-- the plan of a generator that is made -/
def mkPlan (X : Cx) (elt tg iter : Expr) (scope : Scope) (gpos : Pos) (own : List (Str × Nat)) (σ : L2.St) (H4 : Hp) (s4 : Shared) (it a : Addr) (oa : Obj) (fp : List Addr) (tn : Nat → Heap → Prop) (code : Value) (N : Nat) (W : Nat → Hp → Prop) (bv : Nat → V) (S : Option Addr) : GPlan where
  X := gCx X (gA X (gE elt tg iter scope gpos) it (gEnv X scope s4.heap.objs.size code)) s4 H4 (gEnv X scope s4.heap.objs.size code) fp
  elt := elt
  tg := tg
  iter := iter
  scope := scope
  gpos := gpos
  it := it
  a := a
  oa := oa
  g := s4.gens.size
  fp := fp
  tn := tn
  σ := σ
  vs := own.map (·.2)
  N := N
  W := W
  bv := bv
  A := X.A.in1
  S := S
theorem Made.ok {J : It} {H4 : Hp} {s4 s6 : Shared} {it a : Addr} {oa : Obj} {fp : List Addr} {tn : Nat → Heap → Prop} {code : Value} (M : Made X pins σ elt tg iter scope gpos own J H4 s4 s6 it a oa fp tn code) (hc : X.calm = true) (ok : GenOk X.N X.env.scope scope own)
    (hg : ∀ it s H C code fp, PG (gCx X (gA X (gE elt tg iter scope gpos) it (gEnv X scope C code)) s H (gEnv X scope C code) fp) tg g)
    (he : ∀ it s H C code fp, PE (gCx X (gA X (gE elt tg iter scope gpos) it (gEnv X scope C code)) s H (gEnv X scope C code) fp) elt te)
    {N : Nat} {W : Nat → Hp → Prop} {bv : Nat → V} (gw : GW J g te (own.map (·.2)) σ N W bv) (S : Option Addr) (hS : ∀ b, S = some b → s4.heap.objs.size ≤ b) :
    (mkPlan X elt tg iter scope gpos own σ H4 s4 it a oa fp tn code N W bv S).Ok where
  cal := hc
  ar := rfl
  xe := rfl
  exf := rfl
  pn := rfl
  co := ok.co
  nab := fun z => by
    have h1 := (M.fps _ z).2
    exact absurd (Nat.lt_trans M.lt h1) (Nat.lt_irrefl _)
  nSb := fun b e z => by
    have h1 := (M.fps _ z).2
    exact absurd (Nat.lt_of_lt_of_le h1 (hS b e)) (Nat.lt_irrefl _)
  len := trivial
  turn := ⟨J, M.T, g, te, hg _ _ _ _ _ _, he _ _ _ _ _ _, gw.1, gw.2⟩
  gen := fun s i h => by
    obtain ⟨H', q, _, I, _⟩ := h
    obtain ⟨nm, qn, h1, h2, h3⟩ := M.oas
    exact ⟨oa, nm, qn, (I.pin (a, oa) (List.mem_append_right _ (List.mem_append_left _ List.mem_cons_self))).1, h1, h2, h3⟩
theorem Made.rdy {J : It} {H4 : Hp} {s4 s6 : Shared} {it a : Addr} {oa : Obj} {fp : List Addr} {tn : Nat → Heap → Prop} {code : Value} (M : Made X pins σ elt tg iter scope gpos own J H4 s4 s6 it a oa fp tn code)
    {N : Nat} {W : Nat → Hp → Prop} {bv : Nat → V} (ok : (mkPlan X elt tg iter scope gpos own σ H4 s4 it a oa fp tn code N W bv none).Ok) (w : W 0 H4) :
    (mkPlan X elt tg iter scope gpos own σ H4 s4 it a oa fp tn code N W bv none).Rdy 0 s6 := by
  refine ⟨⟨H4, [], rfl, M.I6, M.t6, fun b hb => (M.fps b hb).1.1, w⟩, M.gl, _, M.gg, fun s'' hst hg => ⟨rfl, ?_⟩⟩
  exact GPlan.start ok hst hg
/-- back in the def's context -/
theorem Made.back {J : It} {H4 : Hp} {s4 s6 : Shared} {it a : Addr} {oa : Obj} {fp : List Addr} {tn : Nat → Heap → Prop} {code : Value} (M : Made X pins σ elt tg iter scope gpos own J H4 s4 s6 it a oa fp tn code)
    {σ' : L2.St} {H' : Hp} {s' : Shared} {pl : List (Addr × Obj)} (I : Inv (gCx X (gA X (gE elt tg iter scope gpos) it (gEnv X scope s4.heap.objs.size code)) s4 H4 (gEnv X scope s4.heap.objs.size code) fp) pl σ' H' s') : Inv X pins σ H' s' :=
  M.I4.call' (ch := fp) (I.os) I.base I.hok I.bare fun b hb => ⟨(M.fps b hb).1.2.2.2.1, (M.fps b hb).1.2.1, (M.fps b hb).1.2.2.2.2.1, (M.fps b hb).1.2.2.2.2.2⟩
theorem pe_anyG (hr : Room (k + 1) X.A) (hc : X.calm = true) (hN : X.N.Nodup) (hgl : Gl X "any") (hm : X.mg "any" = none) (TB : GxR.TabB X.base X.mg c P) (hcode : X.env.code = .ref c) (ok : GenOk X.N X.env.scope scope own) (hi : PI X tg iter wi)
    (hg : ∀ it s H C code fp, PG (gCx X (gA X (gE elt tg iter scope gpos) it (gEnv X scope C code)) s H (gEnv X scope C code) fp) tg g)
    (he : ∀ it s H C code fp, PE (gCx X (gA X (gE elt tg iter scope gpos) it (gEnv X scope C code)) s H (gEnv X scope C code) fp) elt te)
    (hs : ∀ v, genFold iter X.env v = pure v)
    (hst : starEach [gE elt tg iter scope gpos] X.env = (false, eval (gE elt tg iter scope gpos) X.env) :: starEach [] X.env) :
    PE X (.Call (.Name "any" p) [gE elt tg iter scope gpos] [] pos) (tGen P wi g te (own.map (·.2)) finAny) := by
  refine ⟨fun pins s σ H Q I h => ?_⟩
  refine wpAny_Call_Name_kw (ld_blt I hgl hm boot_any ?_)
  refine PyProof.Rows.callWith_builtin1 ?_ hst (by rfl)
  rw [hst]
  show wpAny _ _ (spliced ((false, eval (gE elt tg iter scope gpos) X.env) :: backTo pos (starEach [] X.env))) _ _ s
  refine Calls.spliced_cons (gexp_make (R := fun J H2 => ∃ (N : Nat) (W : Nat → Hp → Prop) (bv : Nat → V), W 0 H2 ∧ GW J g te (own.map fun x : Str × Nat => x.2) σ N W bv ∧ finAny N bv fun v => ∀ i H, i ≤ N → W i H → Q v H) hr hc hN TB hcode ok hi hs I h fun J H4 s4 s6 it a oa fp tn code hR M => ?_)
  obtain ⟨N, W, bv, w0, gw, tr, htr, hk⟩ := hR
  have pok := M.ok hc ok hg he gw none (fun _ z => (nomatch z))
  have rdy := M.rdy pok w0
  refine Calls.spliced_nil ?_
  refine call_function_tree F.kind_any F.plain_any F.entry_any (F.args_any1 _) ?_
  unfold Builtin.«any»
  refine wpAny_bind (m := oneArg "any" _) (wpAny_pure ?_)
  refine wpAny_bind (wpAny_pyIter_gen (pok.gen _ _ rdy.1) ?_)
  refine wpAny_pure ⟨plainId_quiet F.plain_any_loop _, ?_⟩
  have hroom : X.A.in1.depth < recursionLimit := by have := hr.dp; show X.A.depth < _; omega
  refine GPlan.any_loop pok (A0 := X.A) rfl tr htr hr.hd hroom (fun s' i H' hi I' w' => ?_) _ 0 s6 rfl (Nat.zero_le _) rdy (fun i hi => absurd hi (Nat.not_lt_zero _))
  exact ⟨.bl _, H', M.back I', rfl, hk i H' hi w'⟩
theorem pe_allG (hr : Room (k + 1) X.A) (hc : X.calm = true) (hN : X.N.Nodup) (hgl : Gl X "all") (hm : X.mg "all" = none) (hb : bootBuiltins "all" = some (.builtin "all")) (TB : GxR.TabB X.base X.mg c P) (hcode : X.env.code = .ref c) (ok : GenOk X.N X.env.scope scope own) (hi : PI X tg iter wi)
    (hg : ∀ it s H C code fp, PG (gCx X (gA X (gE elt tg iter scope gpos) it (gEnv X scope C code)) s H (gEnv X scope C code) fp) tg g)
    (he : ∀ it s H C code fp, PE (gCx X (gA X (gE elt tg iter scope gpos) it (gEnv X scope C code)) s H (gEnv X scope C code) fp) elt te)
    (hs : ∀ v, genFold iter X.env v = pure v)
    (hst : starEach [gE elt tg iter scope gpos] X.env = (false, eval (gE elt tg iter scope gpos) X.env) :: starEach [] X.env) :
    PE X (.Call (.Name "all" p) [gE elt tg iter scope gpos] [] pos) (tGen P wi g te (own.map (·.2)) finAll) := by
  refine ⟨fun pins s σ H Q I h => ?_⟩
  refine wpAny_Call_Name_kw (ld_blt I hgl hm hb ?_)
  refine PyProof.Rows.callWith_builtin1 ?_ hst (by rfl)
  rw [hst]
  show wpAny _ _ (spliced ((false, eval (gE elt tg iter scope gpos) X.env) :: backTo pos (starEach [] X.env))) _ _ s
  refine Calls.spliced_cons (gexp_make (R := fun J H2 => ∃ (N : Nat) (W : Nat → Hp → Prop) (bv : Nat → V), W 0 H2 ∧ GW J g te (own.map fun x : Str × Nat => x.2) σ N W bv ∧ finAll N bv fun v => ∀ i H, i ≤ N → W i H → Q v H) hr hc hN TB hcode ok hi hs I h fun J H4 s4 s6 it a oa fp tn code hR M => ?_)
  obtain ⟨N, W, bv, w0, gw, tr, htr, hk⟩ := hR
  have pok := M.ok hc ok hg he gw none (fun _ z => (nomatch z))
  have rdy := M.rdy pok w0
  refine Calls.spliced_nil ?_
  refine call_function_tree F.kind_all F.plain_all F.entry_all (F.args_all1 _) ?_
  unfold Builtin.«all»
  refine wpAny_bind (m := oneArg "all" _) (wpAny_pure ?_)
  refine wpAny_bind (wpAny_pyIter_gen (pok.gen _ _ rdy.1) ?_)
  refine wpAny_pure ⟨plainId_quiet F.plain_all_loop _, ?_⟩
  have hroom : X.A.in1.depth < recursionLimit := by have := hr.dp; show X.A.depth < _; omega
  refine GPlan.all_loop pok (A0 := X.A) rfl tr htr hr.hd hroom (fun s' i H' hi I' w' => ?_) _ 0 s6 rfl (Nat.zero_le _) rdy (fun i hi => absurd hi (Nat.not_lt_zero _))
  exact ⟨.bl _, H', M.back I', rfl, hk i H' hi w'⟩
end
end
end U

set_option Elab.async false
set_option linter.all false
set_option maxRecDepth 100000
set_option maxHeartbeats 2000000
/-! I1: enumerate and zip over lists and tuples, mixed: at the model's level. -/
namespace U
open PySem PySem.Spec PyProof.Rows L2

/-- an iterator of a list | of a tuple -/
def ItB : Bool → Heap → Addr → Addr → Nat → Prop
  | true, h, it, a, i => h.IsListIter it a i
  | false, h, it, a, i => h.IsTupleIter it a i
def SqB : Bool → Heap → Addr → Array Value → Prop
  | true, h, a, xs => h.IsList a xs
  | false, h, a, xs => h.IsTuple a xs
section
variable {b : Bool} {h h' : Heap} {it a q : Addr} {i : Nat} {xs : Array Value}
theorem ItB.at (x : ItB b h it a i) (k : ∀ o, h.get? it = some o → h'.get? it = some o) : ItB b h' it a i := by
  cases b with
  | true => obtain ⟨o, e, r⟩ := (show h.IsListIter it a i from x); exact ⟨o, k o e, r⟩
  | false => obtain ⟨o, e, r⟩ := (show h.IsTupleIter it a i from x); exact ⟨o, k o e, r⟩
theorem ItB.but (x : ItB b h it a i) (k : Heap.SameBut q h h') (n : it ≠ q) : ItB b h' it a i := x.at fun o e => k.extBut it o n e
theorem ItB.obj (x : ItB b h it a i) : ∃ o, h.get? it = some o ∧ ∀ v, o.data ≠ .cell v := by
  cases b with
  | true => obtain ⟨o, e, _, d⟩ := (show h.IsListIter it a i from x); exact ⟨o, e, fun v z => by rw [d] at z; cases z⟩
  | false => obtain ⟨o, e, _, d⟩ := (show h.IsTupleIter it a i from x); exact ⟨o, e, fun v z => by rw [d] at z; cases z⟩
theorem SqB.at (x : SqB b h a xs) (k : ∀ o, h.get? a = some o → h'.get? a = some o) : SqB b h' a xs := by
  cases b with
  | true => obtain ⟨o, e, r⟩ := (show h.IsList a xs from x); exact ⟨o, k o e, r⟩
  | false => obtain ⟨o, e, r⟩ := (show h.IsTuple a xs from x); exact ⟨o, k o e, r⟩
theorem SqB.lt (x : SqB b h a xs) : a < h.objs.size := by
  cases b with
  | true => obtain ⟨o, e, _⟩ := (show h.IsList a xs from x); exact Heap.lt_size e
  | false => obtain ⟨o, e, _⟩ := (show h.IsTuple a xs from x); exact Heap.lt_size e
theorem ItB.lt (x : ItB b h it a i) : it < h.objs.size := let ⟨_, e, _⟩ := x.obj; Heap.lt_size e
end
section
variable {prog : Program} {w : World} {A : Around} {E : Value → Shared → Prop} {s : Shared} {b : Bool} {it a : Addr} {i : Nat} {xs : Array Value} {x : Value} {Q : Value → Shared → Prop}
theorem nextB_item (hit : ItB b s.heap it a i) (hl : SqB b s.heap a xs) (hx : xs[i]? = some x) (k : ∀ g, ItB b g it a (i + 1) → Heap.SameBut it s.heap g → Q x { s with heap := g }) : wpAny (model prog w) A (Builtin.SmallTypes.nextOf (.ref it)) Q E s := by
  cases b with
  | true => exact wpAny_nextOf_list_item hit hl hx k
  | false => exact RZ.nextOf_tuple_item hit hl hx k
theorem nextB_end (hn : A.handled = none) (hit : ItB b s.heap it a i) (hl : SqB b s.heap a xs) (hx : xs[i]? = none)
    (k : ∀ g e, Heap.ExtBut it s.heap g → (∃ o, g.get? e = some o ∧ o.cls = .type "StopIteration") → E (.ref e) { s with heap := g }) : wpAny (model prog w) A (Builtin.SmallTypes.nextOf (.ref it)) Q E s := by
  cases b with
  | true => exact wpAny_nextOf_list_end hn hit hl hx k
  | false => exact RZ.nextOf_tuple_end hn hit hl hx k
end

/-- a list | a tuple that stands -/
def SqV (K : PySem.W.Frag) : Bool → Hp → Addr → List V → Prop
  | true, H, a, xs => SqL K H a xs
  | false, H, a, xs => SqT K H a xs
section
variable {X : Cx} {pins : List (Addr × Obj)} {σ : L2.St} {H : Hp} {s : Shared}
theorem srcV (I : Inv X pins σ H s) {b : Bool} {a : Addr} {xs : List V} (h : SqV X.K b H a xs) : ∃ its : List Value, Vals xs its ∧ SqB b s.heap a its.toArray := by
  cases b with
  | true => obtain ⟨its, r, p, _⟩ := I.list h; exact ⟨its, r, p.isList⟩
  | false => obtain ⟨its, r, p, _⟩ := I.tuple h; exact ⟨its, r, p⟩
theorem SqV.inj (I : Inv X pins σ H s) {b : Bool} {a : Addr} {xs ys : List V} (h : SqV X.K b H a xs) (k : SqV X.K b H a ys) : xs = ys := by
  cases b with
  | true => exact I.list_inj h k
  | false => exact I.tuple_inj h k
end
theorem drB {prog : Program} {w : World} {A : Around} (b : Bool) (hh : A.handled = none) (it a : Addr) (hne : a ≠ it) (xs : Array Value) : Draws prog w A it [it, a] xs.size (fun i v => xs[i]? = some v) (fun i h => ItB b h it a i ∧ SqB b h a xs) := by
  cases b with
  | true => exact Draws.list hh it a hne xs
  | false => exact Draws.tuple hh it a hne xs
def itO (b : Bool) (a : Addr) : Obj := { cls := .type (if b then "list_iterator" else "tuple_iterator"), data := .fields #[.ref a, .int 0 0] }
theorem bgB (b : Bool) (a : Addr) (xs : Array Value) : Begins (.ref a) (itO b a) fun h => SqB b h a xs := by
  cases b with
  | true => exact begins_list a xs
  | false => exact begins_tuple a xs
theorem itB0 {b : Bool} {h : Heap} {it a : Addr} (e : h.get? it = some (itO b a)) : ItB b h it a 0 := by
  cases b with
  | true => exact ⟨_, e, rfl, rfl⟩
  | false => exact ⟨_, e, rfl, rfl⟩

/-! enumerate -/
def ItE (K : PySem.W.Frag) (b : Bool) (a : Addr) (k0 : Int) : It :=
  ⟨fun i H => ∃ (xs : List V) (x : V), SqV K b H a xs ∧ xs[i]? = some x,
    fun i H v H' => ∃ T x, v = .ref T ∧ H T = none ∧ H' = upd H T (.tup [.int (k0 + (i : Nat)), x]) ∧ ∀ xs, SqV K b H a xs → xs[i]? = some x,
    fun i H => ∃ xs : List V, SqV K b H a xs ∧ i = xs.length⟩
def enTn (b : Bool) (a : Addr) (k0 : Int) (N : Addr) (i : Nat) (h : Heap) : Prop :=
  (∃ old, IsEnum h (N + 1) N (k0 + (i : Nat)) old) ∧ ItB b h N a i
theorem turn_en {P : Program} {w : World} {K : PySem.W.Frag} {elts : List Expr} {kk : Nat} {tpos : Pos} {b : Bool} {a N : Addr} {k0 : Int} (h1 : a < N) :
    Turn P w K (.Tuple elts kk tpos) (ItE K b a k0) [N + 1, N] (N + 1) (enTn b a k0 N) where
  mem := by simp
  obj := fun i h st c hc => by
    obtain ⟨⟨old, he⟩, t⟩ := st
    have e' : c = N + 1 ∨ c = N := by simpa using hc
    rcases e' with q | q
    · rw [q]; exact ⟨_, he, fun v z => nomatch z⟩
    · rw [q]; exact t.obj
  keep := fun i h g st k => by
    obtain ⟨⟨old, he⟩, t⟩ := st
    exact ⟨⟨old, k _ (by simp) _ he⟩, t.at fun o q => k _ (by simp) o q⟩
  item := by
    intro X hP hw hK hc i pins s σ H E I hf st hg
    subst hP hw hK
    obtain ⟨⟨old, he⟩, t⟩ := st
    obtain ⟨xs, x, q1, e1⟩ := hg
    obtain ⟨its, rv, p⟩ := srcV I q1
    obtain ⟨u, hu, ru⟩ := rv.get e1
    have hl : i < its.toArray.size := by rw [List.size_toArray]; exact (List.getElem?_eq_some_iff.mp hu).1
    have hel : N + 1 < s.heap.objs.size := Heap.lt_size he
    have hne : (a : Nat) ≠ N := Nat.ne_of_lt h1
    have hef : N + 1 ∉ [N, a] := fun hm => by
      have e' : N + 1 = N ∨ N + 1 = a := by simpa using hm
      rcases e' with q | q
      · exact Nat.succ_ne_self _ q
      · exact absurd h1 (by rw [← q]; exact Nat.not_lt_of_le (Nat.le_succ N))
    refine wpAny_pyNext_enum_itemC (drB (A := X.A.in1) b (I.ok.hd hc) N a hne its.toArray) he (show ItB b s.heap N a i ∧ SqB b s.heap a its.toArray from ⟨t, p⟩) hl (Nat.succ_ne_self _) hef fun v g tk d ho st' hT hsz hk => ?_
    have d : u = v := by rw [List.getElem?_toArray, hu] at d; exact Option.some.inj d
    subst d
    refine ⟨_, rfl, wpAny_letOwnedTupleGo_enum (s := { s with heap := g, toks := tk + 1 }) ho fun g2 he' sb => ?_⟩
    have hT2 : g2.get? s.heap.objs.size = some { cls := .type "tuple", data := .seq #[.int (k0 + (i : Nat)) tk, u] } := (sb.2 _ (Nat.ne_of_gt hel)).trans hT
    have new : ObjOk X.prog X.w (upd H s.heap.objs.size (.tup [.int (k0 + (i : Nat)), x])) g2 s.heap.objs.size (.tup [.int (k0 + (i : Nat)), x]) :=
      ⟨by show 2 ≤ sizeLine; decide, [.int (k0 + (i : Nat)) tk, u], .cons ⟨_, rfl⟩ (.cons ru .nil), ⟨_, hT2, rfl, _, rfl⟩⟩
    have I1 : Inv X pins σ (upd H s.heap.objs.size (.tup [.int (k0 + (i : Nat)), x])) { s with heap := g2, toks := tk + 1 } :=
      I.turnedNew (t' := tk + 1) (ch := [N + 1, N]) (fun c o hb q => (sb.2 c (fun z => hb (by simp [z]))).trans (hk c o (fun z => hb (by simp [z])) (fun z => hb (by simp [z])) q)) hf (Nat.le_refl _) new
    refine ⟨.ref s.heap.objs.size, _, I1, rfl, ⟨_, x, rfl, I.hok.fresh (Nat.le_refl _), rfl, fun l hl => by rw [SqV.inj I hl q1]; exact e1⟩, ⟨⟨u, ?_⟩, st'.1.at fun o q => (sb.2 N (Ne.symm (Nat.succ_ne_self _))).trans q⟩, fun c hcm => ?_⟩
    · have z : k0 + ((i + 1 : Nat) : Int) = k0 + (i : Int) + 1 := by omega
      rw [z]; exact he'
    · have hlt : c < s.heap.objs.size := by
        have e' : c = N + 1 ∨ c = N := by simpa using hcm
        rcases e' with q | q
        · rw [q]; exact hel
        · rw [q]; exact Nat.lt_of_succ_lt hel
      rw [upd_ne (Nat.ne_of_lt hlt)]
      exact (hf c hcm).1
  done := by
    intro X hP hw hK hc i pins s σ H E I hf st hg
    subst hP hw hK
    obtain ⟨⟨old, he⟩, t⟩ := st
    obtain ⟨xs, q1, hx⟩ := hg
    obtain ⟨its, rv, p⟩ := srcV I q1
    have z1 : its.toArray.size = xs.length := by rw [List.size_toArray]; exact rv.length.symm
    have hne : (a : Nat) ≠ N := Nat.ne_of_lt h1
    have st : ItB b s.heap N a its.toArray.size ∧ SqB b s.heap a its.toArray := ⟨by rw [z1, ← hx]; exact t, p⟩
    exact wpAny_pyNext_enum_endD (drB (A := X.A.in1) b (I.ok.hd hc) N a hne its.toArray) he st fun g hk => ⟨rfl, I.turnedL (t' := s.toks) (ch := [N + 1, N]) (fun c o hb q => hk c o (fun z => hb (by simp [z])) q) hf⟩
  self := fun A i s Q E st h => let ⟨⟨_, he⟩, _⟩ := st; wpAny_pyIter_enum he h
set_option maxHeartbeats 1000000 in
theorem meets_en {v : Value} {o : Obj} {H : Heap → Prop} (B : Begins v o H) :
    Meets (Builtin.«enumerate.__new__» ⟨[.type "enumerate", v], []⟩) (fun _ R s => H s.heap ∧
      R (.ok (.ret (.ref (s.heap.push o).objs.size))) { s with heap := (s.heap.push o).push { cls := .type "enumerate", data := .fields #[.none, .bool false, .ref s.heap.objs.size, rawInt 0, .none, .none] } }) :=
  .of_wp fun prog w A R s h => by
    obtain ⟨hp, g, d, tk, os⟩ := s
    obtain ⟨h1, h⟩ := h
    have hsub := sub_enumerate
    have q1 : ∀ {A' : Around} {E : Value → Shared → Prop} {Q : Value → Shared → Prop}, Q (.ref hp.objs.size) ⟨hp.push o, g, d, tk, os⟩ → wpAny (model prog w) A' (pyIter v) Q E ⟨hp, g, d, tk, os⟩ :=
      fun q => B.iter prog w _ _ ⟨hp, g, d, tk, os⟩ _ h1 q
    wp_walk using q1
    refine wpAny_stack_any fun st => wpAny_pure ?_
    split
    · rename_i c _ _ _ _ _
      cases (c == Value.type "enumerate")
      · wp_walk using q1
        exact ⟨_, rfl, h⟩
      · wp_walk using q1
        exact ⟨_, rfl, h⟩
    · wp_walk using q1
      exact ⟨_, rfl, h⟩
theorem en_begins {prog : Program} {w : World} {A : Around} {E : Value → Shared → Prop} {s : Shared} {v : Value} {o : Obj} {H : Heap → Prop} {Q : Value → Shared → Prop} (B : Begins v o H) (h1 : H s.heap)
    (h : ∀ h', IsEnum h' (s.heap.objs.size + 1) s.heap.objs.size 0 .none → h'.get? s.heap.objs.size = some o → h'.objs.size = s.heap.objs.size + 2 →
      (∀ b o, s.heap.get? b = some o → h'.get? b = some o) → Q (.ref (s.heap.objs.size + 1)) { s with heap := h' }) :
    wpAny (model prog w) A (call (.type "enumerate") [v]) Q E s := by
  refine callType_new F.called_enumerate (by decide) (F.typeCall_enumerate_1 _) (F.newCall_enumerate_1 _) (fun obj => F.args_object_init_2 obj _) F.entry_enumerate_new (meets_en B) ⟨h1, ?_⟩
  have hz : (s.heap.push o).objs.size = s.heap.objs.size + 1 := Heap.size_push ..
  show _ ∧ _
  rw [hz]
  have he : IsEnum ((s.heap.push o).push { cls := .type "enumerate", data := .fields #[.none, .bool false, .ref s.heap.objs.size, rawInt 0, .none, .none] }) (s.heap.objs.size + 1) s.heap.objs.size 0 .none := by
    have := Heap.get?_push_size (s.heap.push o) (o := { cls := .type "enumerate", data := .fields #[.none, .bool false, .ref s.heap.objs.size, rawInt 0, .none, .none] }) rfl
    rw [hz] at this
    exact this
  exact ⟨⟨_, he, rfl⟩, h _ he (Heap.get?_push_of_some _ (Heap.get?_push_size _ B.free)) (by rw [Heap.size_push, hz]) fun b o x => Heap.get?_push_of_some _ (Heap.get?_push_of_some _ x)⟩
section
variable {X : Cx} {pins : List (Addr × Obj)} {σ : L2.St} {tg : Expr} {R : It → Hp → Prop}
/-- enumerate(x) -/
def iEn1 (K : PySem.W.Frag) (ta : TA) : TI := fun σ H R => ta σ H fun vs H1 => ∃ b a xs, vs = [.ref a] ∧ SqV K b H1 a xs ∧ R (ItE K b a 0) H1
theorem pi_en1 {e : Expr} {ta : TA} {p pos tpos : Pos} {elts : List Expr} {kk : Nat} (hg : Gl X "enumerate") (hm : X.mg "enumerate" = none) (ha : PA X [e] ta) (hs : starEach [e] X.env = [(false, eval e X.env)] := by rfl) :
    PI X (.Tuple elts kk tpos) (.Call (.Name "enumerate" p) [e] [] pos) (iEn1 X.K ta) := by
  refine ⟨fun pins s σ H R I h => ?_⟩
  refine Call_ (ld_blt I hg hm boot_enumerate (PyProof.Rows.callWith_type1 (thn (ha.run pos pins s σ H _ I h) fun us s1 ⟨vs, H1, I1, r1, q1⟩ => ?_) hs rfl))
  obtain ⟨b, a, xs, ex, hq, q⟩ := q1
  subst ex
  cases r1 with
  | cons r rr =>
    cases rr
    cases r
    obtain ⟨its, rv, p'⟩ := srcV I1 hq
    refine en_begins (bgB b a its.toArray) p' fun h' he hit hsz hk => wpAny_pyIter_enum he ?_
    have I2 : Inv X pins σ H1 { s1 with heap := h' } := I1.kept (t' := s1.toks) hk
    refine ⟨s1.heap.objs.size + 1, [s1.heap.objs.size + 1, s1.heap.objs.size], _, _, H1, rfl, I2, turn_en (k0 := 0) p'.lt, ⟨⟨.none, he⟩, itB0 hit⟩, fun c hb => ?_, q⟩
    have hle : s1.heap.objs.size ≤ c := by
      have e' : c = s1.heap.objs.size + 1 ∨ c = s1.heap.objs.size := by simpa using hb
      rcases e' with z | z
      · rw [z]; exact Nat.le_add_right _ _
      · rw [z]; exact Nat.le_refl _
    exact I1.fpOk hle (I1.hok.fresh hle)
/-- enumerate(x, k) -/
def iEn2 (K : PySem.W.Frag) (ta : TA) : TI := fun σ H R => ta σ H fun vs H1 => ∃ b a xs k, vs = [.ref a, .int k] ∧ (-(2 ^ 63) ≤ k ∧ k < 2 ^ 63) ∧ SqV K b H1 a xs ∧ R (ItE K b a k) H1
theorem pi_en2 {e e2 : Expr} {ta : TA} {p pos tpos : Pos} {elts : List Expr} {kk : Nat} (hg : Gl X "enumerate") (hm : X.mg "enumerate" = none) (ha : PA X [e, e2] ta)
    (hs : starEach [e, e2] X.env = (false, eval e X.env) :: starEach [e2] X.env) (hpl : (backTo pos (starEach [e2] X.env)).any (·.1) = false) :
    PI X (.Tuple elts kk tpos) (.Call (.Name "enumerate" p) [e, e2] [] pos) (iEn2 X.K ta) := by
  refine ⟨fun pins s σ H R I h => ?_⟩
  refine Call_ (ld_blt I hg hm boot_enumerate (PyProof.Rows.callWith_type1 (thn (ha.run pos pins s σ H _ I h) fun us s1 ⟨vs, H1, I1, r1, q1⟩ => ?_) hs hpl))
  obtain ⟨b, a, xs, k, ex, ⟨hk0, hk1⟩, hq, q⟩ := q1
  subst ex
  cases r1 with
  | cons r rr =>
    cases rr with
    | cons r2 rr =>
      cases rr
      cases r
      obtain ⟨tk, rfl⟩ := r2
      obtain ⟨its, rv, p'⟩ := srcV I1 hq
      refine enum_begins (bgB b a its.toArray) p' hk0 hk1 fun h' he hit hsz hk => wpAny_pyIter_enum he ?_
      have I2 : Inv X pins σ H1 { s1 with heap := h' } := I1.kept (t' := s1.toks) hk
      refine ⟨s1.heap.objs.size + 1, [s1.heap.objs.size + 1, s1.heap.objs.size], _, _, H1, rfl, I2, turn_en (k0 := k) p'.lt, ⟨⟨.none, by rw [Int.ofNat_zero, Int.add_zero]; exact he⟩, itB0 hit⟩, fun c hb => ?_, q⟩
      have hle : s1.heap.objs.size ≤ c := by
        have e' : c = s1.heap.objs.size + 1 ∨ c = s1.heap.objs.size := by simpa using hb
        rcases e' with z | z
        · rw [z]; exact Nat.le_add_right _ _
        · rw [z]; exact Nat.le_refl _
      exact I1.fpOk hle (I1.hok.fresh hle)
end
end U

set_option Elab.async false
set_option linter.all false
set_option maxRecDepth 100000
set_option maxHeartbeats 2000000
/-! I3: zip of two and of three, lists and tuples mixed (printed by zipgen.py). -/
namespace U
open PySem PySem.Spec PyProof.Rows L2
theorem zlt {a N : Nat} (h : a < N) (k : Nat) : a ≠ N + k := by omega
theorem zne (N j k : Nat) (h : j ≠ k) : N + j ≠ N + k := by omega
theorem zle {N s : Nat} (j k : Nat) (h : j ≤ k) (q : N + k < s) : N + j < s := by omega
theorem zge (N j : Nat) : N ≤ N + j := by omega


def ItZ2 (K : PySem.W.Frag) (b1 : Bool) (a1 : Addr) (b2 : Bool) (a2 : Addr) : It :=
  ⟨fun i H => ∃ (xs1 : List V) (x1 : V),  ∃ (xs2 : List V) (x2 : V), SqV K b1 H a1 xs1 ∧ xs1[i]? = some x1 ∧ SqV K b2 H a2 xs2 ∧ xs2[i]? = some x2,
    fun i H v H' => ∃ T x1 x2, v = .ref T ∧ H T = none ∧ H' = upd H T (.tup [x1, x2]) ∧ (∀ xs, SqV K b1 H a1 xs → xs[i]? = some x1) ∧ (∀ xs, SqV K b2 H a2 xs → xs[i]? = some x2),
    fun i H => ∃ xs1 xs2 : List V, SqV K b1 H a1 xs1 ∧ i ≤ xs1.length ∧ SqV K b2 H a2 xs2 ∧ i ≤ xs2.length ∧ (i = xs1.length ∨ i = xs2.length)⟩
def zTn2 (b1 : Bool) (a1 : Addr) (b2 : Bool) (a2 : Addr) (N : Addr) (i : Nat) (h : Heap) : Prop :=
  IsZip h (N + 4) (N + 2) (N + 3) .none ∧ IsTupOf2 h (N + 2) (.ref (N)) (.ref (N + 1)) ∧ (∃ x1 x2, IsTupOf2 h (N + 3) x1 x2) ∧ ItB b1 h (N) a1 i ∧ ItB b2 h (N + 1) a2 i
theorem turn_z2 {P : Program} {w : World} {K : PySem.W.Frag} {elts : List Expr} {kk : Nat} {tpos : Pos} {b1 b2 : Bool} {a1 a2 N : Addr} (h1 : a1 < N) (h2 : a2 < N) :
    Turn P w K (.Tuple elts kk tpos) (ItZ2 K b1 a1 b2 a2) [N + 4, N + 2, N + 3, N, N + 1] (N + 4) (zTn2 b1 a1 b2 a2 N) where
  mem := by simp
  obj := fun i h st c hc => by
    obtain ⟨hz, hTI, ⟨x1, x2, hTO⟩, t1, t2⟩ := st
    have e' : c = N + 4 ∨ c = N + 2 ∨ c = N + 3 ∨ c = N ∨ c = N + 1 := by simpa using hc
    rcases e' with q | q | q | q | q
    · rw [q]; exact ⟨_, hz, fun v z => nomatch z⟩
    · rw [q]; exact ⟨_, hTI, fun v z => nomatch z⟩
    · rw [q]; exact ⟨_, hTO, fun v z => nomatch z⟩
    · rw [q]; exact t1.obj
    · rw [q]; exact t2.obj
  keep := fun i h g st k => by
    obtain ⟨hz, hTI, ⟨x1, x2, hTO⟩, t1, t2⟩ := st
    exact ⟨k _ (by simp) _ hz, k _ (by simp) _ hTI, ⟨x1, x2, k _ (by simp) _ hTO⟩, t1.at fun o q => k _ (by simp) o q, t2.at fun o q => k _ (by simp) o q⟩
  item := by
    intro X hP hw hK hc i pins s σ H E I hf st hg
    subst hP hw hK
    obtain ⟨hz, hTI, ⟨y1, y2, hTO⟩, t1, t2⟩ := st
    obtain ⟨xs1, x1, xs2, x2, q1, e1, q2, e2⟩ := hg
    obtain ⟨its1, rv1, p1⟩ := srcV I q1
    obtain ⟨u1, hu1, ru1⟩ := rv1.get e1
    have hl1 : i < its1.toArray.size := by rw [List.size_toArray]; exact (List.getElem?_eq_some_iff.mp hu1).1
    obtain ⟨its2, rv2, p2⟩ := srcV I q2
    obtain ⟨u2, hu2, ru2⟩ := rv2.get e2
    have hl2 : i < its2.toArray.size := by rw [List.size_toArray]; exact (List.getElem?_eq_some_iff.mp hu2).1
    have hzl : N + 4 < s.heap.objs.size := Heap.lt_size hz
    refine wpAny_pyNext_zipD2_item (zip_sep2 (N := N) (fp1 := [a1]) (fp2 := [a2]) (fun c hc => by rw [List.mem_singleton.mp hc]; exact h1) (fun c hc => by rw [List.mem_singleton.mp hc]; exact h2)) (drB (A := X.A.in1) b1 (I.ok.hd hc) (N) a1 (zlt h1 0) its1.toArray) (drB (A := X.A.in1) b2 (I.ok.hd hc) (N + 1) a2 (zlt h2 1) its2.toArray) hz hTI hTO (show ItB b1 s.heap (N) a1 i ∧ SqB b1 s.heap a1 its1.toArray from ⟨t1, p1⟩) (show ItB b2 s.heap (N + 1) a2 i ∧ SqB b2 s.heap a2 its2.toArray from ⟨t2, p2⟩) hl1 hl2 fun v1 v2 g tk d1 d2 z' TO' s1 s2 hT hsz hk => ?_
    have d1 : u1 = v1 := by rw [List.getElem?_toArray, hu1] at d1; exact Option.some.inj d1
    subst d1
    have d2 : u2 = v2 := by rw [List.getElem?_toArray, hu2] at d2; exact Option.some.inj d2
    subst d2
    refine ⟨_, rfl, wpAny_letOwnedTupleGo_zip (s := { s with heap := g, toks := tk }) z' fun g2 z2 sb => ?_⟩
    have hT2 : g2.get? s.heap.objs.size = some { cls := .type "tuple", data := .seq #[u1, u2] } := (sb.2 _ (Nat.ne_of_gt hzl)).trans hT
    have new : ObjOk X.prog X.w (upd H s.heap.objs.size (.tup [x1, x2])) g2 s.heap.objs.size (.tup [x1, x2]) :=
      ⟨by show 2 ≤ sizeLine; decide, [u1, u2], .cons ru1 (.cons ru2 (.nil)), ⟨_, hT2, rfl, _, rfl⟩⟩
    have I1 : Inv X pins σ (upd H s.heap.objs.size (.tup [x1, x2])) { s with heap := g2, toks := tk } :=
      I.turnedNew (t' := tk) (ch := [N + 4, N + 2, N + 3, N, N + 1]) (fun c o hb q => (sb.2 c (fun q' => hb (by simp [q']))).trans (hk c o (fun q' => hb (by simp [q'])) (fun q' => hb (by simp [q'])) (fun q' => hb (by simp [q'])) (fun q' => hb (by simp [q'])) q)) hf (Nat.le_refl _) new
    refine ⟨.ref s.heap.objs.size, _, I1, rfl, ⟨_, x1, x2, rfl, I.hok.fresh (Nat.le_refl _), rfl, fun l hl => by rw [SqV.inj I hl q1]; exact e1, fun l hl => by rw [SqV.inj I hl q2]; exact e2⟩, ⟨z2, ?_, ⟨u1, u2, ?_⟩, ?_, ?_⟩, fun c hcm => ?_⟩
    · exact (sb.2 _ (zne N 2 4 (by decide))).trans (hk _ _ (zne N 2 4 (by decide)) (zne N 2 3 (by decide)) (zne N 2 0 (by decide)) (zne N 2 1 (by decide)) hTI)
    · exact (sb.2 _ (zne N 3 4 (by decide))).trans TO'
    · exact s1.1.at fun o q => (sb.2 _ (zne N 0 4 (by decide))).trans q
    · exact s2.1.at fun o q => (sb.2 _ (zne N 1 4 (by decide))).trans q
    · have hlt : c < s.heap.objs.size := by
        have e' : c = N + 4 ∨ c = N + 2 ∨ c = N + 3 ∨ c = N ∨ c = N + 1 := by simpa using hcm
        rcases e' with q | q | q | q | q
        · rw [q]; exact zle (N := N) 4 4 (by decide) hzl
        · rw [q]; exact zle (N := N) 2 4 (by decide) hzl
        · rw [q]; exact zle (N := N) 3 4 (by decide) hzl
        · rw [q]; exact zle (N := N) 0 4 (by decide) hzl
        · rw [q]; exact zle (N := N) 1 4 (by decide) hzl
      rw [upd_ne (Nat.ne_of_lt hlt)]
      exact (hf c hcm).1
  done := by
    intro X hP hw hK hc i pins s σ H E I hf st hg
    subst hP hw hK
    obtain ⟨hz, hTI, ⟨y1, y2, hTO⟩, t1, t2⟩ := st
    obtain ⟨xs1, xs2, q1, l1, q2, l2, hend⟩ := hg
    obtain ⟨its1, rv1, p1⟩ := srcV I q1
    have z1 : its1.toArray.size = xs1.length := by rw [List.size_toArray]; exact rv1.length.symm
    obtain ⟨its2, rv2, p2⟩ := srcV I q2
    have z2 : its2.toArray.size = xs2.length := by rw [List.size_toArray]; exact rv2.length.symm
    refine wpAny_pyNext_zipD2_end (zip_sep2 (N := N) (fp1 := [a1]) (fp2 := [a2]) (fun c hc => by rw [List.mem_singleton.mp hc]; exact h1) (fun c hc => by rw [List.mem_singleton.mp hc]; exact h2)) (drB (A := X.A.in1) b1 (I.ok.hd hc) (N) a1 (zlt h1 0) its1.toArray) (drB (A := X.A.in1) b2 (I.ok.hd hc) (N + 1) a2 (zlt h2 1) its2.toArray) hz hTI hTO (show ItB b1 s.heap (N) a1 i ∧ SqB b1 s.heap a1 its1.toArray from ⟨t1, p1⟩) (show ItB b2 s.heap (N + 1) a2 i ∧ SqB b2 s.heap a2 its2.toArray from ⟨t2, p2⟩) (by rw [z1]; exact l1) (by rw [z2]; exact l2) (by rw [z1, z2]; exact hend) fun g tk hk => ⟨rfl, ?_⟩
    exact I.turnedL (t' := tk) (ch := [N + 4, N + 2, N + 3, N, N + 1]) (fun c o hb q => hk c o (fun q' => hb (by simp [q'])) (fun q' => hb (by simp [q'])) (fun q' => hb (by simp [q'])) (fun q' => hb (by simp [q'])) q) hf
  self := fun A i s Q E st h => wpAny_pyIter_zip st.1 h
def iZ2 (K : PySem.W.Frag) (ta : TA) : TI := fun σ H R => ta σ H fun vs H1 => ∃ b1 a1 xs1 b2 a2 xs2, vs = [.ref a1, .ref a2] ∧ SqV K b1 H1 a1 xs1 ∧ SqV K b2 H1 a2 xs2 ∧ R (ItZ2 K b1 a1 b2 a2) H1
theorem pi_z2 {X : Cx} {e1 e2 : Expr} {ta : TA} {p pos tpos : Pos} {elts : List Expr} {kk : Nat} (hg : Gl X "zip") (hm : X.mg "zip" = none) (ha : PA X [e1, e2] ta)
    (hs : starEach [e1, e2] X.env = (false, eval e1 X.env) :: starEach [e2] X.env) (hpl : (backTo pos (starEach [e2] X.env)).any (·.1) = false) :
    PI X (.Tuple elts kk tpos) (.Call (.Name "zip" p) [e1, e2] [] pos) (iZ2 X.K ta) := by
  refine ⟨fun pins s σ H R I h => ?_⟩
  refine Call_ (ld_blt I hg hm PyProof.Rows.boot_zip (PyProof.Rows.callWith_type1 (thn (ha.run pos pins s σ H _ I h) fun us s1 ⟨vs, H1, I1, r1, q1⟩ => ?_) hs hpl))
  obtain ⟨b1, a1, xs1, b2, a2, xs2, ex, q1, q2, q⟩ := q1
  subst ex
  cases r1 with
  | cons w1 r1 =>
    cases r1 with
    | cons w2 r1 =>
      cases r1
      cases w1
      cases w2
      obtain ⟨its1, rv1, p1⟩ := srcV I1 q1
      obtain ⟨its2, rv2, p2⟩ := srcV I1 q2
      refine zip_begins2 (bgB b1 a1 its1.toArray) (bgB b2 a2 its2.toArray) p1 p2 fun g hz hTI hTO g1 g2 hsz hk => wpAny_pyIter_zip hz ?_
      have I2 : Inv X pins σ H1 { s1 with heap := g } := I1.kept (t' := s1.toks) hk
      refine ⟨s1.heap.objs.size + 4, [s1.heap.objs.size + 4, s1.heap.objs.size + 2, s1.heap.objs.size + 3, s1.heap.objs.size, s1.heap.objs.size + 1], _, _, H1, rfl, I2, turn_z2 p1.lt p2.lt, ⟨hz, hTI, ⟨_, _, hTO⟩, itB0 g1, itB0 g2⟩, fun c hcm => ?_, q⟩
      have hle : s1.heap.objs.size ≤ c := by
        have e' : c = s1.heap.objs.size + 4 ∨ c = s1.heap.objs.size + 2 ∨ c = s1.heap.objs.size + 3 ∨ c = s1.heap.objs.size ∨ c = s1.heap.objs.size + 1 := by simpa using hcm
        rcases e' with q | q | q | q | q
        · rw [q]; exact zge _ 4
        · rw [q]; exact zge _ 2
        · rw [q]; exact zge _ 3
        · rw [q]; exact zge _ 0
        · rw [q]; exact zge _ 1
      exact I1.fpOk hle (I1.hok.fresh hle)

def ItZ3 (K : PySem.W.Frag) (b1 : Bool) (a1 : Addr) (b2 : Bool) (a2 : Addr) (b3 : Bool) (a3 : Addr) : It :=
  ⟨fun i H => ∃ (xs1 : List V) (x1 : V),  ∃ (xs2 : List V) (x2 : V),  ∃ (xs3 : List V) (x3 : V), SqV K b1 H a1 xs1 ∧ xs1[i]? = some x1 ∧ SqV K b2 H a2 xs2 ∧ xs2[i]? = some x2 ∧ SqV K b3 H a3 xs3 ∧ xs3[i]? = some x3,
    fun i H v H' => ∃ T x1 x2 x3, v = .ref T ∧ H T = none ∧ H' = upd H T (.tup [x1, x2, x3]) ∧ (∀ xs, SqV K b1 H a1 xs → xs[i]? = some x1) ∧ (∀ xs, SqV K b2 H a2 xs → xs[i]? = some x2) ∧ (∀ xs, SqV K b3 H a3 xs → xs[i]? = some x3),
    fun i H => ∃ xs1 xs2 xs3 : List V, SqV K b1 H a1 xs1 ∧ i ≤ xs1.length ∧ SqV K b2 H a2 xs2 ∧ i ≤ xs2.length ∧ SqV K b3 H a3 xs3 ∧ i ≤ xs3.length ∧ (i = xs1.length ∨ i = xs2.length ∨ i = xs3.length)⟩
def zTn3 (b1 : Bool) (a1 : Addr) (b2 : Bool) (a2 : Addr) (b3 : Bool) (a3 : Addr) (N : Addr) (i : Nat) (h : Heap) : Prop :=
  IsZip h (N + 5) (N + 3) (N + 4) .none ∧ IsTupOf3 h (N + 3) (.ref (N)) (.ref (N + 1)) (.ref (N + 2)) ∧ (∃ x1 x2 x3, IsTupOf3 h (N + 4) x1 x2 x3) ∧ ItB b1 h (N) a1 i ∧ ItB b2 h (N + 1) a2 i ∧ ItB b3 h (N + 2) a3 i
theorem turn_z3 {P : Program} {w : World} {K : PySem.W.Frag} {elts : List Expr} {kk : Nat} {tpos : Pos} {b1 b2 b3 : Bool} {a1 a2 a3 N : Addr} (h1 : a1 < N) (h2 : a2 < N) (h3 : a3 < N) :
    Turn P w K (.Tuple elts kk tpos) (ItZ3 K b1 a1 b2 a2 b3 a3) [N + 5, N + 3, N + 4, N, N + 1, N + 2] (N + 5) (zTn3 b1 a1 b2 a2 b3 a3 N) where
  mem := by simp
  obj := fun i h st c hc => by
    obtain ⟨hz, hTI, ⟨x1, x2, x3, hTO⟩, t1, t2, t3⟩ := st
    have e' : c = N + 5 ∨ c = N + 3 ∨ c = N + 4 ∨ c = N ∨ c = N + 1 ∨ c = N + 2 := by simpa using hc
    rcases e' with q | q | q | q | q | q
    · rw [q]; exact ⟨_, hz, fun v z => nomatch z⟩
    · rw [q]; exact ⟨_, hTI, fun v z => nomatch z⟩
    · rw [q]; exact ⟨_, hTO, fun v z => nomatch z⟩
    · rw [q]; exact t1.obj
    · rw [q]; exact t2.obj
    · rw [q]; exact t3.obj
  keep := fun i h g st k => by
    obtain ⟨hz, hTI, ⟨x1, x2, x3, hTO⟩, t1, t2, t3⟩ := st
    exact ⟨k _ (by simp) _ hz, k _ (by simp) _ hTI, ⟨x1, x2, x3, k _ (by simp) _ hTO⟩, t1.at fun o q => k _ (by simp) o q, t2.at fun o q => k _ (by simp) o q, t3.at fun o q => k _ (by simp) o q⟩
  item := by
    intro X hP hw hK hc i pins s σ H E I hf st hg
    subst hP hw hK
    obtain ⟨hz, hTI, ⟨y1, y2, y3, hTO⟩, t1, t2, t3⟩ := st
    obtain ⟨xs1, x1, xs2, x2, xs3, x3, q1, e1, q2, e2, q3, e3⟩ := hg
    obtain ⟨its1, rv1, p1⟩ := srcV I q1
    obtain ⟨u1, hu1, ru1⟩ := rv1.get e1
    have hl1 : i < its1.toArray.size := by rw [List.size_toArray]; exact (List.getElem?_eq_some_iff.mp hu1).1
    obtain ⟨its2, rv2, p2⟩ := srcV I q2
    obtain ⟨u2, hu2, ru2⟩ := rv2.get e2
    have hl2 : i < its2.toArray.size := by rw [List.size_toArray]; exact (List.getElem?_eq_some_iff.mp hu2).1
    obtain ⟨its3, rv3, p3⟩ := srcV I q3
    obtain ⟨u3, hu3, ru3⟩ := rv3.get e3
    have hl3 : i < its3.toArray.size := by rw [List.size_toArray]; exact (List.getElem?_eq_some_iff.mp hu3).1
    have hzl : N + 5 < s.heap.objs.size := Heap.lt_size hz
    refine wpAny_pyNext_zipD3_item (zip_sep3 (N := N) (fp1 := [a1]) (fp2 := [a2]) (fp3 := [a3]) (fun c hc => by rw [List.mem_singleton.mp hc]; exact h1) (fun c hc => by rw [List.mem_singleton.mp hc]; exact h2) (fun c hc => by rw [List.mem_singleton.mp hc]; exact h3)) (drB (A := X.A.in1) b1 (I.ok.hd hc) (N) a1 (zlt h1 0) its1.toArray) (drB (A := X.A.in1) b2 (I.ok.hd hc) (N + 1) a2 (zlt h2 1) its2.toArray) (drB (A := X.A.in1) b3 (I.ok.hd hc) (N + 2) a3 (zlt h3 2) its3.toArray) hz hTI hTO (show ItB b1 s.heap (N) a1 i ∧ SqB b1 s.heap a1 its1.toArray from ⟨t1, p1⟩) (show ItB b2 s.heap (N + 1) a2 i ∧ SqB b2 s.heap a2 its2.toArray from ⟨t2, p2⟩) (show ItB b3 s.heap (N + 2) a3 i ∧ SqB b3 s.heap a3 its3.toArray from ⟨t3, p3⟩) hl1 hl2 hl3 fun v1 v2 v3 g tk d1 d2 d3 z' TO' s1 s2 s3 hT hsz hk => ?_
    have d1 : u1 = v1 := by rw [List.getElem?_toArray, hu1] at d1; exact Option.some.inj d1
    subst d1
    have d2 : u2 = v2 := by rw [List.getElem?_toArray, hu2] at d2; exact Option.some.inj d2
    subst d2
    have d3 : u3 = v3 := by rw [List.getElem?_toArray, hu3] at d3; exact Option.some.inj d3
    subst d3
    refine ⟨_, rfl, wpAny_letOwnedTupleGo_zip (s := { s with heap := g, toks := tk }) z' fun g2 z2 sb => ?_⟩
    have hT2 : g2.get? s.heap.objs.size = some { cls := .type "tuple", data := .seq #[u1, u2, u3] } := (sb.2 _ (Nat.ne_of_gt hzl)).trans hT
    have new : ObjOk X.prog X.w (upd H s.heap.objs.size (.tup [x1, x2, x3])) g2 s.heap.objs.size (.tup [x1, x2, x3]) :=
      ⟨by show 3 ≤ sizeLine; decide, [u1, u2, u3], .cons ru1 (.cons ru2 (.cons ru3 (.nil))), ⟨_, hT2, rfl, _, rfl⟩⟩
    have I1 : Inv X pins σ (upd H s.heap.objs.size (.tup [x1, x2, x3])) { s with heap := g2, toks := tk } :=
      I.turnedNew (t' := tk) (ch := [N + 5, N + 3, N + 4, N, N + 1, N + 2]) (fun c o hb q => (sb.2 c (fun q' => hb (by simp [q']))).trans (hk c o (fun q' => hb (by simp [q'])) (fun q' => hb (by simp [q'])) (fun q' => hb (by simp [q'])) (fun q' => hb (by simp [q'])) (fun q' => hb (by simp [q'])) q)) hf (Nat.le_refl _) new
    refine ⟨.ref s.heap.objs.size, _, I1, rfl, ⟨_, x1, x2, x3, rfl, I.hok.fresh (Nat.le_refl _), rfl, fun l hl => by rw [SqV.inj I hl q1]; exact e1, fun l hl => by rw [SqV.inj I hl q2]; exact e2, fun l hl => by rw [SqV.inj I hl q3]; exact e3⟩, ⟨z2, ?_, ⟨u1, u2, u3, ?_⟩, ?_, ?_, ?_⟩, fun c hcm => ?_⟩
    · exact (sb.2 _ (zne N 3 5 (by decide))).trans (hk _ _ (zne N 3 5 (by decide)) (zne N 3 4 (by decide)) (zne N 3 0 (by decide)) (zne N 3 1 (by decide)) (zne N 3 2 (by decide)) hTI)
    · exact (sb.2 _ (zne N 4 5 (by decide))).trans TO'
    · exact s1.1.at fun o q => (sb.2 _ (zne N 0 5 (by decide))).trans q
    · exact s2.1.at fun o q => (sb.2 _ (zne N 1 5 (by decide))).trans q
    · exact s3.1.at fun o q => (sb.2 _ (zne N 2 5 (by decide))).trans q
    · have hlt : c < s.heap.objs.size := by
        have e' : c = N + 5 ∨ c = N + 3 ∨ c = N + 4 ∨ c = N ∨ c = N + 1 ∨ c = N + 2 := by simpa using hcm
        rcases e' with q | q | q | q | q | q
        · rw [q]; exact zle (N := N) 5 5 (by decide) hzl
        · rw [q]; exact zle (N := N) 3 5 (by decide) hzl
        · rw [q]; exact zle (N := N) 4 5 (by decide) hzl
        · rw [q]; exact zle (N := N) 0 5 (by decide) hzl
        · rw [q]; exact zle (N := N) 1 5 (by decide) hzl
        · rw [q]; exact zle (N := N) 2 5 (by decide) hzl
      rw [upd_ne (Nat.ne_of_lt hlt)]
      exact (hf c hcm).1
  done := by
    intro X hP hw hK hc i pins s σ H E I hf st hg
    subst hP hw hK
    obtain ⟨hz, hTI, ⟨y1, y2, y3, hTO⟩, t1, t2, t3⟩ := st
    obtain ⟨xs1, xs2, xs3, q1, l1, q2, l2, q3, l3, hend⟩ := hg
    obtain ⟨its1, rv1, p1⟩ := srcV I q1
    have z1 : its1.toArray.size = xs1.length := by rw [List.size_toArray]; exact rv1.length.symm
    obtain ⟨its2, rv2, p2⟩ := srcV I q2
    have z2 : its2.toArray.size = xs2.length := by rw [List.size_toArray]; exact rv2.length.symm
    obtain ⟨its3, rv3, p3⟩ := srcV I q3
    have z3 : its3.toArray.size = xs3.length := by rw [List.size_toArray]; exact rv3.length.symm
    refine wpAny_pyNext_zipD3_end (zip_sep3 (N := N) (fp1 := [a1]) (fp2 := [a2]) (fp3 := [a3]) (fun c hc => by rw [List.mem_singleton.mp hc]; exact h1) (fun c hc => by rw [List.mem_singleton.mp hc]; exact h2) (fun c hc => by rw [List.mem_singleton.mp hc]; exact h3)) (drB (A := X.A.in1) b1 (I.ok.hd hc) (N) a1 (zlt h1 0) its1.toArray) (drB (A := X.A.in1) b2 (I.ok.hd hc) (N + 1) a2 (zlt h2 1) its2.toArray) (drB (A := X.A.in1) b3 (I.ok.hd hc) (N + 2) a3 (zlt h3 2) its3.toArray) hz hTI hTO (show ItB b1 s.heap (N) a1 i ∧ SqB b1 s.heap a1 its1.toArray from ⟨t1, p1⟩) (show ItB b2 s.heap (N + 1) a2 i ∧ SqB b2 s.heap a2 its2.toArray from ⟨t2, p2⟩) (show ItB b3 s.heap (N + 2) a3 i ∧ SqB b3 s.heap a3 its3.toArray from ⟨t3, p3⟩) (by rw [z1]; exact l1) (by rw [z2]; exact l2) (by rw [z3]; exact l3) (by rw [z1, z2, z3]; exact hend) fun g tk hk => ⟨rfl, ?_⟩
    exact I.turnedL (t' := tk) (ch := [N + 5, N + 3, N + 4, N, N + 1, N + 2]) (fun c o hb q => hk c o (fun q' => hb (by simp [q'])) (fun q' => hb (by simp [q'])) (fun q' => hb (by simp [q'])) (fun q' => hb (by simp [q'])) (fun q' => hb (by simp [q'])) q) hf
  self := fun A i s Q E st h => wpAny_pyIter_zip st.1 h
def iZ3 (K : PySem.W.Frag) (ta : TA) : TI := fun σ H R => ta σ H fun vs H1 => ∃ b1 a1 xs1 b2 a2 xs2 b3 a3 xs3, vs = [.ref a1, .ref a2, .ref a3] ∧ SqV K b1 H1 a1 xs1 ∧ SqV K b2 H1 a2 xs2 ∧ SqV K b3 H1 a3 xs3 ∧ R (ItZ3 K b1 a1 b2 a2 b3 a3) H1
theorem pi_z3 {X : Cx} {e1 e2 e3 : Expr} {ta : TA} {p pos tpos : Pos} {elts : List Expr} {kk : Nat} (hg : Gl X "zip") (hm : X.mg "zip" = none) (ha : PA X [e1, e2, e3] ta)
    (hs : starEach [e1, e2, e3] X.env = (false, eval e1 X.env) :: starEach [e2, e3] X.env) (hpl : (backTo pos (starEach [e2, e3] X.env)).any (·.1) = false) :
    PI X (.Tuple elts kk tpos) (.Call (.Name "zip" p) [e1, e2, e3] [] pos) (iZ3 X.K ta) := by
  refine ⟨fun pins s σ H R I h => ?_⟩
  refine Call_ (ld_blt I hg hm PyProof.Rows.boot_zip (PyProof.Rows.callWith_type1 (thn (ha.run pos pins s σ H _ I h) fun us s1 ⟨vs, H1, I1, r1, q1⟩ => ?_) hs hpl))
  obtain ⟨b1, a1, xs1, b2, a2, xs2, b3, a3, xs3, ex, q1, q2, q3, q⟩ := q1
  subst ex
  cases r1 with
  | cons w1 r1 =>
    cases r1 with
    | cons w2 r1 =>
      cases r1 with
      | cons w3 r1 =>
        cases r1
        cases w1
        cases w2
        cases w3
        obtain ⟨its1, rv1, p1⟩ := srcV I1 q1
        obtain ⟨its2, rv2, p2⟩ := srcV I1 q2
        obtain ⟨its3, rv3, p3⟩ := srcV I1 q3
        refine zip_begins3 (bgB b1 a1 its1.toArray) (bgB b2 a2 its2.toArray) (bgB b3 a3 its3.toArray) p1 p2 p3 fun g hz hTI hTO g1 g2 g3 hsz hk => wpAny_pyIter_zip hz ?_
        have I2 : Inv X pins σ H1 { s1 with heap := g } := I1.kept (t' := s1.toks) hk
        refine ⟨s1.heap.objs.size + 5, [s1.heap.objs.size + 5, s1.heap.objs.size + 3, s1.heap.objs.size + 4, s1.heap.objs.size, s1.heap.objs.size + 1, s1.heap.objs.size + 2], _, _, H1, rfl, I2, turn_z3 p1.lt p2.lt p3.lt, ⟨hz, hTI, ⟨_, _, _, hTO⟩, itB0 g1, itB0 g2, itB0 g3⟩, fun c hcm => ?_, q⟩
        have hle : s1.heap.objs.size ≤ c := by
          have e' : c = s1.heap.objs.size + 5 ∨ c = s1.heap.objs.size + 3 ∨ c = s1.heap.objs.size + 4 ∨ c = s1.heap.objs.size ∨ c = s1.heap.objs.size + 1 ∨ c = s1.heap.objs.size + 2 := by simpa using hcm
          rcases e' with q | q | q | q | q | q
          · rw [q]; exact zge _ 5
          · rw [q]; exact zge _ 3
          · rw [q]; exact zge _ 4
          · rw [q]; exact zge _ 0
          · rw [q]; exact zge _ 1
          · rw [q]; exact zge _ 2
        exact I1.fpOk hle (I1.hok.fresh hle)
end U

set_option Elab.async false
set_option linter.all false
set_option maxRecDepth 100000
set_option maxHeartbeats 1000000
/-! U11: generator expressions by data; any, all, sum of lists; zip. -/
namespace U
open PySem PySem.Spec PyProof.Rows L2

/-! ### what is walked while the store stays as it is -/
def Itm0 (K : PySem.W.Frag) (T hid : List Addr) (J : It) (H0 : Hp) (M0 : Mu) (ds : List D) : Prop :=
  ∀ H, Sto K T hid H M0 → Ext hid H0 M0 H M0 →
    (∀ i, i < ds.length → J.go i H ∧ ∀ x H', J.yld i H x H' → ∃ d, ds[i]? = some d ∧ Sto K T hid H' M0 ∧ Ext hid H M0 H' M0 ∧ Rv K hid H' M0 x d) ∧ J.stop ds.length H
def ISim0 (K : PySem.W.Frag) (T : List Addr) (W : WX) (wi : TI) (fi : FI) : Prop :=
  ∀ hid σ H ρ M xw Q (R : It → Hp → Prop), REnv K hid H M σ ρ → Sto K T hid H M → WOk K T hid W σ H M xw → fi xw ρ M Q →
    (∀ J H' M' ds, Sto K T hid H' M' → Ext hid H M H' M' → Itm0 K T hid J H' M' ds → Q ds M' → R J H') → wi σ H R
def DI0 (X : Cx) (T : List Addr) (W : WX) (tg iter : Expr) (fi : FI) : Prop := ∃ wi, PI X tg iter wi ∧ ISim0 X.K T W wi fi
theorem Itm.zero {K : PySem.W.Frag} {T hid : List Addr} {J : It} {H0 : Hp} {M0 : Mu} {ds : List D} (h : Itm K T hid J H0 M0 ds) : Itm0 K T hid J H0 M0 ds := fun H s e => h hid H M0 s e.car
theorem DI.zero {X : Cx} {T : List Addr} {W : WX} {tg iter : Expr} {fi : FI} (h : DI X T W tg iter fi) : DI0 X T W tg iter fi :=
  let ⟨wi, p, s⟩ := h
  ⟨wi, p, fun hid σ H ρ M xw Q R r st w q k => s hid σ H ρ M xw Q R r st w q fun J H' M' ds s1 e1 im q1 => k J H' M' ds s1 e1 im.zero q1⟩
/-- a list (also one that is written elsewhere) or a tuple -/
def fSeqA (f : FE) : FI := fun xw ρ M Q => f xw ρ M fun d M1 => match seqOf M1 d with
  | some ds => Q ds M1
  | none => False
section
variable {X : Cx} {T : List Addr} {W : WX} {tg : Expr}
theorem di0_seq {e : Expr} {f : FE} (h : DE X T W e f) : DI0 X T W tg e (fSeqA f) := by
  obtain ⟨t, p, sa⟩ := h
  refine ⟨_, pi_lt p, fun hid σ H ρ M xw Q R r s w q k => ?_⟩
  refine sa hid σ H ρ M xw _ _ r s w q fun v H1 d M1 s1 e1 r1 q1 => ?_
  split at q1
  · rename_i ds e
    cases d with
    | tup es =>
      cases e
      cases r1 with
      | tup h1 h2 => exact ⟨_, rfl, .inr ⟨⟨_, h1⟩, k _ H1 M1 _ s1 e1 (itm_tup h1 h2).zero q1⟩⟩
    | lst es =>
      cases e
      cases r1 with
      | lst h1 h2 => exact ⟨_, rfl, .inl ⟨⟨_, h1.sq⟩, k _ H1 M1 _ s1 e1 (itm_list h1 h2).zero q1⟩⟩
    | loc a =>
      cases r1
      have e : (match M1 a with
        | some (.lst ds) => some ds
        | _ => none) = some ds := e
      have em : M1 a = some (.lst ds) := by
        cases q : M1 a with
        | none => rw [q] at e; cases e
        | some m =>
          rw [q] at e
          cases m with
          | lst es => cases e; rfl
          | _ => cases e
      obtain ⟨xs, h4, h5, _⟩ := s1.at em
      refine ⟨a, rfl, .inl ⟨⟨xs, SqL.of h4⟩, k _ H1 M1 ds s1 e1 (fun H2 s2 e2 => ?_) q1⟩⟩
      obtain ⟨xs, h4, h5, _⟩ := s2.at em
      have hl := h5.length
      refine ⟨fun i hi => ⟨⟨xs, xs[i]'(by omega), SqL.of h4, List.getElem?_eq_getElem (by omega)⟩, fun x H3 y => ?_⟩, ⟨xs, SqL.of h4, by omega⟩⟩
      obtain ⟨rfl, y⟩ := y
      obtain ⟨v, k1, k2⟩ := h5.get i (d := ds[i]) (List.getElem?_eq_getElem hi)
      rw [y xs (SqL.of h4)] at k1
      cases k1
      exact ⟨_, List.getElem?_eq_getElem hi, s2, Ext.refl _ _ _, k2⟩
    | _ => cases e
  · exact q1.elim
/-- a list that stays | a tuple -/
def FzV (K : PySem.W.Frag) (hid : List Addr) (H : Hp) (M : Mu) : Bool → Addr → List V → Prop
  | true, a, xs => FzL K hid H M a xs
  | false, a, xs => SqT K H a xs
theorem FzV.car {K : PySem.W.Frag} {hid hid' : List Addr} {H H' : Hp} {M M' : Mu} {b : Bool} {a : Addr} {xs : List V} (h : FzV K hid H M b a xs) (c : Car K hid H M hid' H' M') : SqV K b H' a xs := by
  cases b with
  | true => exact (c.fzL _ _ h).sq
  | false => exact c.sqT _ _ h
theorem FzV.sq {K : PySem.W.Frag} {hid : List Addr} {H : Hp} {M : Mu} {b : Bool} {a : Addr} {xs : List V} (h : FzV K hid H M b a xs) : SqV K b H a xs := by
  cases b with
  | true => exact FzL.sq h
  | false => exact h
/-- zip of two tuples | lists -/
def fZip (fa : FA) : FI := fun xw ρ M Q => fa xw ρ M fun ds M1 => match ds with
  | [.tup as, .tup bs] => Q ((as.zip bs).map fun p => .tup [p.1, p.2]) M1
  | [.lst as, .lst bs] => Q ((as.zip bs).map fun p => .tup [p.1, p.2]) M1
  | [.tup as, .lst bs] => Q ((as.zip bs).map fun p => .tup [p.1, p.2]) M1
  | [.lst as, .tup bs] => Q ((as.zip bs).map fun p => .tup [p.1, p.2]) M1
  | _ => False
theorem itm_z2 {K : PySem.W.Frag} {hid : List Addr} {H : Hp} {M : Mu} {b1 b2 : Bool} {a b : Addr} {xs ys : List V} {as bs : List D} (h1 : FzV K hid H M b1 a xs) (r1 : Rvs K hid H M xs as) (h2 : FzV K hid H M b2 b ys) (r2 : Rvs K hid H M ys bs) :
    Itm K T hid (ItZ2 K b1 a b2 b) H M ((as.zip bs).map fun p => .tup [p.1, p.2]) := by
  intro hid' H' M' s c
  have h1' := h1.car c
  have h2' := h2.car c
  have r1' := c.rvs _ _ r1
  have r2' := c.rvs _ _ r2
  have l1 := r1.length
  have l2 := r2.length
  have hl : ((as.zip bs).map fun p => D.tup [p.1, p.2]).length = min as.length bs.length := by rw [List.length_map, List.length_zip]
  refine ⟨fun i hi => ?_, ⟨xs, ys, h1', by rw [hl]; omega, h2', by rw [hl]; omega, by rw [hl]; omega⟩⟩
  have hi1 : i < as.length := by omega
  have hi2 : i < bs.length := by omega
  refine ⟨⟨xs, xs[i]'(by omega), ys, ys[i]'(by omega), h1', List.getElem?_eq_getElem (by omega), h2', List.getElem?_eq_getElem (by omega)⟩, fun v H2 y => ?_⟩
  obtain ⟨t, x, y', rfl, hT, rfl, f1, f2⟩ := y
  obtain ⟨v1, e1, q1⟩ := r1'.get i (d := as[i]) (List.getElem?_eq_getElem hi1)
  obtain ⟨v2, e2, q2⟩ := r2'.get i (d := bs[i]) (List.getElem?_eq_getElem hi2)
  rw [f1 xs h1'] at e1
  rw [f2 ys h2'] at e2
  cases e1
  cases e2
  have e := Ext.new (o := .tup [x, y']) s hT
  refine ⟨.tup [as[i], bs[i]], by rw [List.getElem?_map, List.getElem?_eq_getElem (by rw [List.length_zip]; omega), List.getElem_zip]; rfl, s.new hT, e, .tup (.inl (.inl upd_same)) (.cons (e.rv _ _ q1) (.cons (e.rv _ _ q2) .nil))⟩
theorem di_zip {e e2 : Expr} {fa : FA} {p pos tpos : Pos} {elts : List Expr} {kk : Nat} (hg : Gl X "zip") (hm : X.mg "zip" = none) (ha : DA X T W [e, e2] fa)
    (hs : starEach [e, e2] X.env = (false, eval e X.env) :: starEach [e2] X.env) (hpl : (backTo pos (starEach [e2] X.env)).any (·.1) = false) :
    DI X T W (.Tuple elts kk tpos) (.Call (.Name "zip" p) [e, e2] [] pos) (fZip fa) := by
  obtain ⟨t, pa, sa⟩ := ha
  refine ⟨_, pi_z2 hg hm pa hs hpl, fun hid σ H ρ M xw Q R r s w q k => ?_⟩
  refine sa hid σ H ρ M xw _ _ r s w q fun vs H1 ds M1 s1 e1 r1 q1 => ?_
  split at q1
  · cases r1 with
    | cons h r => cases r with
      | cons h' r =>
        cases r
        cases h with
        | tup h1 k1 => cases h' with
          | tup h2 k2 => exact ⟨false, _, _, false, _, _, rfl, h1, h2, k _ H1 M1 _ s1 e1 (itm_z2 (b1 := false) (b2 := false) h1 k1 h2 k2) q1⟩
  · cases r1 with
    | cons h r => cases r with
      | cons h' r =>
        cases r
        cases h with
        | lst h1 k1 => cases h' with
          | lst h2 k2 => exact ⟨true, _, _, true, _, _, rfl, h1.sq, h2.sq, k _ H1 M1 _ s1 e1 (itm_z2 (b1 := true) (b2 := true) h1 k1 h2 k2) q1⟩
  · cases r1 with
    | cons h r => cases r with
      | cons h' r =>
        cases r
        cases h with
        | tup h1 k1 => cases h' with
          | lst h2 k2 => exact ⟨false, _, _, true, _, _, rfl, h1, h2.sq, k _ H1 M1 _ s1 e1 (itm_z2 (b1 := false) (b2 := true) h1 k1 h2 k2) q1⟩
  · cases r1 with
    | cons h r => cases r with
      | cons h' r =>
        cases r
        cases h with
        | lst h1 k1 => cases h' with
          | tup h2 k2 => exact ⟨true, _, _, false, _, _, rfl, h1.sq, h2, k _ H1 M1 _ s1 e1 (itm_z2 (b1 := true) (b2 := false) h1 k1 h2 k2) q1⟩
  · exact q1.elim
/-- zip of three tuples | lists -/
def seqP : D → Option (List D)
  | .tup ds => some ds
  | .lst ds => some ds
  | _ => none
def fZip3 (fa : FA) : FI := fun xw ρ M Q => fa xw ρ M fun ds M1 => match ds with
  | [x, y, z] => (match seqP x, seqP y, seqP z with
    | some as, some bs, some cs => Q ((as.zip (bs.zip cs)).map fun p => .tup [p.1, p.2.1, p.2.2]) M1
    | _, _, _ => False)
  | _ => False
theorem seqP_src {K : PySem.W.Frag} {hid : List Addr} {H : Hp} {M : Mu} {v : V} {d : D} {ds : List D} (r : Rv K hid H M v d) (h : seqP d = some ds) : ∃ b a xs, v = .ref a ∧ FzV K hid H M b a xs ∧ Rvs K hid H M xs ds := by
  cases d with
  | tup es =>
    cases h
    cases r with
    | tup h1 k1 => exact ⟨false, _, _, rfl, h1, k1⟩
  | lst es =>
    cases h
    cases r with
    | lst h1 k1 => exact ⟨true, _, _, rfl, h1, k1⟩
  | _ => cases h
theorem itm_z3 {K : PySem.W.Frag} {hid : List Addr} {H : Hp} {M : Mu} {b1 b2 b3 : Bool} {a b c : Addr} {xs ys zs : List V} {as bs cs : List D} (h1 : FzV K hid H M b1 a xs) (r1 : Rvs K hid H M xs as) (h2 : FzV K hid H M b2 b ys) (r2 : Rvs K hid H M ys bs) (h3 : FzV K hid H M b3 c zs) (r3 : Rvs K hid H M zs cs) :
    Itm K T hid (ItZ3 K b1 a b2 b b3 c) H M ((as.zip (bs.zip cs)).map fun p => .tup [p.1, p.2.1, p.2.2]) := by
  intro hid' H' M' s c
  have h1' := h1.car c
  have h2' := h2.car c
  have h3' := h3.car c
  have r1' := c.rvs _ _ r1
  have r2' := c.rvs _ _ r2
  have r3' := c.rvs _ _ r3
  have l1 := r1.length
  have l2 := r2.length
  have l3 := r3.length
  have hl : ((as.zip (bs.zip cs)).map fun p => D.tup [p.1, p.2.1, p.2.2]).length = min as.length (min bs.length cs.length) := by rw [List.length_map, List.length_zip, List.length_zip]
  refine ⟨fun i hi => ?_, ⟨xs, ys, zs, h1', by rw [hl]; omega, h2', by rw [hl]; omega, h3', by rw [hl]; omega, by rw [hl]; omega⟩⟩
  have hi1 : i < as.length := by omega
  have hi2 : i < bs.length := by omega
  have hi3 : i < cs.length := by omega
  refine ⟨⟨xs, xs[i]'(by omega), ys, ys[i]'(by omega), zs, zs[i]'(by omega), h1', List.getElem?_eq_getElem (by omega), h2', List.getElem?_eq_getElem (by omega), h3', List.getElem?_eq_getElem (by omega)⟩, fun v H2 y => ?_⟩
  obtain ⟨t, x, y', z', rfl, hT, rfl, f1, f2, f3⟩ := y
  obtain ⟨v1, e1, q1⟩ := r1'.get i (d := as[i]) (List.getElem?_eq_getElem hi1)
  obtain ⟨v2, e2, q2⟩ := r2'.get i (d := bs[i]) (List.getElem?_eq_getElem hi2)
  obtain ⟨v3, e3, q3⟩ := r3'.get i (d := cs[i]) (List.getElem?_eq_getElem hi3)
  rw [f1 xs h1'] at e1
  rw [f2 ys h2'] at e2
  rw [f3 zs h3'] at e3
  cases e1
  cases e2
  cases e3
  have e := Ext.new (o := .tup [x, y', z']) s hT
  have hz : i < (bs.zip cs).length := by rw [List.length_zip]; omega
  refine ⟨.tup [as[i], bs[i], cs[i]], by rw [List.getElem?_map, List.getElem?_eq_getElem (by rw [List.length_zip]; omega), List.getElem_zip, List.getElem_zip]; rfl, s.new hT, e, .tup (.inl (.inl upd_same)) (.cons (e.rv _ _ q1) (.cons (e.rv _ _ q2) (.cons (e.rv _ _ q3) .nil)))⟩
theorem di_zip3 {e e2 e3 : Expr} {fa : FA} {p pos tpos : Pos} {elts : List Expr} {kk : Nat} (hg : Gl X "zip") (hm : X.mg "zip" = none) (ha : DA X T W [e, e2, e3] fa)
    (hs : starEach [e, e2, e3] X.env = (false, eval e X.env) :: starEach [e2, e3] X.env) (hpl : (backTo pos (starEach [e2, e3] X.env)).any (·.1) = false) :
    DI X T W (.Tuple elts kk tpos) (.Call (.Name "zip" p) [e, e2, e3] [] pos) (fZip3 fa) := by
  obtain ⟨t, pa, sa⟩ := ha
  refine ⟨_, pi_z3 hg hm pa hs hpl, fun hid σ H ρ M xw Q R r s w q k => ?_⟩
  refine sa hid σ H ρ M xw _ _ r s w q fun vs H1 ds M1 s1 e1 r1 q1 => ?_
  split at q1
  · cases r1 with
    | cons g1 r => cases r with
      | cons g2 r => cases r with
        | cons g3 r =>
          cases r
          split at q1
          · rename_i as bs cs z1 z2 z3
            obtain ⟨b1, a1, xs, rfl, h1, k1⟩ := seqP_src g1 z1
            obtain ⟨b2, a2, ys, rfl, h2, k2⟩ := seqP_src g2 z2
            obtain ⟨b3, a3, zs, rfl, h3, k3⟩ := seqP_src g3 z3
            exact ⟨b1, _, _, b2, _, _, b3, _, _, rfl, h1.sq, h2.sq, h3.sq, k _ H1 M1 _ s1 e1 (itm_z3 h1 k1 h2 k2 h3 k3) q1⟩
          · exact q1.elim
  · exact q1.elim
end

/-! ### any, all, sum of a list -/
def boolsD : List D → Option (List Bool)
  | [] => some []
  | .bl b :: ds => (boolsD ds).map (b :: ·)
  | _ => none
def intsD : List D → Option (List Int)
  | [] => some []
  | .int b :: ds => (intsD ds).map (b :: ·)
  | _ => none
theorem boolsD_ok {K : PySem.W.Frag} {hid : List Addr} {H : Hp} {M : Mu} : ∀ {ds : List D} {vs : List V} {bs : List Bool}, boolsD ds = some bs → Rvs K hid H M vs ds → vs = bs.map V.bl
  | [], _, _, e, r => by cases e; cases r; rfl
  | .bl b :: ds, _, bs, e, r => by
    cases r with
    | cons h r =>
      unfold boolsD at e
      cases q : boolsD ds with
      | none => rw [q] at e; cases e
      | some cs =>
        rw [q] at e
        cases e
        cases h
        rw [boolsD_ok q r]; rfl
  | .non :: _, _, _, e, _ | .int _ :: _, _, _, e, _ | .str _ :: _, _, _, e, _ | .tup _ :: _, _, _, e, _ | .lst _ :: _, _, _, e, _ | .loc _ :: _, _, _, e, _ | .ty _ :: _, _, _, e, _ => by cases e
theorem intsD_ok {K : PySem.W.Frag} {hid : List Addr} {H : Hp} {M : Mu} : ∀ {ds : List D} {vs : List V} {bs : List Int}, intsD ds = some bs → Rvs K hid H M vs ds → vs = bs.map V.int
  | [], _, _, e, r => by cases e; cases r; rfl
  | .int b :: ds, _, bs, e, r => by
    cases r with
    | cons h r =>
      unfold intsD at e
      cases q : intsD ds with
      | none => rw [q] at e; cases e
      | some cs =>
        rw [q] at e
        cases e
        cases h
        rw [intsD_ok q r]; rfl
  | .non :: _, _, _, e, _ | .bl _ :: _, _, _, e, _ | .str _ :: _, _, _, e, _ | .tup _ :: _, _, _, e, _ | .lst _ :: _, _, _, e, _ | .loc _ :: _, _, _, e, _ | .ty _ :: _, _, _, e, _ => by cases e
theorem boolsD_map (bs : List Bool) : boolsD (bs.map D.bl) = some bs := by
  induction bs with
  | nil => rfl
  | cons b bs ih => rw [List.map_cons]; unfold boolsD; rw [ih]; rfl
theorem intsD_map (bs : List Int) : intsD (bs.map D.int) = some bs := by
  induction bs with
  | nil => rfl
  | cons b bs ih => rw [List.map_cons]; unfold intsD; rw [ih]; rfl
def gBoolsL (k : List Bool → Bool) : GC := fun ds M Q => match ds with
  | [d] => (match lstOf M d with
    | some es => (match boolsD es with
      | some bs => Q (.bl (k bs)) M
      | none => False)
    | none => False)
  | _ => False
abbrev gAnyL : GC := gBoolsL fun bs => bs.any id
abbrev gAllL : GC := gBoolsL fun bs => bs.all id
def gSumL : GC := fun ds M Q => match ds with
  | [d] => (match lstOf M d with
    | some es => (match intsD es with
      | some bs => Q (.int bs.sum) M
      | none => False)
    | none => False)
  | _ => False
section
variable {T : List Addr}
theorem c_anyL {K : PySem.W.Frag} : CSim K T (rAny K) gAnyL := by
  intro hid H M ds vs Q Qv s r q p
  unfold gAnyL gBoolsL at q
  split at q
  · split at q
    · rename_i d es e
      split at q
      · rename_i bs e2
        cases r with
        | cons h r =>
          cases r
          obtain ⟨a, xs, rfl, h3, h4⟩ := lstOf_ok s h e
          have := boolsD_ok e2 h4
          subst this
          exact ⟨a, bs, rfl, h3, p _ H _ M s (Ext.refl _ _ _) (.bl _) q⟩
      · exact q.elim
    · exact q.elim
  · exact q.elim
theorem c_allL {K : PySem.W.Frag} : CSim K T (rAll K) gAllL := by
  intro hid H M ds vs Q Qv s r q p
  unfold gAllL gBoolsL at q
  split at q
  · split at q
    · rename_i d es e
      split at q
      · rename_i bs e2
        cases r with
        | cons h r =>
          cases r
          obtain ⟨a, xs, rfl, h3, h4⟩ := lstOf_ok s h e
          have := boolsD_ok e2 h4
          subst this
          exact ⟨a, bs, rfl, h3, p _ H _ M s (Ext.refl _ _ _) (.bl _) q⟩
      · exact q.elim
    · exact q.elim
  · exact q.elim
theorem c_sumL {K : PySem.W.Frag} : CSim K T (rSum K) gSumL := by
  intro hid H M ds vs Q Qv s r q p
  unfold gSumL at q
  split at q
  · split at q
    · rename_i d es e
      split at q
      · rename_i bs e2
        cases r with
        | cons h r =>
          cases r
          obtain ⟨a, xs, rfl, h3, h4⟩ := lstOf_ok s h e
          have := intsD_ok e2 h4
          subst this
          exact ⟨a, bs, rfl, h3, p _ H _ M s (Ext.refl _ _ _) (.int _) q⟩
      · exact q.elim
    · exact q.elim
  · exact q.elim
end

/-! ### generator expressions -/
/-- the items' outcomes -/
def GenO (b : BD) (fe : FE) (ρ : Env') (M : Mu) : List D → List Bool → Prop
  | [], [] => True
  | d :: ds, o :: os => (∃ ρ2, b d ρ = some ρ2 ∧ ∀ Q : D → Mu → Prop, Q (.bl o) M → fe xF ρ2 M Q) ∧ GenO b fe ρ M ds os
  | _, _ => False
theorem GenO.length {b : BD} {fe : FE} {ρ : Env'} {M : Mu} : ∀ {ds : List D} {os : List Bool}, GenO b fe ρ M ds os → os.length = ds.length
  | [], [], _ => rfl
  | d :: ds, o :: os, h => by rw [List.length_cons, List.length_cons, GenO.length h.2]
  | [], _ :: _, h => h.elim
  | _ :: _, [], h => h.elim
theorem GenO.get {b : BD} {fe : FE} {ρ : Env'} {M : Mu} : ∀ {ds : List D} {os : List Bool}, GenO b fe ρ M ds os → ∀ (i : Nat) {d : D} , ds[i]? = some d → ∃ ρ2, b d ρ = some ρ2 ∧ ∀ Q : D → Mu → Prop, Q (.bl (os.getD i false)) M → fe xF ρ2 M Q
  | d :: ds, o :: os, h, 0, e, he => by cases he; exact h.1
  | d :: ds, o :: os, h, i + 1, e, he => by
    have := GenO.get h.2 i (d := e) (by simpa using he)
    simpa using this
  | [], [], _, i, _, he => by cases he
  | [], _ :: _, h, _, _, _ => h.elim
  | _ :: _, [], h, _, _, _ => h.elim
theorem GenO.map {α : Type} {b : BD} {fe : FE} {ρ : Env'} {M : Mu} {enc : α → D} {f : α → Bool} : ∀ (xs : List α), (∀ x ∈ xs, ∃ ρ2, b (enc x) ρ = some ρ2 ∧ ∀ Q : D → Mu → Prop, Q (.bl (f x)) M → fe xF ρ2 M Q) → GenO b fe ρ M (xs.map enc) (xs.map f)
  | [], _ => trivial
  | x :: xs, h => ⟨h x List.mem_cons_self, GenO.map xs fun y hy => h y (List.mem_cons_of_mem _ hy)⟩
def fGen (k : List Bool → Bool) (fi : FI) (b : BD) (fe : FE) (vs : List Nat) : FE := fun xw ρ M Q => fi xw ρ M fun ds M1 => ∃ os, GenO b fe (wipeE ρ vs) M1 ds os ∧ Q (.bl (k os)) M1
abbrev fAnyG : FI → BD → FE → List Nat → FE := fGen fun os => os.any id
abbrev fAllG : FI → BD → FE → List Nat → FE := fGen fun os => os.all id
section
variable {K : PySem.W.Frag} {T hid : List Addr} {H H2 : Hp} {M : Mu}
theorem Ext.tabbed {P : Addr} (hP : GxR.TabG H P) (h : GxR.Tabbed P H H2) : Ext hid H M H2 M := by
  obtain ⟨ps, hP, _⟩ := hP
  have ne : ∀ b u, H b = some u → (∀ q, u ≠ .tbl q) → b ≠ P := fun b u e q z => by rw [z, hP] at e; cases e; exact q ps rfl
  refine ⟨fun a xs e => by rw [h.2 a (ne a _ e (fun q z => nomatch z))]; exact e, fun a o u e => by rw [h.2 a (ne a _ e (fun q z => nomatch z))]; exact e, fun a xs e z _ => ⟨by rw [h.2 a (ne a _ e (fun q z => nomatch z))]; exact e, z⟩, fun a ha xs e => by rw [h.2 a (ne a _ e (fun q z => nomatch z))]; exact e, fun a e => ?_, fun a q q' => absurd q q'⟩
  by_cases q : a = P
  · obtain ⟨ps', e2, _⟩ := h.1
    rw [q, e2]; exact fun z => nomatch z
  · rw [h.2 a q]; exact e
theorem MOk.tabbed {P : Addr} (hP : GxR.TabG H P) (h : GxR.Tabbed P H H2) {a : Addr} {m : MO} (k : MOk K hid H M a m) : MOk K hid H2 M a m := by
  have e : Ext hid H M H2 M := Ext.tabbed hP h
  refine k.ext e (h.2 a ?_)
  obtain ⟨ps, hP, _⟩ := hP
  rintro rfl
  cases m with
  | lst ds => obtain ⟨xs, h1, _⟩ := k; rw [hP] at h1; cases h1
  | dct kvs => exact k
  | ins C fs => obtain ⟨dx, fvs, h1, _⟩ := k; rw [hP] at h1; cases h1
theorem Sto.tabbed {P : Addr} (s : Sto K T hid H M) (hT : P ∈ T) (h : GxR.Tabbed P H H2) : Sto K T hid H2 M := by
  have hP := s.tab P hT
  refine ⟨fun a m q => (s.mem a m q).tabbed hP h, fun Q hQ => ?_, fun a ha => ⟨(s.hidn a ha).1, ?_⟩⟩
  · by_cases e : Q = P
    · rw [e]; exact h.1
    · obtain ⟨ps, h1, h2⟩ := s.tab Q hQ
      exact ⟨ps, by rw [h.2 Q e]; exact h1, h2⟩
  · exact (Ext.tabbed (hid := hid) (M := M) hP h).dom a (s.hidn a ha).2
end
/-- the running code's table is known -/
def Cod (X : Cx) (T : List Addr) : Prop := ∃ c P, X.env.code = .ref c ∧ GxR.TabB X.base X.mg c P ∧ P ∈ T
section
variable {X : Cx} {T : List Addr} {W : WX} {elt tg iter : Expr} {scope : Scope} {gpos : Pos} {own : List (Str × Nat)} {wi : TI} {fi : FI} {b : BD} {fe : FE}
theorem gen_sim {K : PySem.W.Frag} {P : Addr} {vs : List Nat} {k : List Bool → Bool} {fin : Nat → (Nat → V) → (V → Prop) → Prop} (hT : P ∈ T) (si : ISim0 K T W wi fi) (hfin : ∀ (os : List Bool) (kk : V → Prop), kk (.bl (k os)) → fin os.length (fun i => .bl (os.getD i false)) kk) :
    ESim K T W (tGen P wi (canG K T b vs) (canE K T WF fe) vs fin) (fGen k fi b fe vs) := by
  intro hid σ H ρ M xw Q Qv r s w q p
  refine si hid σ H ρ M xw _ _ r s w q fun J H1 M1 ds s1 e1 im q1 => ?_
  obtain ⟨os, go, q2⟩ := q1
  have hl := go.length
  refine ⟨s1.tab P hT, fun H2 htab => ?_⟩
  have s2 := s1.tabbed hT htab
  have e2 : Ext hid H1 M1 H2 M1 := Ext.tabbed (s1.tab P hT) htab
  refine ⟨os.length, fun i H => Sto K T hid H M1 ∧ Ext hid H2 M1 H M1, fun i => .bl (os.getD i false), ⟨s2, Ext.refl _ _ _⟩, ⟨fun i H hi ⟨s3, e3⟩ => ?_, fun H ⟨s3, e3⟩ => ?_⟩, hfin os _ fun i H hi ⟨s3, e3⟩ => ?_⟩
  · obtain ⟨im1, _⟩ := im H s3 (e2.trans e3)
    obtain ⟨jg, jy⟩ := im1 i (by omega)
    refine ⟨jg, fun x H' hy => ?_⟩
    obtain ⟨d, hd, s4, e4, r4⟩ := jy x H' hy
    obtain ⟨ρ2, hb, hf⟩ := go.get i hd
    have rw_ : REnv K hid H' M1 (wipe σ vs) (wipeE ρ vs) := REnv.wipe (r.ext ((e1.trans e2).trans (e3.trans e4))) vs
    refine ⟨hid, M1, wipeE ρ vs, d, ρ2, rw_, s4, r4, hb, fun σ' r' hw => ⟨by rw [wipe_wipe] at hw; exact hw, ?_⟩⟩
    refine ⟨hid, ρ2, M1, xF, fun y M' => y = .bl (os.getD i false) ∧ M' = M1, r', s4, wok_F, hf _ ⟨rfl, rfl⟩, fun v H5 y M5 s5 e5 r5 q5 => ?_⟩
    obtain ⟨rfl, rfl⟩ := q5
    cases r5
    exact ⟨rfl, s5, e3.trans (e4.trans e5)⟩
  · rw [hl]
    exact (im H s3 (e2.trans e3)).2
  · exact p _ H _ M1 s3 ((e1.trans e2).trans e3) (.bl _) q2
theorem any_getD (os : List Bool) : (List.range os.length).any (fun i => os.getD i false) = os.any id := by
  rw [Bool.eq_iff_iff, List.any_eq_true, List.any_eq_true]
  constructor
  · rintro ⟨i, hi, h⟩
    have hi := List.mem_range.mp hi
    refine ⟨os[i], List.getElem_mem hi, ?_⟩
    rw [List.getD_eq_getElem?_getD, List.getElem?_eq_getElem hi] at h
    exact h
  · rintro ⟨x, hx, h⟩
    obtain ⟨i, hi, e⟩ := List.getElem_of_mem hx
    refine ⟨i, List.mem_range.mpr hi, ?_⟩
    rw [List.getD_eq_getElem?_getD, List.getElem?_eq_getElem hi, e]
    exact h
theorem all_getD (os : List Bool) : (List.range os.length).all (fun i => os.getD i false) = os.all id := by
  rw [Bool.eq_iff_iff, List.all_eq_true, List.all_eq_true]
  constructor
  · intro h x hx
    obtain ⟨i, hi, e⟩ := List.getElem_of_mem hx
    have := h i (List.mem_range.mpr hi)
    rw [List.getD_eq_getElem?_getD, List.getElem?_eq_getElem hi, e] at this
    exact this
  · intro h i hi
    have hi := List.mem_range.mp hi
    rw [List.getD_eq_getElem?_getD, List.getElem?_eq_getElem hi]
    exact h _ (List.getElem_mem hi)
end
def genC (N : List Str) (sc scope : Scope) (own : List (Str × Nat)) : Bool := blkC N sc scope own && (scope.names.all fun y => y.2 != .cell) && (scope.names.lookup (".0" : Str) == some .local) && !scope.isCoroutine
theorem genOk_by {N : List Str} {sc scope : Scope} {own : List (Str × Nat)} (h : genC N sc scope own = true) : GenOk N sc scope own := by
  unfold genC at h
  simp only [Bool.and_eq_true, List.all_eq_true, Bool.not_eq_true', bne_iff_ne, ne_eq, beq_iff_eq] at h
  exact ⟨blkOk_by h.1.1.1, fun y hy => h.1.1.2 y hy, h.1.2, h.2⟩
section
variable {P : Program} {w : World} {K : PySem.W.Frag} {mg : Str → Option Value} {base : Heap} {N ps : List Str} {sc : Scope} {fn : Str → Bool} {k : Nat} {W : WX} {X : Cx} {T : List Addr}
theorem Std.gen (g : Std P w K mg base N sc fn (k + 1) W X) {e : Expr} {elt : Expr} {gs : List Comprehension} {scope : Scope} {gpos : Pos} (he : e = .GeneratorExp elt gs scope gpos) (it : Addr) (s : Shared) (H : Hp) (C : Addr) (code : Value) (fp : List Addr) :
    Std P w K mg base N scope (fun _ => false) k WF (gCx X (gA X e it (gEnv X scope C code)) s H (gEnv X scope C code) fp) :=
  ⟨g.eP, g.ew, g.eK, g.em, g.eb, g.eN, g.nd, rfl, fun _ h => (nomatch h), g.calm, takes0, PassesOwn.never, gA_room he g.room⟩
variable {elt tg iter : Expr} {scope : Scope} {gpos p pos : Pos} {fi : FI} {b : BD} {fe : FE}
theorem n_anyG (g : Std P w K mg base N sc fn (k + 1) W X) (F : Fr mg) (c : Cod X T) (own : List (Str × Nat)) (hi : DI0 X T W tg iter fi) (ok : genC N sc scope own = true)
    (h : ∀ X', Std P w K mg base N scope (fun _ => false) k WF X' → DG X' T tg b (own.map (·.2)) ∧ DE X' T WF elt fe)
    (hg : sc.names.lookup ("any" : Str) = some .globalImplicit := by rfl) (hs : ∀ v, genFold iter X.env v = pure v := by intro _; rfl)
    (hst : starEach [gE elt tg iter scope gpos] X.env = (false, eval (gE elt tg iter scope gpos) X.env) :: starEach [] X.env := by rfl) :
    DE X T W (.Call (.Name "any" p) [.GeneratorExp elt [⟨tg, iter, [], 0⟩] scope gpos] [] pos) (fAnyG fi b fe (own.map (·.2))) := by
  obtain ⟨c, P', hc, hB, hT⟩ := c
  obtain ⟨wi, pi, si⟩ := hi
  refine ⟨_, pe_anyG (g := canG X.K T b (own.map (·.2))) (te := canE X.K T WF fe) g.room g.calm (by rw [g.eN]; exact g.nd) (g.gl hg) (g.none F.any) hB hc (by rw [g.eN, g.es]; exact genOk_by ok) pi (fun it s H C code fp => (h _ (g.gen rfl it s H C code fp)).1.can) (fun it s H C code fp => (h _ (g.gen rfl it s H C code fp)).2.can) hs hst, gen_sim hT si fun os kk hk => ⟨_, rfl, by rw [any_getD]; exact hk⟩⟩
theorem n_allG (g : Std P w K mg base N sc fn (k + 1) W X) (F : Fr mg) (c : Cod X T) (own : List (Str × Nat)) (hi : DI0 X T W tg iter fi) (ok : genC N sc scope own = true)
    (h : ∀ X', Std P w K mg base N scope (fun _ => false) k WF X' → DG X' T tg b (own.map (·.2)) ∧ DE X' T WF elt fe)
    (hg : sc.names.lookup ("all" : Str) = some .globalImplicit := by rfl) (hs : ∀ v, genFold iter X.env v = pure v := by intro _; rfl)
    (hst : starEach [gE elt tg iter scope gpos] X.env = (false, eval (gE elt tg iter scope gpos) X.env) :: starEach [] X.env := by rfl) :
    DE X T W (.Call (.Name "all" p) [.GeneratorExp elt [⟨tg, iter, [], 0⟩] scope gpos] [] pos) (fAllG fi b fe (own.map (·.2))) := by
  obtain ⟨c, P', hc, hB, hT⟩ := c
  obtain ⟨wi, pi, si⟩ := hi
  refine ⟨_, pe_allG (g := canG X.K T b (own.map (·.2))) (te := canE X.K T WF fe) g.room g.calm (by rw [g.eN]; exact g.nd) (g.gl hg) (g.none F.all) boot_all hB hc (by rw [g.eN, g.es]; exact genOk_by ok) pi (fun it s H C code fp => (h _ (g.gen rfl it s H C code fp)).1.can) (fun it s H C code fp => (h _ (g.gen rfl it s H C code fp)).2.can) hs hst, gen_sim hT si fun os kk hk => ⟨_, rfl, by rw [all_getD]; exact hk⟩⟩
/-! lists -/
variable {e e2 : Expr} {fs : FA}
theorem n_anyL (g : Std P w K mg base N sc fn k W X) (F : Fr mg) (ha : DA X T W [e] fs) (hg : sc.names.lookup ("any" : Str) = some .globalImplicit := by rfl) (he : starEach [e] X.env = (false, eval e X.env) :: starEach [] X.env := by rfl) : DE X T W (.Call (.Name "any" p) [e] [] pos) (fCB gAnyL fs) :=
  de_callB (cr_any g.calm) c_anyL (g.gl hg) (g.none F.any) boot_any ha (by decide +kernel) (by decide +kernel) he rfl
theorem n_allL (g : Std P w K mg base N sc fn k W X) (F : Fr mg) (ha : DA X T W [e] fs) (hg : sc.names.lookup ("all" : Str) = some .globalImplicit := by rfl) (he : starEach [e] X.env = (false, eval e X.env) :: starEach [] X.env := by rfl) : DE X T W (.Call (.Name "all" p) [e] [] pos) (fCB gAllL fs) :=
  de_callB (cr_all g.calm) c_allL (g.gl hg) (g.none F.all) boot_all ha (by decide +kernel) (by decide +kernel) he rfl
theorem n_sumL (g : Std P w K mg base N sc fn k W X) (F : Fr mg) (ha : DA X T W [e] fs) (hg : sc.names.lookup ("sum" : Str) = some .globalImplicit := by rfl) (he : starEach [e] X.env = (false, eval e X.env) :: starEach [] X.env := by rfl) : DE X T W (.Call (.Name "sum" p) [e] [] pos) (fCB gSumL fs) :=
  de_callB (cr_sum g.calm) c_sumL (g.gl hg) (g.none F.sum) boot_sum ha (by decide +kernel) (by decide +kernel) he rfl
theorem i_zip (g : Std P w K mg base N sc fn k W X) (F : Fr mg) {tpos : Pos} {elts : List Expr} {kk : Nat} (ha : DA X T W [e, e2] fs) (hg : sc.names.lookup ("zip" : Str) = some .globalImplicit := by rfl)
    (hs : starEach [e, e2] X.env = (false, eval e X.env) :: starEach [e2] X.env := by rfl) (hpl : (backTo pos (starEach [e2] X.env)).any (·.1) = false := by rfl) : DI X T W (.Tuple elts kk tpos) (.Call (.Name "zip" p) [e, e2] [] pos) (fZip fs) :=
  di_zip (g.gl hg) (g.none F.zip) ha hs hpl
theorem i_zip3 (g : Std P w K mg base N sc fn k W X) (F : Fr mg) {e3 : Expr} {tpos : Pos} {elts : List Expr} {kk : Nat} (ha : DA X T W [e, e2, e3] fs) (hg : sc.names.lookup ("zip" : Str) = some .globalImplicit := by rfl)
    (hs : starEach [e, e2, e3] X.env = (false, eval e X.env) :: starEach [e2, e3] X.env := by rfl) (hpl : (backTo pos (starEach [e2, e3] X.env)).any (·.1) = false := by rfl) : DI X T W (.Tuple elts kk tpos) (.Call (.Name "zip" p) [e, e2, e3] [] pos) (fZip3 fs) :=
  di_zip3 (g.gl hg) (g.none F.zip) ha hs hpl
theorem s_par (g : Std P w K mg base N sc fn k W X) {i j : Nat} {x y : Str} {a b : Expr} {fa : FA} {px py pt pos : Pos} {kt k2 : Nat} {pt2 : Pos} (ha : DA X T W [a, b] fa) (hi : N[i]? = some x := by rfl) (hj : N[j]? = some y := by rfl) (hij : i ≠ j := by decide)
    (hx : sc.names.lookup x = some .local := by rfl) (hy : sc.names.lookup y = some .local := by rfl)
    (hw : swappedStores [.Tuple [.Name x px, .Name y py] kt pt] (.Tuple [a, b] k2 pt2) X.env = pure (some [x, y]) := by rfl)
    (hs : swapsWithSole [.Tuple [.Name x px, .Name y py] kt pt] (.Tuple [a, b] k2 pt2) pos.line X.env = pure false := by rfl) :
    DS X T W (.Assign [.Tuple [.Name x px, .Name y py] kt pt] (.Tuple [a, b] k2 pt2) pos) (fPar i j fa) :=
  ds_par g.calm (by rw [g.eN]; exact g.nd) (by rw [g.eN]; exact hi) (by rw [g.eN]; exact hj) hij (by rw [g.es]; exact hx) (by rw [g.es]; exact hy) ha hw hs
/-- a def whose code's table is known -/
theorem fn_okFC {x qual : Str} {params : Arguments} {body : List Stmt} {f : Addr} {fd : FuncData} {S : FSpec} {fs : FS} {c P' : Addr} (F : FunD K x qual params body sc [] [] f fd) (sco : FnScope N ps sc) (hcode : fd.code = .ref c) (hB : GxR.TabB base mg c P') (hT : P' ∈ T)
    (har : ∀ ds M Q xw, S ds M Q xw → ds.length = ps.length)
    (hd : ∀ X W, Std P w K mg base N sc (fun _ => true) k W X → Cod X T → DSs X T W body fs)
    (hs : ∀ ds M Q xw, S ds M Q xw → bodyE N fs ds M Q xw) : FnOk P w K mg base (L2.CX P w) (k + 1) f fd ps (spOf K T S) := by
  obtain ⟨oc, od, dV, kV, doc, pm, an, cdv, ct, osl, rfl, lk, hcd, _, _⟩ := F.ex
  have hcv : cdv = .ref c := hcode
  refine fn_of lk hcd sco (fun vs H Q E h => ?_) fun A outer s H vs Q E hr h => ?_
  · obtain ⟨hid, ds, M, Qd, xw, s, r, q, _⟩ := h
    rw [r.length]
    exact har ds M Qd xw q
  · obtain ⟨hid, ds, M, Qd, xw, st, r, q, po, px⟩ := h
    have hl : vs.length = ds.length := r.length
    have g : Std P w K mg base N sc (fun _ => true) k (fun cls d _ H' => E cls d H') (cxOf (L2.CX P w) P w K mg base N qual sc f cdv A outer s H E) :=
      ⟨rfl, rfl, rfl, rfl, rfl, rfl, sco.nd, rfl, fun _ _ => rfl, rfl, takes_of rfl rfl rfl rfl, passes_of rfl, hr⟩
    obtain ⟨t, p, sim⟩ := hd _ _ g ⟨c, P', hcv, hB, hT⟩
    refine ⟨t, p, sim hid _ H (startD N ds) M { nx := fun _ M' => Qd .non (mres M' M), rt := fun d M' => Qd d (mres M' M), xw := fun xd _ M' => xw xd (mres M' M) } _ ⟨?_, fun i d hi => ?_⟩ st (fun cls dd σ' H' ρ' M' xd r' s' e' x' q' => ?_) (hs ds M Qd xw q) ⟨?_, ?_, fun _ _ _ _ _ _ _ z => z, fun _ _ _ _ _ _ _ z => z⟩⟩
    · unfold startD L2.start
      rw [List.length_append, List.length_append, List.length_map, List.length_map, List.length_replicate, List.length_replicate, hl]
    · unfold startD at hi
      have hi' : i < ds.length := by
        by_cases h : i < ds.length
        · exact h
        · rw [List.getElem?_append_right (by simpa using h), List.getElem?_replicate] at hi
          split at hi <;> cases hi
      rw [List.getElem?_append_left (by simpa using hi'), List.getElem?_map] at hi
      have hd' : ds[i]? = some d := by
        cases e : ds[i]? with
        | none => rw [e] at hi; cases hi
        | some a => rw [e] at hi; cases hi; rfl
      obtain ⟨v, h1, h2⟩ := r.get i hd'
      refine ⟨v, ?_, h2⟩
      unfold L2.start
      rw [List.getElem?_append_left (by rw [List.length_map]; omega), List.getElem?_map, h1]
      rfl
    · exact px cls dd H' (mres M' M) xd s'.res (e'.trans Ext.res) (x'.ext Ext.res rfl) q'
    · intro σ' H' ρ' M' r' s' e' q'
      exact po _ H' _ (mres M' M) s'.res (e'.trans Ext.res) .non q'
    · intro v H' d M' s' e' r' q'
      exact po v H' d (mres M' M) s'.res (e'.trans Ext.res) ((Ext.res (M := M)).rv _ _ r') q'
theorem fn_okC {x qual : Str} {params : Arguments} {body : List Stmt} {f : Addr} {fd : FuncData} {S : FSpec} {fs : FS} {c P' : Addr} {nm : Str} (F : FunD K x qual params body sc [] [] f fd) (hm : mg nm = some (.ref f)) (sco : FnScope N ps sc) (hb : Binds K fd ps []) (hcode : fd.code = .ref c) (hB : GxR.TabB base mg c P') (hT : P' ∈ T)
    (har : ∀ ds M Q xw, S ds M Q xw → ds.length = ps.length)
    (hd : ∀ X W, Std P w K mg base N sc (fun _ => true) k W X → Cod X T → DSs X T W body fs)
    (hs : ∀ ds M Q xw, S ds M Q xw → bodyE N fs ds M Q xw) : Fn P w K mg base T (k + 1) nm S := ⟨f, fd, ps, hm, F.kp, hb, fn_okFC F sco hcode hB hT har hd hs⟩
theorem fn_recC {x qual : Str} {params : Arguments} {body : List Stmt} {f : Addr} {fd : FuncData} {S : Nat → FSpec} {fs : Nat → FS} {c P' : Addr} {nm : Str} (F : FunD K x qual params body sc [] [] f fd) (hm : mg nm = some (.ref f)) (sco : FnScope N ps sc) (hb : Binds K fd ps []) (hcode : fd.code = .ref c) (hB : GxR.TabB base mg c P') (hT : P' ∈ T)
    (har : ∀ n ds M Q xw, S n ds M Q xw → ds.length = ps.length) (h0 : ∀ ds M Q xw, ¬ S 0 ds M Q xw)
    (hd : ∀ j n, k ≤ j → Fn P w K mg base T j nm (S n) → ∀ X W, Std P w K mg base N sc (fun _ => true) j W X → Cod X T → DSs X T W body (fs n))
    (hs : ∀ n ds M Q xw, S (n + 1) ds M Q xw → bodyE N (fs n) ds M Q xw) : ∀ n, Fn P w K mg base T (k + n + 1) nm (S n)
  | 0 => fn_false F hm sco hb h0
  | n + 1 => fn_okC F hm sco hb hcode hB hT (har (n + 1)) (hd (k + n + 1) n (by omega) (fn_recC F hm sco hb hcode hB hT har h0 hd hs n)) (hs n)
theorem tab_of {mg : Str → Option Value} {base : Heap} {c P : Addr} (h : LamX.TabB base mg c P) : GxR.TabB base mg c P := ⟨h.code, h.bm, h.gP⟩
theorem code_at {x qual : Str} {params : Arguments} {body : List Stmt} {fd : FuncData} {dvs : List V} {kws : List (Str × V)} {p : Str × Option Str} (F : FunD K x qual params body sc dvs kws (He.fAd K p) fd) : fd.code = .ref (He.cT K p).1 := by
  obtain ⟨oc, od, dV, kV, doc, pm, an, cdv, ct, osl, rfl, lk, hcd, _, _⟩ := F.ex
  obtain ⟨c, e⟩ := He.codeIn_ref hcd
  have e2 := He.codeOf_eq lk (show (PySem.W.fnOf x qual params body sc dV kV doc pm an cdv ct).code = .ref c from e)
  show cdv = .ref (He.codeOf K p)
  rw [e2]; exact e
end
end U

set_option Elab.async false
set_option linter.all false
set_option maxRecDepth 100000
set_option maxHeartbeats 2000000
/-! U12: enumerate. -/
namespace U
open PySem PySem.Spec PyProof.Rows L2
def enD : Int → List D → List D
  | _, [] => []
  | k, d :: ds => .tup [.int k, d] :: enD (k + 1) ds
theorem enD_len : ∀ (k : Int) (ds : List D), (enD k ds).length = ds.length
  | _, [] => rfl
  | k, d :: ds => by simp [enD, enD_len (k + 1) ds]
theorem enD_get : ∀ (k : Int) (ds : List D) (i : Nat), (enD k ds)[i]? = ds[i]?.map fun d => .tup [.int (k + (i : Nat)), d]
  | _, [], i => by simp [enD]
  | k, d :: ds, 0 => by simp [enD]
  | k, d :: ds, i + 1 => by
    have e : k + 1 + (i : Int) = k + ((i + 1 : Nat) : Int) := by omega
    rw [enD, List.getElem?_cons_succ, List.getElem?_cons_succ, enD_get (k + 1) ds i, e]
/-- enumerate(x), x a tuple | a list -/
def fEn1 (fa : FA) : FI := fun xw ρ M Q => fa xw ρ M fun ds M1 => match ds with
  | [.tup as] => Q (enD 0 as) M1
  | [.lst as] => Q (enD 0 as) M1
  | _ => False
def fEn2 (fa : FA) : FI := fun xw ρ M Q => fa xw ρ M fun ds M1 => match ds with
  | [.tup as, .int k] => (-(2 ^ 63) ≤ k ∧ k < 2 ^ 63) ∧ Q (enD k as) M1
  | [.lst as, .int k] => (-(2 ^ 63) ≤ k ∧ k < 2 ^ 63) ∧ Q (enD k as) M1
  | _ => False
section
variable {X : Cx} {T : List Addr} {W : WX}
theorem itm_en {K : PySem.W.Frag} {hid : List Addr} {H : Hp} {M : Mu} {b : Bool} {a : Addr} {xs : List V} {as : List D} {k : Int} (h1 : FzV K hid H M b a xs) (r1 : Rvs K hid H M xs as) :
    Itm K T hid (ItE K b a k) H M (enD k as) := by
  intro hid' H' M' s c
  have h1' := h1.car c
  have r1' := c.rvs _ _ r1
  have l1 := r1.length
  have hl := enD_len k as
  refine ⟨fun i hi => ?_, ⟨xs, h1', by rw [hl, l1]⟩⟩
  have hi1 : i < as.length := by omega
  refine ⟨⟨xs, xs[i]'(by omega), h1', List.getElem?_eq_getElem (by omega)⟩, fun v H2 y => ?_⟩
  obtain ⟨t, x, rfl, hT, rfl, f1⟩ := y
  obtain ⟨v1, e1, q1⟩ := r1'.get i (d := as[i]) (List.getElem?_eq_getElem hi1)
  rw [f1 xs h1'] at e1
  cases e1
  have e := Ext.new (o := .tup [.int (k + (i : Nat)), x]) s hT
  refine ⟨.tup [.int (k + (i : Nat)), as[i]], by rw [enD_get, List.getElem?_eq_getElem hi1]; rfl, s.new hT, e, .tup (.inl (.inl upd_same)) (.cons (.int _) (.cons (e.rv _ _ q1) .nil))⟩
theorem di_en1 {e : Expr} {fa : FA} {p pos tpos : Pos} {elts : List Expr} {kk : Nat} (hg : Gl X "enumerate") (hm : X.mg "enumerate" = none) (ha : DA X T W [e] fa) (hs : starEach [e] X.env = [(false, eval e X.env)]) :
    DI X T W (.Tuple elts kk tpos) (.Call (.Name "enumerate" p) [e] [] pos) (fEn1 fa) := by
  obtain ⟨t, pa, sa⟩ := ha
  refine ⟨_, pi_en1 hg hm pa hs, fun hid σ H ρ M xw Q R r s w q k => ?_⟩
  refine sa hid σ H ρ M xw _ _ r s w q fun vs H1 ds M1 s1 e1 r1 q1 => ?_
  split at q1
  · cases r1 with
    | cons h r =>
      cases r
      cases h with
      | tup h1 k1 => exact ⟨false, _, _, rfl, h1, k _ H1 M1 _ s1 e1 (itm_en (b := false) h1 k1) q1⟩
  · cases r1 with
    | cons h r =>
      cases r
      cases h with
      | lst h1 k1 => exact ⟨true, _, _, rfl, h1.sq, k _ H1 M1 _ s1 e1 (itm_en (b := true) h1 k1) q1⟩
  · exact q1.elim
theorem di_en2 {e e2 : Expr} {fa : FA} {p pos tpos : Pos} {elts : List Expr} {kk : Nat} (hg : Gl X "enumerate") (hm : X.mg "enumerate" = none) (ha : DA X T W [e, e2] fa)
    (hs : starEach [e, e2] X.env = (false, eval e X.env) :: starEach [e2] X.env) (hpl : (backTo pos (starEach [e2] X.env)).any (·.1) = false) :
    DI X T W (.Tuple elts kk tpos) (.Call (.Name "enumerate" p) [e, e2] [] pos) (fEn2 fa) := by
  obtain ⟨t, pa, sa⟩ := ha
  refine ⟨_, pi_en2 hg hm pa hs hpl, fun hid σ H ρ M xw Q R r s w q k => ?_⟩
  refine sa hid σ H ρ M xw _ _ r s w q fun vs H1 ds M1 s1 e1 r1 q1 => ?_
  split at q1
  · cases r1 with
    | cons h r =>
      cases r with
      | cons h' r =>
        cases r
        cases h'
        cases h with
        | tup h1 k1 => exact ⟨false, _, _, _, rfl, q1.1, h1, k _ H1 M1 _ s1 e1 (itm_en (b := false) h1 k1) q1.2⟩
  · cases r1 with
    | cons h r =>
      cases r with
      | cons h' r =>
        cases r
        cases h'
        cases h with
        | lst h1 k1 => exact ⟨true, _, _, _, rfl, q1.1, h1.sq, k _ H1 M1 _ s1 e1 (itm_en (b := true) h1 k1) q1.2⟩
  · exact q1.elim
end
/-! ### isinstance(x, tuple), isinstance(x, list) -/
def tyN : D → Option String
  | .non => some "NoneType"
  | .bl _ => some "bool"
  | .int _ => some "int"
  | .str _ => some "str"
  | .tup _ => some "tuple"
  | .lst _ => some "list"
  | _ => none
def gIsC (n : String) : GC := fun ds M Q => match ds with
  | [x, .ty m] => m = n ∧ (match tyN x with
    | some t => Q (.bl (decide (t = n))) M
    | none => False)
  | _ => False
theorem tyx_of {K : PySem.W.Frag} {hid : List Addr} {H : Hp} {M : Mu} {v : V} {d : D} {t : String} (r : Rv K hid H M v d) (h : tyN d = some t) : TyX K H v (.type t) := by
  cases r with
  | non => cases h; exact .base .non
  | bl b => cases h; exact .base (.bl b)
  | int i => cases h; exact .base (.int i)
  | str x => cases h; exact .base (.str x)
  | tup h1 k1 =>
    cases h
    rcases h1 with (h1 | ⟨o, h1⟩) | ⟨o, its, n, h1, h2, _⟩
    · exact .base (.tup h1)
    · exact .fTuple h1
    · exact .kTuple h1 h2
  | lst h1 k1 =>
    cases h
    rcases h1 with ⟨h1, _⟩ | ⟨o, h1⟩ | ⟨o, its, n, h1, h2, _⟩
    · exact .base (.lst h1)
    · exact .base (.frz h1)
    · exact .kList h1 h2
  | loc a => cases h
  | ty n => cases h
theorem tyN_in {d : D} {t : String} (h : tyN d = some t) : t = "NoneType" ∨ t = "bool" ∨ t = "int" ∨ t = "str" ∨ t = "tuple" ∨ t = "list" := by
  cases d <;> cases h <;> simp
theorem c_isC {T : List Addr} {K : PySem.W.Frag} {n : String} (hn : n = "tuple" ∨ n = "list") : CSim K T (rIsi K) (gIsC n) := by
  intro hid H M ds vs Q Qv s r q p
  unfold gIsC at q
  split at q
  · obtain ⟨rfl, q⟩ := q
    cases r with
    | cons h r => cases r with
      | cons h' r =>
        cases r
        cases h'
        split at q
        · rename_i t e
          refine ⟨_, _, .type t, .type _, decide (t = _), rfl, .ty _, tyx_of h e, ?_, p _ H _ M s (Ext.refl _ _ _) (.bl _) q⟩
          rcases hn with rfl | rfl <;> rcases tyN_in e with rfl | rfl | rfl | rfl | rfl | rfl <;> exact kit_ty (by decide +kernel)
        · exact q.elim
  · exact q.elim
section
variable {P : Program} {w : World} {K : PySem.W.Frag} {mg : Str → Option Value} {base : Heap} {N : List Str} {sc : Scope} {fn : Str → Bool} {k : Nat} {W : WX} {X : Cx} {T : List Addr} {e e2 : Expr} {fs : FA} {p pos : Pos}
theorem i_en1 (g : Std P w K mg base N sc fn k W X) (F : Fr mg) {tpos : Pos} {elts : List Expr} {kk : Nat} (ha : DA X T W [e] fs) (hg : sc.names.lookup ("enumerate" : Str) = some .globalImplicit := by rfl)
    (hs : starEach [e] X.env = [(false, eval e X.env)] := by rfl) : DI X T W (.Tuple elts kk tpos) (.Call (.Name "enumerate" p) [e] [] pos) (fEn1 fs) :=
  di_en1 (g.gl hg) (g.none F.enumerate) ha hs
theorem i_en2 (g : Std P w K mg base N sc fn k W X) (F : Fr mg) {tpos : Pos} {elts : List Expr} {kk : Nat} (ha : DA X T W [e, e2] fs) (hg : sc.names.lookup ("enumerate" : Str) = some .globalImplicit := by rfl)
    (hs : starEach [e, e2] X.env = (false, eval e X.env) :: starEach [e2] X.env := by rfl) (hpl : (backTo pos (starEach [e2] X.env)).any (·.1) = false := by rfl) : DI X T W (.Tuple elts kk tpos) (.Call (.Name "enumerate" p) [e, e2] [] pos) (fEn2 fs) :=
  di_en2 (g.gl hg) (g.none F.enumerate) ha hs hpl
theorem n_isC {n : String} (g : Std P w K mg base N sc fn k W X) (F : Fr mg) (hn : n = "tuple" ∨ n = "list") (ha : DA X T W [e, e2] fs) (hg : sc.names.lookup ("isinstance" : Str) = some .globalImplicit := by rfl) (he : starEach [e, e2] X.env = (false, eval e X.env) :: starEach [e2] X.env := by rfl) (hpl : (backTo pos (starEach [e2] X.env)).any (·.1) = false := by rfl) : DE X T W (.Call (.Name "isinstance" p) [e, e2] [] pos) (fCB (gIsC n) fs) :=
  de_callB call_isi (c_isC hn) (g.gl hg) (g.none F.isinstance) boot_isinstance ha (by decide +kernel) (by decide +kernel) he hpl
end
end U

set_option Elab.async false
set_option linter.all false
set_option maxRecDepth 100000
set_option maxHeartbeats 1000000
/-! T1: sets of nested tuples (model level): the table, the search, adding. -/
namespace U
open PySem PySem.Spec PyProof.Rows L2

/-! ### data as keys -/
mutual
def D.key : D → NestedKey
  | .int i => .num i
  | .str x => .text x
  | .tup ds => .tup (D.keys ds)
  | _ => .none
def D.keys : List D → List NestedKey
  | [] => []
  | d :: ds => D.key d :: D.keys ds
end
/-- ints, texts and tuples of such, at most n deep -/
def kyD : Nat → D → Bool
  | _, .int _ => true
  | _, .str _ => true
  | n + 1, .tup ds => ds.all (kyD n)
  | _, _ => false
mutual
theorem key_inj : ∀ (x y : D) (m n : Nat), kyD m x = true → kyD n y = true → x.key = y.key → x = y
  | .int i, y, m, n, _, h2, e => by
    cases y <;> simp [D.key] at e <;> first | (subst e; rfl) | (cases n <;> simp [kyD] at h2)
  | .str i, y, m, n, _, h2, e => by
    cases y <;> simp [D.key] at e <;> first | (subst e; rfl) | (cases n <;> simp [kyD] at h2)
  | .tup ds, y, m, n, h1, h2, e => by
    cases m with
    | zero => simp [kyD] at h1
    | succ m =>
      cases y with
      | tup es =>
        cases n with
        | zero => simp [kyD] at h2
        | succ n =>
          simp only [D.key, NestedKey.tup.injEq] at e
          simp only [kyD] at h1 h2
          rw [keys_inj ds es m n h1 h2 e]
      | _ => simp [D.key] at e
  | .non, _, m, _, h1, _, _ | .bl _, _, m, _, h1, _, _ | .lst _, _, m, _, h1, _, _ | .loc _, _, m, _, h1, _, _ | .ty _, _, m, _, h1, _, _ => by cases m <;> simp [kyD] at h1
theorem keys_inj : ∀ (xs ys : List D) (m n : Nat), xs.all (kyD m) = true → ys.all (kyD n) = true → D.keys xs = D.keys ys → xs = ys
  | [], [], _, _, _, _, _ => rfl
  | [], _ :: _, _, _, _, _, e => by simp [D.keys] at e
  | _ :: _, [], _, _, _, _, e => by simp [D.keys] at e
  | x :: xs, y :: ys, m, n, h1, h2, e => by
    rw [List.all_cons, Bool.and_eq_true] at h1 h2
    simp only [D.keys, List.cons.injEq] at e
    rw [key_inj x y m n h1.1 h2.1 e.1, keys_inj xs ys m n h1.2 h2.2 e.2]
end
mutual
theorem ky_depth : ∀ (d : D) (n : Nat), kyD n d = true → d.key.depth ≤ n
  | .int _, _, _ => by simp [D.key, NestedKey.depth]
  | .str _, _, _ => by simp [D.key, NestedKey.depth]
  | .tup ds, 0, h => by simp [kyD] at h
  | .tup ds, n + 1, h => by
    have := kys_depth ds n (by simpa only [kyD] using h)
    simp only [D.key, NestedKey.depth]; omega
  | .non, n, h | .bl _, n, h | .lst _, n, h | .loc _, n, h | .ty _, n, h => by cases n <;> simp [kyD] at h
theorem kys_depth : ∀ (ds : List D) (n : Nat), ds.all (kyD n) = true → NestedKey.depthAll (D.keys ds) ≤ n
  | [], _, _ => by simp [D.keys, NestedKey.depthAll]
  | d :: ds, n, h => by
    rw [List.all_cons, Bool.and_eq_true] at h
    have h1 := ky_depth d n h.1
    have h2 := kys_depth ds n h.2
    simp only [D.keys, NestedKey.depthAll]; omega
end

/-- the tuple at b is the key k -/
def KAt (h : Heap) (k : NestedKey) (b : Addr) : Prop := NestedIs h k (.ref b) ∧ k.depth ≤ 8
theorem KAt.kept {h h' : Heap} {k : NestedKey} {b : Addr} (x : KAt h k b) (g : ∀ c u, h.get? c = some u → h'.get? c = some u) : KAt h' k b := ⟨NestedIs.at (fun c u _ _ e _ => g c u e) k _ x.1, x.2⟩
theorem KAt.overSet {h h' : Heap} {k : NestedKey} {b S : Addr} {u : Obj} {rows : Array (Int × Value)} {e : Nat} {tb : SetTable} (x : KAt h k b) (hu : h.get? S = some u) (hd : u.data = .set rows e tb) (sb : Heap.SameBut S h h') : KAt h' k b :=
  ⟨NestedIs.at (fun c u' vs n q qd => (sb.2 c fun z => by
    subst z
    rw [hu] at q
    cases q
    rw [hd] at qd
    cases qd).trans q) k _ x.1, x.2⟩

section
variable {P : Program} {w : World} {A : Around} {E : Value → Shared → Prop} {s : Shared}
theorem KAt.typ {k : NestedKey} {b : Addr} (x : KAt s.heap k b) : s.TypeIs (.ref b) "tuple" := by
  obtain ⟨x, _⟩ := x
  cases x with
  | tup g c _ _ => exact ⟨_, g, c⟩
/-! small questions asked of a key -/
def ClsNo (P : Program) (w : World) (n : Nat) (s : Shared) (v : Value) : Prop := ∀ (A : Around) (E : Value → Shared → Prop) (Q : Bool → Shared → Prop), Q false s → wpAny (model P w) A (ofAClassStatement n v) Q E s
theorem ClsNo.tuple {n : Nat} {a : Addr} {o : Obj} {vs : Array Value} {m : Nat} (ho : s.heap.get? a = some o) (hc : o.cls = .type "tuple") (hd : o.data = .seq vs m) (all : ∀ v ∈ vs.toList, ClsNo P w n s v) : ClsNo P w (n + 1) s (.ref a) := fun A E Q h => by
  unfold ofAClassStatement
  refine wpAny_bind (wpAny_typeOf (T := "tuple") ⟨o, ho, hc⟩ ?_)
  dsimp only
  have tt : (("tuple" : String) == "tuple") = true := by decide
  simp only [tt, if_true, Bool.not_true, Bool.false_eq_true, if_false]
  try refine wpAny_bind (wpAny_pure ?_)
  try simp only [Bool.not_true, Bool.false_eq_true, if_false]
  show wpAny _ _ (seqItems? (.ref a) >>= _) _ _ s
  refine wpAny_bind (wpAny_seqItems ho hd ?_)
  dsimp only
  refine wpAny_bind ?_
  show wpAny _ _ (forIn vs _ _) _ _ s
  rw [← Array.forIn_toList]
  refine wpAny_forIn_list _ (fun rest r s2 => r.1 = none ∧ s2 = s ∧ ∀ u ∈ rest, ClsNo P w n s u) _ ?_ ?_ _ _ ⟨rfl, rfl, all⟩
  · rintro u rest r s2 ⟨hr, rfl, al⟩
    refine wpAny_bind (al u List.mem_cons_self _ _ _ ?_)
    simp only [Bool.false_eq_true, if_false]
    exact wpAny_pure ⟨rfl, rfl, fun z hz => al z (List.mem_cons_of_mem _ hz)⟩
  · rintro ⟨r1, r2⟩ s2 ⟨hr, rfl, _⟩
    simp only at hr
    subst hr
    exact wpAny_pure h
mutual
theorem cls_key : ∀ (k : NestedKey) (v : Value) (n : Nat) (s : Shared), NestedIs s.heap k v → k.depth ≤ n → ClsNo P w n s v
  | .none, _, n, s, x, _ => by cases x; cases n <;> exact fun A E Q h => wpAny_pure h
  | .num i, _, n, s, x, _ => by cases x <;> cases n <;> exact fun A E Q h => wpAny_pure h
  | .text y, _, n, s, x, _ => by cases x; cases n <;> exact fun A E Q h => wpAny_pure h
  | .tup ks, _, n, s, x, hn => by
    cases x with
    | tup g c d hk =>
      simp only [NestedKey.depth] at hn
      cases n with
      | zero => omega
      | succ n => exact ClsNo.tuple g c d (cls_keys ks _ n s hk (by omega))
theorem cls_keys : ∀ (ks : List NestedKey) (vs : List Value) (n : Nat) (s : Shared), NestedAll s.heap ks vs → NestedKey.depthAll ks ≤ n → ∀ v ∈ vs, ClsNo P w n s v
  | [], _, n, s, x, _, v, hv => by cases x; cases hv
  | k :: ks, _, n, s, x, hn, v, hv => by
    cases x with
    | cons x1 x2 =>
      simp only [NestedKey.depthAll] at hn
      rcases List.mem_cons.mp hv with e | hv
      · rw [e]; exact cls_key k _ n s x1 (by omega)
      · exact cls_keys ks _ n s x2 (by omega) v hv
end
def HvAny (P : Program) (w : World) (n : Nat) (s : Shared) (v : Value) : Prop := ∀ (A : Around) (E : Value → Shared → Prop) (Q : Bool → Shared → Prop), (∀ b, Q b s) → wpAny (model P w) A (hashByValue n v) Q E s
theorem HvAny.tuple {n : Nat} {a : Addr} {o : Obj} {vs : Array Value} {m : Nat} (ho : s.heap.get? a = some o) (hc : o.cls = .type "tuple") (hd : o.data = .seq vs m) (all : ∀ v ∈ vs.toList, HvAny P w n s v) : HvAny P w (n + 1) s (.ref a) := fun A E Q h => by
  unfold hashByValue
  refine wpAny_bind (wpAny_specialOf (T := "tuple") ⟨o, ho, hc⟩ F.slot_tuple_hash.lookup ?_)
  show wpAny _ _ (seqItems? (.ref a) >>= _) _ _ s
  refine wpAny_bind (wpAny_seqItems ho hd ?_)
  refine wpAny_bind ?_
  show wpAny _ _ (forIn vs _ _) _ _ s
  rw [← Array.forIn_toList]
  refine wpAny_forIn_list _ (fun rest r s2 => r.1 = none ∧ s2 = s ∧ ∀ u ∈ rest, HvAny P w n s u) _ ?_ ?_ _ _ ⟨rfl, rfl, all⟩
  · rintro u rest r s2 ⟨hr, rfl, al⟩
    refine wpAny_bind (al u List.mem_cons_self _ _ _ fun b => ?_)
    cases b with
    | true =>
      simp only [Bool.not_true, Bool.false_eq_true, if_false]
      exact wpAny_pure ⟨rfl, rfl, fun z hz => al z (List.mem_cons_of_mem _ hz)⟩
    | false =>
      simp only [Bool.not_false, if_true]
      exact wpAny_pure (wpAny_pure (h false))
  · rintro ⟨r1, r2⟩ s2 ⟨hr, rfl, _⟩
    simp only at hr
    subst hr
    exact wpAny_pure (h true)
mutual
theorem hv_key : ∀ (k : NestedKey) (v : Value) (n : Nat) (s : Shared), NestedIs s.heap k v → HvAny P w n s v
  | .none, _, n, s, x => by cases x; cases n <;> exact fun A E Q h => wpAny_pure (h _)
  | .num i, _, n, s, x => by cases x <;> cases n <;> exact fun A E Q h => wpAny_pure (h _)
  | .text y, _, n, s, x => by cases x; cases n <;> exact fun A E Q h => wpAny_pure (h _)
  | .tup ks, _, n, s, x => by
    cases x with
    | tup g c d hk =>
      cases n with
      | zero => exact fun A E Q h => wpAny_pure (h _)
      | succ n => exact HvAny.tuple g c d (hv_keys ks _ n s hk)
theorem hv_keys : ∀ (ks : List NestedKey) (vs : List Value) (n : Nat) (s : Shared), NestedAll s.heap ks vs → ∀ v ∈ vs, HvAny P w n s v
  | [], _, n, s, x, v, hv => by cases x; cases hv
  | k :: ks, _, n, s, x, v, hv => by
    cases x with
    | cons x1 x2 =>
      rcases List.mem_cons.mp hv with e | hv
      · rw [e]; exact hv_key k _ n s x1
      · exact hv_keys ks _ n s x2 v hv
end
/-- nothing shows -/
theorem seen_key {k : NestedKey} {b : Addr} {Q : Bool → Shared → Prop} (x : KAt s.heap k b) {stored : List Value} (hy : ∀ y ∈ stored, ∃ k2 c, y = Value.ref c ∧ KAt s.heap k2 c) (h : Q false s) : wpAny (model P w) A (searchCouldBeSeen (.ref b) stored) Q E s := by
  unfold searchCouldBeSeen
  refine wpAny_bind ?_
  refine wpAny_forIn_list _ (fun rest r s2 => r.1 = none ∧ s2 = s ∧ ∀ y ∈ rest, ∃ k2 c, y = Value.ref c ∧ KAt s.heap k2 c) _ ?_ ?_ _ _ ⟨rfl, rfl, hy⟩
  · rintro u rest r s2 ⟨hr, rfl, al⟩
    obtain ⟨k2, c, rfl, xc⟩ := al u List.mem_cons_self
    have al2 : ∀ y ∈ rest, ∃ k2 c, y = Value.ref c ∧ KAt s2.heap k2 c := fun z hz => al z (List.mem_cons_of_mem _ hz)
    dsimp only
    by_cases hv : (b == c || (carriedByValue (.ref b) && carriedByValue (.ref c))) = true
    · exact wp_if_pos hv (wpAny_pure ⟨rfl, rfl, al2⟩)
    · refine wp_if_neg hv (wpAny_bind (quiet_key k _ 8 _ x.1 x.2 _ _ _ ?_))
      simp only [Bool.not_true, Bool.false_eq_true, if_false]
      refine wpAny_bind (quiet_key k2 _ 8 _ xc.1 xc.2 _ _ _ ?_)
      simp only [Bool.not_true, Bool.false_eq_true, if_false]
      refine wpAny_bind (cls_key k _ 8 _ x.1 x.2 _ _ _ ?_)
      simp only [Bool.false_eq_true, if_false]
      refine wpAny_bind (cls_key k2 _ 8 _ xc.1 xc.2 _ _ _ ?_)
      simp only [Bool.false_eq_true, if_false]
      exact wpAny_pure ⟨rfl, rfl, al2⟩
  · rintro ⟨r1, r2⟩ s2 ⟨hr, rfl, _⟩
    simp only at hr
    subst hr
    exact wpAny_pure h

/-! ### the set -/
abbrev Ent := Addr × D
abbrev Ent.k (p : Ent) : NestedKey := p.2.key
def erow (w : World) (L : List Ent) : List (Int × Value) := L.map fun p => (p.2.key.hash w, Value.ref p.1)
structure SN (w : World) (h : Heap) (S : Addr) (L : List Ent) (rows : Array (Int × Value)) (e : Nat) (tb : SetTable) : Prop where
  obj : ∃ u, h.get? S = some u ∧ u.ExactSet ∧ u.data = .set rows e tb
  row : rows.toList = erow w L
  tab : TabOk tb (L.map fun p => p.2.key.hash w)
  dis : (L.map fun p => p.2.key).Nodup
  at_ : ∀ p ∈ L, KAt h p.2.key p.1
  led : w.params.followText "set-order" = true ∨ tb.led = true
  low : L.length * 5 < tb.mask * 3
  few : L.length ≤ 76
variable {S : Addr} {L : List Ent} {rows : Array (Int × Value)} {e : Nat} {tb : SetTable}
theorem erow_len (w : World) (L : List Ent) : (erow w L).length = L.length := by unfold erow; rw [List.length_map]
theorem rows_len {rows : Array (Int × Value)} {L : List Ent} (h : rows.toList = erow w L) : rows.size = L.length := by rw [← Array.length_toList, h, erow_len]
theorem SN.len (R : SN w s.heap S L rows e tb) : rows.size = L.length := rows_len R.row
theorem SN.fits (R : SN w s.heap S L rows e tb) : tb.fits rows.size = true := by
  have a1 := R.tab.sz
  have a2 := R.len
  have a3 := R.low
  rw [List.length_map] at a1
  unfold SetTable.fits SetTable.fill
  rw [R.tab.dm, Bool.and_eq_true, beq_iff_eq, decide_eq_true_eq]
  show tb.place.size = rows.size ∧ tb.place.size + 0 ≤ tb.mask
  omega
theorem SN.ent (R : SN w s.heap S L rows e tb) {i : Nat} {p : Ent} (q : L[i]? = some p) : rows[i]? = some (p.2.key.hash w, Value.ref p.1) := by
  rw [← Array.getElem?_toList, R.row]
  unfold erow
  rw [List.getElem?_map, q] <;> rfl
theorem gave_no {tb : SetTable} (m : MaskOk tb.mask) : ¬ tb.gaveWay = true := by
  unfold SetTable.gaveWay
  rw [mask_odd m]
  decide
theorem nth_dummy (m : Nat) : ∀ (n : Nat) (p : SetTable.Probe), p.dummy = none → (nth m p n).dummy = none
  | 0, p, h => h
  | n + 1, p, h => nth_dummy m n (adv m p) (by unfold adv; split <;> exact h)
abbrev walkOf (m : Nat) (h : Int) : SetTable.Probe := runAt m (SetTable.bits h % (m + 1)) (SetTable.bits h)

/-- the search from the c-th step on -/
theorem seek_on (R : SN w s.heap S L rows e tb) {x : Addr} {k : NestedKey} (hx : KAt s.heap k x) (hu : A.units + 8 < cLine) {K : Nat} (kf : K < 10 * SetTable.turns tb.mask)
    (kn : way tb.mask (k.hash w) K ∉ tb.place.toList) (kb : ∀ c, c < K → way tb.mask (k.hash w) c ∈ tb.place.toList) {Q : SetFound → Shared → Prop}
    (qin : k ∈ L.map (fun p => p.2.key) → Q (.there none) s) (qout : k ∉ L.map (fun p => p.2.key) → Q (.free (way tb.mask (k.hash w) K) false) s) :
    ∀ (f c : Nat) (st : Option SetTable.Probe), st.getD (tb.probeStart (k.hash w)) = nth tb.mask (walkOf tb.mask (k.hash w)) c → c ≤ K → K - c < f →
      (∀ (i : Nat) (p : Ent), L[i]? = some p → p.2.key = k → ∃ d, c ≤ d ∧ d < K ∧ tb.place.toList[i]? = some (way tb.mask (k.hash w) d)) →
      wpAny (model P w) A (setSearchFrom S (.ref x) (k.hash w) true f st) Q E s := by
  obtain ⟨u, hu1, hu2, hu3⟩ := R.obj
  intro f
  induction f with
  | zero => intro c st _ _ hf _; exact absurd hf (Nat.not_lt_zero _)
  | succ f ih =>
    intro c st hst hc hf ahead
    rw [setSearchFrom_succ]
    refine wpAny_bind (wpAny_setState_of hu1 hu3 R.fits ?_)
    dsimp only
    refine wp_if_neg (gave_no R.tab.mok) ?_
    try refine wpAny_bind (wpAny_pure ?_)
    have jn : ∀ q, (nth tb.mask (nth tb.mask (walkOf tb.mask (k.hash w)) c) q) = nth tb.mask (walkOf tb.mask (k.hash w)) (c + q) := fun q => (nth_add tb.mask c _ q).symm
    have jj : ∀ q, (nth tb.mask (nth tb.mask (walkOf tb.mask (k.hash w)) c) q).j = way tb.mask (k.hash w) (c + q) := fun q => congrArg SetTable.Probe.j (jn q)
    have hsh : ∀ (i : Nat) (p : Ent), L[i]? = some p → (rows[i]?.map (·.1)).getD 0 = p.2.key.hash w := fun i p hp => by rw [R.ent hp] <;> rfl
    have spec := go_spec tb R.tab.ris R.tab.dm (fun i => (rows[i]?.map (·.1)).getD 0) (k.hash w) (10 * SetTable.turns tb.mask) (K - c) (nth tb.mask (walkOf tb.mask (k.hash w)) c) (nth_dummy _ c _ rfl) (by omega)
      (fun q hq => by rw [jj]; exact kb (c + q) (by omega)) (by rw [jj, show c + (K - c) = K by omega]; exact kn)
    rcases spec with ⟨q, i, hq, hi, heq, hno, hpr⟩ | ⟨hno, hpr⟩
    · have probe : tb.probe (fun i => (rows[i]?.map (·.1)).getD 0) (k.hash w) (st.getD (tb.probeStart (k.hash w))) = some (.candidate (way tb.mask (k.hash w) (c + q)) i (nth tb.mask (walkOf tb.mask (k.hash w)) (c + (q + 1)))) := by
        rw [hst, ← jj, ← jn]
        exact hpr
      rw [probe]
      dsimp only
      rw [jj] at hi
      have hil : i < L.length := by
        have b1 : i < tb.place.toList.length := (List.getElem?_eq_some_iff.mp hi).1
        have b2 := R.tab.sz
        rw [List.length_map] at b2
        rw [Array.length_toList] at b1
        omega
      obtain ⟨p, hp⟩ : ∃ p, L[i]? = some p := ⟨_, List.getElem?_eq_getElem hil⟩
      have mem : p ∈ L := List.mem_of_getElem? hp
      have live : tb.slot (way tb.mask (k.hash w) (c + q)) = .live i := slot_live R.tab.ris hi
      have rest : wpAny (model P w) A (searchRest S (.ref x) (k.hash w) true f rows tb (way tb.mask (k.hash w) (c + q)) i (nth tb.mask (walkOf tb.mask (k.hash w)) (c + (q + 1)))) Q E s := by
        unfold searchRest
        rw [R.ent hp]
        dsimp only
        refine wpAny_bind (wpAny_holding ((nestedKind P w).eqBool (x := p.2.key) (y := k) hu (R.at_ p mem) hx ?_))
        refine wpAny_bind (wpAny_setState_of hu1 hu3 R.fits ?_)
        dsimp only
        by_cases same : p.2.key = k
        · refine wp_if_pos (by simp [same]) ?_
          exact wpAny_pure (qin (List.mem_map.mpr ⟨p, mem, same⟩))
        · refine wp_if_neg (by simp [same]) ?_
          try refine wpAny_bind (wpAny_pure ?_)
          rw [sameMem]
          dsimp only
          simp only [if_true, live, R.ent hp]
          refine wpAny_bind (wpAny_isSame_ref_self (wpAny_bind (wpAny_pure ?_)))
          simp only [if_true]
          refine wp_if_neg (by simp [same]) ?_
          refine ih (c + (q + 1)) _ rfl (by omega) (by omega) fun i2 p2 h2 k2 => ?_
          obtain ⟨d, d1, d2, d3⟩ := ahead i2 p2 h2 k2
          refine ⟨d, ?_, d2, d3⟩
          rcases Nat.lt_trichotomy d (c + q) with z | z | z
          · exact absurd ((hsh i2 p2 h2).trans (congrArg (NestedKey.hash w) k2)) (hno (d - c) i2 (by omega) (by rw [jj, show c + (d - c) = d by omega]; exact d3))
          · rw [z] at d3
            have s2 := slot_live R.tab.ris d3
            rw [live] at s2
            injection s2 with s2
            rw [← s2, hp] at h2
            cases h2
            exact absurd k2 same
          · omega
      by_cases hl : tb.led = true
      · refine wp_if_neg (by simp [hl]) ?_
        try refine wpAny_bind (wpAny_pure ?_)
        exact rest
      · refine wp_if_pos (by simp [hl]) ?_
        refine wpAny_bind (seen_key hx (fun y hy => ?_) ?_)
        · obtain ⟨r, hr, er⟩ := List.mem_map.mp hy
          have r1 : r ∈ rows ∧ r.1 = k.hash w := by simpa using hr
          have r2 : r ∈ rows.toList := by simpa using r1.1
          rw [R.row] at r2
          obtain ⟨p2, m2, e2⟩ := List.mem_map.mp r2
          exact ⟨p2.2.key, p2.1, by rw [← er, ← e2], R.at_ p2 m2⟩
        · refine wp_if_neg (by decide) ?_
          try refine wpAny_bind (wpAny_pure ?_)
          exact rest
    · have probe : tb.probe (fun i => (rows[i]?.map (·.1)).getD 0) (k.hash w) (st.getD (tb.probeStart (k.hash w))) = some (.empty (way tb.mask (k.hash w) K) none) := by
        have z : way tb.mask (k.hash w) K = (nth tb.mask (nth tb.mask (walkOf tb.mask (k.hash w)) c) (K - c)).j := by rw [jj, show c + (K - c) = K by omega]
        rw [hst, z]
        exact hpr
      rw [probe]
      dsimp only
      refine wpAny_pure (qout fun hm => ?_)
      obtain ⟨p2, m2, k2⟩ := List.mem_map.mp hm
      obtain ⟨i2, l2, e2⟩ := List.getElem_of_mem m2
      have h2 : L[i2]? = some p2 := by rw [List.getElem?_eq_getElem l2, e2]
      obtain ⟨d, d1, d2, d3⟩ := ahead i2 p2 h2 k2
      exact hno (d - c) i2 (by omega) (by rw [jj, show c + (d - c) = d by omega]; exact d3) ((hsh i2 p2 h2).trans (congrArg (NestedKey.hash w) k2))
theorem seek (R : SN w s.heap S L rows e tb) {x : Addr} {k : NestedKey} (hx : KAt s.heap k x) (hu : A.units + 8 < cLine) {Q : SetFound → Shared → Prop} (qin : k ∈ L.map (fun p => p.2.key) → Q (.there none) s)
    (qout : ∀ K, k ∉ L.map (fun p => p.2.key) → way tb.mask (k.hash w) K ∉ tb.place.toList → (∀ c, c < K → way tb.mask (k.hash w) c ∈ tb.place.toList) → Q (.free (way tb.mask (k.hash w) K) false) s) :
    wpAny (model P w) A (setSearch S (.ref x) (k.hash w) true) Q E s := by
  have lo := R.low
  obtain ⟨K, kf, kn, kb⟩ := R.tab.first (by rw [List.length_map]; omega) (k.hash w)
  have big : 10 * SetTable.turns tb.mask ≤ 1420 := by
    unfold SetTable.turns
    rcases R.tab.mok with z | z | z <;> omega
  unfold setSearch
  refine seek_on R hx hu kf kn kb qin (fun hn => qout K hn kn kb) 100000 0 none rfl (Nat.zero_le _) (by omega) fun i p hp hk => ?_
  have hi : (L.map fun p => p.2.key.hash w)[i]? = some (k.hash w) := by rw [List.getElem?_map, hp, ← hk] <;> rfl
  have hil : i < tb.place.toList.length := by
    have b1 : i < L.length := (List.getElem?_eq_some_iff.mp hp).1
    have b2 := R.tab.sz
    rw [List.length_map] at b2
    rw [Array.length_toList]
    omega
  obtain ⟨d, d1, d2⟩ := R.tab.before kn hi (List.getElem?_eq_getElem hil)
  exact ⟨d, Nat.zero_le _, d1, by rw [List.getElem?_eq_getElem hil, d2]⟩
end
end U

set_option Elab.async false
set_option linter.all false
set_option maxRecDepth 100000
set_option maxHeartbeats 3200000
/-! T2: adding to a set of nested tuples; set(list). -/
namespace U
open PySem PySem.Spec PyProof.Rows L2
section
variable {P : Program} {w : World} {A : Around} {E : Value → Shared → Prop} {s : Shared}
variable {S : Addr} {L : List Ent} {rows : Array (Int × Value)} {e : Nat} {tb : SetTable}
theorem erow_put (L : List Ent) (n : Nat) (q : Ent) : erow w (L.take n ++ q :: L.drop n) = (erow w L).take n ++ (q.2.key.hash w, Value.ref q.1) :: (erow w L).drop n := by
  unfold erow
  simp only [List.map_append, List.map_cons, List.map_take, List.map_drop]
theorem all_of_range {α : Type} (L : List α) : ∀ n, n ≤ L.length → (List.range n).filterMap (fun i => L[i]?) = L.take n
  | 0, _ => by simp
  | n + 1, h => by
    rw [List.range_succ, List.filterMap_append, all_of_range L n (by omega), List.take_succ, List.getElem?_eq_getElem h, List.filterMap_cons_some (List.getElem?_eq_getElem h)] <;> rfl
/-- the rows in a new order -/
theorem erow_order (hr : rows.toList = erow w L) {ord : Array Nat} (hp : ord.toList.Perm (List.range L.length)) :
    ∃ L2 : List Ent, (ord.filterMap (rows[·]?)).toList = erow w L2 ∧ L2.Perm L ∧ (L2.map fun p => p.2.key.hash w) = ord.toList.map fun i => (rows.map (·.1)).getD i 0 := by
  have ent : ∀ (i : Nat) (p : Ent), L[i]? = some p → rows[i]? = some (p.2.key.hash w, Value.ref p.1) := fun i p h => by
    rw [← Array.getElem?_toList, hr]
    unfold erow
    rw [List.getElem?_map, h] <;> rfl
  have go : ∀ l : List Nat, (∀ i ∈ l, i < L.length) → l.filterMap (fun i => rows[i]?) = erow w (l.filterMap fun i => L[i]?) ∧ ((l.filterMap fun i => L[i]?).map fun p => p.2.key.hash w) = l.map fun i => (rows.map (·.1)).getD i 0 := by
    intro l
    induction l with
    | nil => intro _; exact ⟨rfl, rfl⟩
    | cons i l ih =>
      intro hl
      have hi : L[i]? = some (L[i]'(hl i List.mem_cons_self)) := List.getElem?_eq_getElem _
      obtain ⟨a1, a2⟩ := ih fun j hj => hl j (List.mem_cons_of_mem _ hj)
      have hv : (rows.map (·.1)).getD i 0 = (L[i]'(hl i List.mem_cons_self)).2.key.hash w := by
        have z : (rows.map (·.1))[i]? = some ((L[i]'(hl i List.mem_cons_self)).2.key.hash w) := by rw [Array.getElem?_map, ent i _ hi] <;> rfl
        simp [Array.getD_eq_getD_getElem?, z]
      refine ⟨?_, ?_⟩
      · rw [List.filterMap_cons_some (ent i _ hi), List.filterMap_cons_some hi, a1]
        unfold erow
        rw [List.map_cons]
      · rw [List.filterMap_cons_some hi, List.map_cons, List.map_cons, a2, hv]
  obtain ⟨a1, a2⟩ := go ord.toList fun i hi => List.mem_range.mp (hp.mem_iff.mp hi)
  refine ⟨_, by first | (rw [Array.toList_filterMap]; exact a1) | simpa using a1, ?_, a2⟩
  have q := hp.filterMap (fun i => L[i]?)
  rw [all_of_range L L.length (Nat.le_refl _), List.take_length] at q
  exact q
theorem TabOk.unplain {t : SetTable} {hs : List Int} (T : TabOk t hs) (b : Bool) : TabOk { t with plain := b } hs := ⟨T.ris, T.dm, T.sz, T.mok, T.bd, T.reach⟩

/-- the table laid anew, larger -/
theorem relay_n {u : Obj} (hu : s.heap.get? S = some u) (hx : u.ExactSet) (hd : u.data = .set rows e tb) (hrow : rows.toList = erow w L) (T0 : TabOk tb (L.map fun p => p.2.key.hash w)) (fit : rows.size ≤ tb.mask)
    (dis : (L.map fun p => p.2.key).Nodup) (at_ : ∀ p ∈ L, KAt s.heap p.2.key p.1) (led : w.params.followText "set-order" = true ∨ tb.led = true) (few : L.length ≤ 76) {want M : Nat}
    (hw : SetTable.sizeAbove want - 1 = M) (hM : MaskOk M) (h128 : SetTable.sizeAbove want ≤ 128) (low : L.length * 5 < M * 3) {Q : Unit → Shared → Prop}
    (hQ : ∀ h2 L2 rows2 e2 tb2, Heap.SameBut S s.heap h2 → SN w h2 S L2 rows2 e2 tb2 → L2.Perm L → Q () { s with heap := h2 }) : wpAny (model P w) A (setRelay S want) Q E s := by
  have len : rows.size = L.length := rows_len hrow
  have psz : tb.place.size = rows.size := by have z := T0.sz; rw [List.length_map] at z; rw [z, len]
  have fits : tb.fits rows.size = true := by
    unfold SetTable.fits SetTable.fill
    rw [T0.dm, Bool.and_eq_true, beq_iff_eq, decide_eq_true_eq]
    show tb.place.size = rows.size ∧ tb.place.size + 0 ≤ tb.mask
    omega
  obtain ⟨tb2, ord, er, hp, T, em, el, _, _⟩ := relaid_ok tb (hs := rows.map (·.1)) (wanted := want) hw hM (by rw [Array.size_map, len]; omega)
  rw [Array.size_map, len] at hp
  obtain ⟨L2, r1, r2, r3⟩ := erow_order hrow hp
  rw [← r3] at T
  have sz2 : (ord.filterMap (rows[·]?)).size = rows.size := by rw [rows_len r1, r2.length_eq, len]
  rw [setRelay_eq]
  refine wpAny_bind (wpAny_setState_of hu hd fits ?_)
  dsimp only
  refine wp_if_neg (by rw [sizeLine_eq]; omega) ?_
  try refine wpAny_bind (wpAny_pure ?_)
  rw [er]
  dsimp only
  refine wpAny_bind ?_
  refine wp_if_neg (by rw [sz2]; simp) ?_
  try refine wpAny_bind (wpAny_pure ?_)
  refine wpAny_pure ?_
  dsimp only
  refine wpAny_storeSet_of hu hd ?_ (by rw [sz2, len, sizeLine_eq]; omega)
  have sb : Heap.SameBut S s.heap (s.heap.update S (Obj.putSet (ord.filterMap (rows[·]?)) tb2)) := Heap.SameBut.update ..
  refine hQ _ L2 (ord.filterMap (rows[·]?)) (e + 1) tb2 sb ⟨⟨_, store_at hu hd, ⟨hx.1, hx.2.1, hx.2.2⟩, rfl⟩, r1, T, ?_, fun p hm => (at_ p (r2.mem_iff.mp hm)).overSet hu hd sb, by rw [el]; exact led, ?_, by rw [r2.length_eq]; exact few⟩ r2
  · exact (r2.map fun p : Ent => p.2.key).nodup_iff.mpr dis
  · rw [r2.length_eq, em]; exact low

/-- what is kept when an entry is put -/
structure PutN (w : World) (s : Shared) (S : Addr) (L : List Ent) (q : Ent) (L1 : List Ent) (rows1 : Array (Int × Value)) (tb tb1 : SetTable) : Prop where
  row : rows1.toList = erow w L1
  tab : TabOk tb1 (L1.map fun p => p.2.key.hash w)
  perm : L1.Perm (q :: L)
  mask : tb1.mask = tb.mask
  led : tb1.led = tb.led
  fill : tb1.fill = L.length + 1
theorem put_n (R : SN w s.heap S L rows e tb) (q : Ent) {K : Nat} (kn : way tb.mask (q.2.key.hash w) K ∉ tb.place.toList) (kb : ∀ c, c < K → way tb.mask (q.2.key.hash w) c ∈ tb.place.toList) :
    ∃ L1, PutN w s S L q L1 (SetTable.insertAt rows (tb.put (way tb.mask (q.2.key.hash w) K)).2 (q.2.key.hash w, Value.ref q.1)) tb (tb.put (way tb.mask (q.2.key.hash w) K)).1 := by
  obtain ⟨z1, z2, z3, z4, z5, z6, z7, z8, z9⟩ := R.tab.put kn kb
  rw [z1]
  generalize SetTable.below tb.place (way tb.mask (q.2.key.hash w) K) = n at z2 z3
  refine ⟨L.take n ++ q :: L.drop n, ?_, ?_, put_perm L n q, z4, z5, ?_⟩
  · rw [SetTable.toList_insertAt, erow_put, R.row]
  · have ez : (L.take n ++ q :: L.drop n).map (fun p => p.2.key.hash w) = (L.map fun p => p.2.key.hash w).take n ++ q.2.key.hash w :: (L.map fun p => p.2.key.hash w).drop n := by
      simp only [List.map_append, List.map_cons, List.map_take, List.map_drop]
    rw [ez]; exact z3
  · rw [z9, List.length_map]
/-- behind the put: the table stored, laid anew where it is too full -/
theorem tail_n (R : SN w s.heap S L rows e tb) {q : Ent} (hq : KAt s.heap q.2.key q.1) (hfew : L.length + 1 ≤ 76) (hnew : q.2.key ∉ L.map fun p => p.2.key) {L1 : List Ent} {rows1 : Array (Int × Value)} {tb1 : SetTable} (pn : PutN w s S L q L1 rows1 tb tb1) {Q : Bool → Shared → Prop}
    (hQ : ∀ h2 L2 rows2 e2 tb2, Heap.SameBut S s.heap h2 → SN w h2 S L2 rows2 e2 tb2 → L2.Perm (q :: L) → Q true { s with heap := h2 }) :
    wpAny (model P w) A (do
      storeSet S rows1 tb1
      if (!false && tb1.tooFull) = true then setRelay S (SetTable.grown (rows.size + 1))
      return true) Q E s := by
  obtain ⟨u, hu1, hu2, hu3⟩ := R.obj
  have len := R.len
  have lo := R.low
  have l1 : L1.length = L.length + 1 := pn.perm.length_eq
  have len1 : rows1.size = L.length + 1 := by rw [rows_len pn.row, l1]
  have dis1 : (L1.map fun p => p.2.key).Nodup := by
    refine (pn.perm.map fun p : Ent => p.2.key).nodup_iff.mpr ?_
    rw [List.map_cons]
    exact List.nodup_cons.mpr ⟨hnew, R.dis⟩
  refine wpAny_bind (wpAny_storeSet_of hu1 hu3 ?_ (by rw [len1, sizeLine_eq]; omega))
  have sb : Heap.SameBut S s.heap (s.heap.update S (Obj.putSet rows1 tb1)) := Heap.SameBut.update ..
  have hu4 := store_at (es' := rows1) (t' := tb1) hu1 hu3
  generalize s.heap.update S (Obj.putSet rows1 tb1) = h1 at sb hu4 ⊢
  have at1 : ∀ p ∈ L1, KAt h1 p.2.key p.1 := fun p hp => by
    rcases List.mem_cons.mp (pn.perm.mem_iff.mp hp) with z | z
    · rw [z]; exact hq.overSet hu1 hu3 sb
    · exact (R.at_ p z).overSet hu1 hu3 sb
  have led1 : w.params.followText "set-order" = true ∨ tb1.led = true := by rw [pn.led]; exact R.led
  by_cases hf : tb1.tooFull = true
  · have full : (L.length + 1) * 5 ≥ tb1.mask * 3 := by
      have z := hf
      unfold SetTable.tooFull at z
      rw [decide_eq_true_eq, pn.fill] at z
      exact z
    have two : (tb.mask = 7 ∧ L.length = 4) ∨ (tb.mask = 31 ∧ L.length = 18) := by
      rcases R.tab.mok with z | z | z
      · left; rw [pn.mask, z] at full; rw [z] at lo; exact ⟨z, by omega⟩
      · right; rw [pn.mask, z] at full; rw [z] at lo; exact ⟨z, by omega⟩
      · exfalso; rw [pn.mask, z] at full; omega
    have go : ∀ M, SetTable.sizeAbove (SetTable.grown (L.length + 1)) - 1 = M → MaskOk M → SetTable.sizeAbove (SetTable.grown (L.length + 1)) ≤ 128 → (L.length + 1) * 5 < M * 3 →
        wpAny (model P w) A (setRelay S (SetTable.grown (rows.size + 1))) (fun _ s2 => wpAny (model P w) A (pure true) Q E s2) E { s with heap := h1 } := fun M c1 c2 c3 c4 => by
      rw [len]
      refine relay_n (s := { s with heap := h1 }) hu4 ⟨hu2.1, hu2.2.1, hu2.2.2⟩ rfl pn.row pn.tab (by rw [len1, pn.mask]; rcases two with ⟨z, z2⟩ | ⟨z, z2⟩ <;> omega) dis1 at1 led1 (by omega) c1 c2 c3 (by rw [l1]; exact c4) ?_
      intro h2 L2 rows2 e2 tb2 sb2 R2 pm2
      exact wpAny_pure (hQ h2 L2 rows2 e2 tb2 (sb.trans sb2) R2 (pm2.trans pn.perm))
    have fin : wpAny (model P w) A (setRelay S (SetTable.grown (rows.size + 1))) (fun _ s2 => wpAny (model P w) A (pure true) Q E s2) E { s with heap := h1 } := by
      rcases two with ⟨_, z⟩ | ⟨_, z⟩
      · exact go 31 (by rw [z, size_20]) (.inr (.inl rfl)) (by rw [z, size_20]; decide) (by omega)
      · exact go 127 (by rw [z, size_76]) (.inr (.inr rfl)) (by rw [z, size_76]; decide) (by omega)
    first
      | (refine wp_if_pos (by simp [hf]) ?_; exact wpAny_bind fin)
      | (refine wpAny_bind ?_; refine wp_if_pos (by simp [hf]) ?_; exact fin)
  · have fin : Q true { s with heap := h1 } := by
      refine hQ h1 L1 rows1 (e + 1) tb1 sb ⟨⟨_, hu4, ⟨hu2.1, hu2.2.1, hu2.2.2⟩, rfl⟩, pn.row, pn.tab, dis1, at1, led1, ?_, by omega⟩ pn.perm
      have z := hf
      unfold SetTable.tooFull at z
      rw [decide_eq_true_eq, pn.fill] at z
      rw [l1]
      omega
    first
      | (refine wp_if_neg (by simp [hf]) ?_; exact wpAny_pure fin)
      | (refine wpAny_bind ?_; refine wp_if_neg (by simp [hf]) ?_; exact wpAny_pure (wpAny_pure fin))
/-- adding -/
theorem add_n (R : SN w s.heap S L rows e tb) (q : Ent) (hq : KAt s.heap q.2.key q.1) (hu : A.units + 8 < cLine) (hfew : L.length + 1 ≤ 76) {Q : Bool → Shared → Prop}
    (hQ : ∀ b h2 L2 rows2 e2 tb2, Heap.SameBut S s.heap h2 → SN w h2 S L2 rows2 e2 tb2 → (q.2.key ∈ L.map (fun p => p.2.key) → L2 = L) → (q.2.key ∉ L.map (fun p => p.2.key) → L2.Perm (q :: L)) → Q b { s with heap := h2 }) :
    wpAny (model P w) A (setAddHashed S (.ref q.1) (q.2.key.hash w)) Q E s := by
  obtain ⟨u, hu1, hu2, hu3⟩ := R.obj
  unfold setAddHashed
  refine wpAny_holding ?_
  rw [show (100000 : Nat) = 99999 + 1 from rfl, setAddHashedIn_succ]
  refine wpAny_bind (wpAny_setState_of hu1 hu3 R.fits ?_)
  dsimp only
  refine wp_if_neg (by simp [byScan, Value.scannable]) ?_
  try refine wpAny_bind (wpAny_pure ?_)
  refine wpAny_bind (seek R hq hu (fun hm => ?_) fun K hm kn kb => ?_)
  · dsimp only
    exact wpAny_pure (hQ false s.heap L rows e tb (Heap.SameBut.refl S s.heap) R (fun _ => rfl) fun z => absurd hm z)
  · dsimp only
    refine wpAny_bind (wpAny_setState_of hu1 hu3 R.fits ?_)
    dsimp only
    obtain ⟨L1, pn⟩ := put_n R q kn kb
    generalize tb.put (way tb.mask (q.2.key.hash w) K) = pt at pn ⊢
    obtain ⟨tb1, n⟩ := pt
    dsimp only at pn ⊢
    have pn2 : ∀ b : Bool, PutN w s S L q L1 (SetTable.insertAt rows n (q.2.key.hash w, Value.ref q.1)) tb (if b then tb1 else { tb1 with plain := false }) := fun b => by
      cases b with
      | true => exact pn
      | false => exact ⟨pn.row, TabOk.unplain pn.tab false, pn.perm, pn.mask, pn.led, pn.fill⟩
    have fin := fun b : Bool => tail_n (P := P) (A := A) (E := E) (Q := Q) R hq hfew hm (pn2 b) fun h2 L2 rows2 e2 tb2 sb2 R2 pm => hQ true h2 L2 rows2 e2 tb2 sb2 R2 (fun z => absurd z hm) fun _ => pm
    first
      | (by_cases hp : tb1.plain = true
         · exact wp_if_pos hp (wpAny_bind (hv_key q.2.key _ 8 _ hq.1 _ _ _ fun b => fin b))
         · exact wp_if_neg hp (wpAny_bind (wpAny_pure (fin true))))
      | (refine wpAny_bind ?_
         by_cases hp : tb1.plain = true
         · exact wp_if_pos hp (hv_key q.2.key _ 8 _ hq.1 _ _ _ fun b => fin b)
         · exact wp_if_neg hp (wpAny_pure (fin true)))
theorem add_hash (R : SN w s.heap S L rows e tb) (q : Ent) (hq : KAt s.heap q.2.key q.1) (hu : A.units + 8 < cLine) (hfew : L.length + 1 ≤ 76) {Q : Bool → Shared → Prop}
    (hQ : ∀ b h2 t2 L2 rows2 e2 tb2, Heap.SameBut S s.heap h2 → SN w h2 S L2 rows2 e2 tb2 → (q.2.key ∈ L.map (fun p => p.2.key) → L2 = L) → (q.2.key ∉ L.map (fun p => p.2.key) → L2.Perm (q :: L)) → s.toks ≤ t2 → Q b { s with heap := h2, toks := t2 }) :
    wpAny (model P w) A (setAdd S (.ref q.1)) Q E s := by
  unfold setAdd
  refine wpAny_holding ?_
  refine wpAny_bind ((nestedKind P w).pyHash (k := q.2.key) hu hq ?_)
  exact add_n (s := { s with toks := s.toks + q.2.key.draws }) R q hq hu hfew fun b h2 L2 rows2 e2 tb2 c1 c2 c3 c4 => hQ b h2 _ L2 rows2 e2 tb2 c1 c2 c3 c4 (Nat.le_add_right _ _)
theorem SN.kept {h h2 : Heap} (R : SN w h S L rows e tb) (hS : ∀ u, h.get? S = some u → h2.get? S = some u) (at2 : ∀ p ∈ L, KAt h2 p.2.key p.1) : SN w h2 S L rows e tb :=
  let ⟨u, hu, r⟩ := R.obj
  ⟨⟨u, hS u hu, r⟩, R.row, R.tab, R.dis, at2, R.led, R.low, R.few⟩
abbrev emptySet (w : World) : Obj := { cls := .type "set", dict := none, data := .set #[] 0 (.fresh 0 0 (!w.params.followText "set-order")) }
theorem SN.fresh {h : Heap} (hS : h.get? S = some (emptySet w)) : SN w h S [] #[] 0 (.fresh 0 0 (!w.params.followText "set-order")) where
  obj := ⟨_, hS, ⟨rfl, rfl, rfl⟩, rfl⟩
  row := rfl
  tab := ⟨List.Pairwise.nil, rfl, rfl, .inl rfl, fun x hx => (nomatch hx), fun i h j hi => (by simp at hi)⟩
  dis := List.nodup_nil
  at_ := fun p hp => (nomatch hp)
  led := by
    show _ ∨ (!w.params.followText "set-order") = true
    cases w.params.followText "set-order" <;> simp
  low := by show 0 * 5 < 7 * 3; decide
  few := Nat.zero_le _
end
end U

set_option Elab.async false
set_option linter.all false
set_option maxRecDepth 100000
set_option maxHeartbeats 3200000
/-! T3: set(list) of nested tuples. -/
namespace U
open PySem PySem.Spec PyProof.Rows L2
/-- what a set has from the first n of the entries -/
structure Has (ks : List Ent) (n : Nat) (L : List Ent) : Prop where
  sub : ∀ p ∈ L, p ∈ ks.take n
  all : ∀ p ∈ ks.take n, p.2.key ∈ L.map fun p => p.2.key
  len : L.length ≤ n
theorem Has.start (ks : List Ent) : Has ks 0 [] := ⟨fun p h => (nomatch h), fun p h => by simp at h, Nat.le_refl _⟩
theorem Has.step {ks L L2 : List Ent} {n : Nat} {x : Ent} (g : Has ks n L) (h : ks[n]? = some x) (c1 : x.2.key ∈ L.map (fun p => p.2.key) → L2 = L) (c2 : x.2.key ∉ L.map (fun p => p.2.key) → L2.Perm (x :: L)) : Has ks (n + 1) L2 := by
  have tk := take_next h
  rcases Classical.em (x.2.key ∈ L.map fun p => p.2.key) with c | c
  · rw [c1 c]
    refine ⟨fun p hp => by rw [tk]; exact List.mem_append_left _ (g.sub p hp), fun p hp => ?_, Nat.le_succ_of_le g.len⟩
    rw [tk] at hp
    rcases List.mem_append.mp hp with z | z
    · exact g.all p z
    · rw [List.mem_singleton.mp z]; exact c
  · have pm := c2 c
    refine ⟨fun p hp => ?_, fun p hp => ?_, by rw [pm.length_eq, List.length_cons]; exact Nat.succ_le_succ g.len⟩
    · rw [tk]
      rcases List.mem_cons.mp (pm.mem_iff.mp hp) with z | z
      · rw [z]; exact List.mem_append_right _ (List.mem_singleton.mpr rfl)
      · exact List.mem_append_left _ (g.sub p z)
    · rw [(pm.map fun p : Ent => p.2.key).mem_iff, List.map_cons]
      rw [tk] at hp
      rcases List.mem_append.mp hp with z | z
      · exact List.mem_cons_of_mem _ (g.all p z)
      · rw [List.mem_singleton.mp z]; exact List.mem_cons_self
section
variable {P : Program} {w : World} {A : Around} {E : Value → Shared → Prop} {s : Shared}
/-- the loop of set.update -/
theorem upd_n {I : Addr} {fp wr : List Addr} {G : Array GenState → Array GenState → Prop} {N : Nat} {Pv : Nat → Value → Prop} {St : Nat → Shared → Prop} {R : Result → Shared → Prop}
    (W : WalksS P w A.in1 I fp wr G N Pv St) (S : Addr) (hSf : S ∉ fp) (ks : List Ent) (hN : N = ks.length) (hfew : ks.length ≤ 76) (hval : ∀ i v, Pv i v → ∃ p, ks[i]? = some p ∧ v = .ref p.1)
    (h0 : Heap) (hk : ∀ p ∈ ks, KAt h0 p.2.key p.1) (hS0 : h0.get? S = none) (hw0 : ∀ b ∈ wr, h0.get? b = none) (hu : A.in1.units + 8 < cLine) :
    ∀ (m i : Nat) (s : Shared), N - i = m → i ≤ N → St i s → (∀ b o, h0.get? b = some o → s.heap.get? b = some o) → (∃ L rows e tb, SN w s.heap S L rows e tb ∧ Has ks i L) →
      (∀ s2 L rows e tb, Moved (S :: wr) G s s2 → SN w s2.heap S L rows e tb → Has ks N L → (∀ b o, h0.get? b = some o → s2.heap.get? b = some o) → R (.ok (.ret .none)) s2) →
      codeAny (model P w) A (.builtin "set.update.loop" ⟨[.ref S, .ref I], []⟩) R s := by
  have hSw : S ∉ wr := fun h => hSf (W.sub _ h)
  have more : ∀ b ∈ wr, b ∈ S :: wr := fun b hb => List.mem_cons_of_mem _ hb
  have still : ∀ {s s2 : Shared}, Moved wr G s s2 → (∀ b o, h0.get? b = some o → s.heap.get? b = some o) → ∀ b o, h0.get? b = some o → s2.heap.get? b = some o := fun mv q b o z =>
    mv.heap b o (fun hb => by rw [hw0 b hb] at z; cases z) (q b o z)
  intro m
  induction m with
  | zero =>
    intro i s hm hi hst q0 ⟨L, rows, e, tb, hS, g⟩ hR
    have ei : i = N := by omega
    subst ei
    refine codeAny_builtin F.entry_set_update_loop ?_
    rw [Around.under_plainId F.plain_set_update_loop _]
    show wpAny _ A.in1 (pyNext (.ref I) >>= _) _ _ s
    refine wpAny_bind (W.done s _ _ hst fun s2 mv => ?_)
    show wpAny _ A.in1 (ret Value.none) _ _ s2
    have q2 := still mv q0
    exact wpAny_pure (hR s2 L rows e tb (mv.mono more) (hS.kept (fun o z => mv.heap S o hSw z) fun p hp => (hk p (List.mem_of_mem_take (g.sub p hp))).kept q2) g q2)
  | succ m ih =>
    intro i s hm hi hst q0 ⟨L, rows, e, tb, hS, g⟩ hR
    have hlt : i < N := by omega
    refine codeAny_builtin F.entry_set_update_loop ?_
    rw [Around.under_plainId F.plain_set_update_loop _]
    show wpAny _ A.in1 (pyNext (.ref I) >>= _) _ _ s
    refine wpAny_bind (W.item i s _ _ hlt hst fun v s2 hv hst2 mv => ?_)
    obtain ⟨p, hp, rfl⟩ := hval i v hv
    have q2 := still mv q0
    have hS2 := hS.kept (h2 := s2.heap) (fun o z => mv.heap S o hSw z) fun p hp => (hk p (List.mem_of_mem_take (g.sub p hp))).kept q2
    show wpAny _ A.in1 (holding [Value.ref p.1] (setAdd S (.ref p.1)) >>= _) _ _ s2
    refine wpAny_bind (wpAny_holding ?_)
    refine add_hash hS2 p ((hk p (List.mem_of_getElem? hp)).kept q2) hu (by have := g.len; omega) fun b h3 t3 L3 rows3 e3 tb3 sb R3 c1 c2 ht => ?_
    have g3 := g.step hp c1 c2
    have q3 : ∀ b o, h0.get? b = some o → h3.get? b = some o := fun b o z => (sb.2 b (fun y => by rw [y, hS0] at z; cases z)).trans (q2 b o z)
    refine wpAny_pure ⟨plainId_quiet F.plain_set_update_loop _, ih (i + 1) _ (by omega) hlt (W.frame _ s2 _ _ hst2 ht fun b hb o z => ?_) q3 ⟨L3, rows3, e3, tb3, R3, g3⟩ fun s4 L4 rows4 e4 tb4 mv4 R4 g4 q4 => ?_⟩
    · rw [sb.2 b (fun y : b = S => hSf (by rw [← y]; exact hb))]; exact z
    · refine hR s4 L4 rows4 e4 tb4 (Moved.trans W.gtrans ((mv.mono more).then_heap ht fun b o hb z => ?_) mv4) R4 g4 q4
      rw [sb.2 b (fun y : b = S => hb (by rw [y]; exact List.mem_cons_self))]; exact z
set_option maxRecDepth 100000 in
/-- set(xs) -/
theorem call_set_n {l : Addr} {items : Array Value} (ks : List Ent) {Q : Value → Shared → Prop} (hh : A.handled = none) (hl : s.heap.IsList l items) (hit : items.toList = ks.map fun p => Value.ref p.1)
    (hk : ∀ p ∈ ks, KAt s.heap p.2.key p.1) (hfew : ks.length ≤ 76) (hu : A.units + 12 < cLine)
    (h : ∀ (h2 : Heap) (tk : Nat) L rows e tb, SN w h2 s.heap.objs.size L rows e tb → Has ks ks.length L → (∀ b o, s.heap.get? b = some o → h2.get? b = some o) → Q (.ref s.heap.objs.size) { s with heap := h2, toks := tk }) :
    wpAny (model P w) A (call (.type "set") [.ref l]) Q E s := by
  have isz : items.size = ks.length := by rw [← Array.length_toList, hit, List.length_map]
  obtain ⟨c, tl, hmro⟩ := F.called_set.mro
  have hmade := F.called_set.made
  have hsub := F.called_set.sub
  refine wpAny_call (codeAny_of_tree ?_)
  show wpAny _ _ (callAny (.type "set") _) _ _ _
  refine wpAny_pure ⟨Code.quiet_builtin _ (by decide +kernel), codeAny_builtin F.entry_type_call ?_⟩
  rw [Around.under_plain (weight_type_call_type "set" [.ref l] []) rfl]
  have h1 := F.called_set.notType
  have h2 := F.called_set.canCreate
  have hct := F.typeCall_set_1 (.ref l)
  repeat (any_goals (first | assumption | wp_step))
  refine codeAny_mono (code_set_led1 (.ref l) (E := E) (Q₁ := fun obj s₁ => obj = .ref s.heap.objs.size ∧ s₁ = { s with heap := s.heap.push (emptySet w) }) ⟨rfl, rfl⟩) fun r s₁ hr => ?_
  cases r with
  | error _ => exact hr
  | ok fl =>
    cases fl with
    | ret obj =>
      obtain ⟨rfl, rfl⟩ := hr
      have hS : (s.heap.push (emptySet w)).get? s.heap.objs.size = some (emptySet w) := Heap.get?_push_size _ rfl
      have hT : Shared.TypeIs { s with heap := s.heap.push (emptySet w) } (.ref s.heap.objs.size) "set" := ⟨_, hS, rfl⟩
      have hli := F.called_set.init.lookup
      have hbi := F.called_set.init.bind (.ref s.heap.objs.size)
      repeat (any_goals (first | assumption | wp_step))
      refine codeAny_mono (codeAny_call_builtin (R := wants (fun r s₂ => r = .none ∧ ∃ h2 tk L rows e tb, s₂ = { s with heap := h2, toks := tk } ∧ SN w h2 s.heap.objs.size L rows e tb ∧ Has ks ks.length L ∧
          (∀ b o, s.heap.get? b = some o → h2.get? b = some o)) E) F.called_set.init.plain F.entry_set_init (check_set_init_1 hT ?_)) fun r₂ s₂ hr₂ => ?_
      · obtain ⟨ol, hol, hcl, nl, hdl⟩ := hl
        obtain ⟨ocls, odict, odata, oslots⟩ := ol
        simp only at hcl hdl
        subst hcl; subst hdl
        have hol2 : (s.heap.push (emptySet w)).get? l = some { cls := .type "list", dict := odict, data := .seq items nl, slots := oslots } := Heap.get?_push_of_some _ hol
        have hsls := F.sub_list_set
        have hslf := F.sub_list_frozenset
        have hne : (Value.type "list" == Value.type "dict") = false := by decide
        have hl1 : (s.heap.push (emptySet w)).IsList l items := ⟨_, hol2, rfl, nl, rfl⟩
        unfold Builtin.«set.__init__» noKeywords Builtin.Frozenset.updateFrom
        generalize hPI : pyIter = PI
        wp_walk
        subst hPI
        refine wpAny_pyIter_list hl1 ?_
        refine wpAny_bind (wpAny_runValue ?_)
        have hlS : l < s.heap.objs.size := Heap.lt_size hol
        have hh3 : A.in1.in1.in1.handled = none := by simp [hh]
        have hneI : l ≠ (s.heap.push (emptySet w)).objs.size := by
          rw [Heap.size_push]; exact Nat.ne_of_lt (Nat.lt_succ_of_lt hlS)
        have hSf : s.heap.objs.size ∉ [(s.heap.push (emptySet w)).objs.size, l] := by
          rw [Heap.size_push]; simp only [List.mem_cons, List.mem_singleton, List.not_mem_nil, or_false, not_or]
          exact ⟨Nat.ne_of_lt (Nat.lt_succ_self _), Nat.ne_of_gt hlS⟩
        have hval : ∀ (i : Nat) (v : Value), items[i]? = some v → ∃ p, ks[i]? = some p ∧ v = .ref p.1 := fun i v hv => by
          have q : items.toList[i]? = some v := by rw [Array.getElem?_toList]; exact hv
          rw [hit, List.getElem?_map] at q
          obtain ⟨p, hp, ep⟩ := Option.map_eq_some_iff.mp q
          exact ⟨p, hp, ep.symm⟩
        have gone : ∀ b, s.heap.objs.size ≤ b → s.heap.get? b = none := fun b hb => by
          cases q : s.heap.get? b with
          | none => rfl
          | some o => exact absurd (Nat.lt_of_lt_of_le (Heap.lt_size q) hb) (Nat.lt_irrefl _)
        refine upd_n ((Walks.list hh3 _ l hneI items).toS) s.heap.objs.size hSf ks isz hfew hval s.heap hk (gone _ (Nat.le_refl _)) (fun b hb => gone b (by
            rw [List.mem_singleton.mp hb, Heap.size_push]
            exact Nat.le_succ _)) (by simp only [Around.in1_units]; omega) (items.size - 0) 0 _ (by omega) (Nat.zero_le _)
          ⟨⟨_, Heap.get?_push_size _ rfl, rfl, rfl⟩, (hl1.push _)⟩ (fun b o z => Heap.get?_push_of_some _ (Heap.get?_push_of_some _ z)) ⟨[], #[], 0, _, SN.fresh (Heap.get?_push_of_some _ hS), Has.start ks⟩ ?_
        intro s4 L rows e tb mv R4 g4 q4
        obtain ⟨h4, g2, d2, tk2, os2⟩ := s4
        have eg : g2 = s.gens := mv.gens
        have ed : d2 = s.drawn := mv.drawn
        have eo : os2 = s.os := mv.os
        subst eg; subst ed; subst eo
        show wpAny _ _ _ _ _ _
        refine wpAny_pure ?_
        show wpAny _ _ (ret Value.none) _ _ _
        rw [isz] at g4
        exact wpAny_pure ⟨rfl, h4, tk2, L, rows, e, tb, rfl, R4, g4, q4⟩
      · cases r₂ with
        | error _ => exact hr₂
        | ok fl₂ =>
          cases fl₂ with
          | ret r =>
            obtain ⟨rfl, h4, tk, L, rows, e, tb, rfl, hS4, g4, q4⟩ := hr₂
            repeat (any_goals (first | assumption | wp_step))
            exact h _ _ _ _ _ _ hS4 g4 q4
          | _ => exact hr₂.elim
    | _ => exact hr.elim
end
end U

set_option Elab.async false
set_option linter.all false
set_option maxRecDepth 100000
set_option maxHeartbeats 1000000
/-! T4: the order of nested tuples; sorted(list), sorted(set(list)) at the model's level. -/
namespace U
open PySem PySem.Spec PyProof.Rows L2
open PySem.W (dataLt alike keyToks toks_eqv lex_pre)

/-! ### the plain order -/
mutual
theorem ky_eqv : ∀ (x y : D) (m n : Nat), kyD m x = true → kyD n y = true → PyData.eqv x.pd y.pd = true → x = y
  | .int i, y, m, n, _, h2, e => by
    cases y with
    | int j => simp only [D.pd, PyData.eqv, beq_iff_eq, decide_eq_true_eq] at e; rw [e]
    | str _ => simp [D.pd, PyData.eqv] at e
    | tup _ => simp [D.pd, PyData.eqv] at e
    | _ => cases n <;> simp [kyD] at h2
  | .str i, y, m, n, _, h2, e => by
    cases y with
    | str j => simp only [D.pd, PyData.eqv, beq_iff_eq, decide_eq_true_eq] at e; rw [e]
    | int _ => simp [D.pd, PyData.eqv] at e
    | tup _ => simp [D.pd, PyData.eqv] at e
    | _ => cases n <;> simp [kyD] at h2
  | .tup ds, y, m, n, h1, h2, e => by
    cases m with
    | zero => simp [kyD] at h1
    | succ m =>
      cases y with
      | tup es =>
        cases n with
        | zero => simp [kyD] at h2
        | succ n =>
          simp only [kyD] at h1 h2
          rw [kys_eqv ds es m n h1 h2 (by simpa only [D.pd, PyData.eqv] using e)]
      | int _ => simp [D.pd, PyData.eqv] at e
      | str _ => simp [D.pd, PyData.eqv] at e
      | _ => cases n <;> simp [kyD] at h2
  | .non, _, m, _, h1, _, _ | .bl _, _, m, _, h1, _, _ | .lst _, _, m, _, h1, _, _ | .loc _, _, m, _, h1, _, _ | .ty _, _, m, _, h1, _, _ => by cases m <;> simp [kyD] at h1
theorem kys_eqv : ∀ (xs ys : List D) (m n : Nat), xs.all (kyD m) = true → ys.all (kyD n) = true → PyData.eqvAll (D.pds xs) (D.pds ys) = true → xs = ys
  | [], [], _, _, _, _, _ => rfl
  | [], _ :: _, _, _, _, _, e => by simp [D.pds, PyData.eqvAll] at e
  | _ :: _, [], _, _, _, _, e => by simp [D.pds, PyData.eqvAll] at e
  | x :: xs, y :: ys, m, n, h1, h2, e => by
    rw [List.all_cons, Bool.and_eq_true] at h1 h2
    simp only [D.pds, PyData.eqvAll, Bool.and_eq_true] at e
    rw [ky_eqv x y m n h1.1 h2.1 e.1, kys_eqv xs ys m n h1.2 h2.2 e.2]
end
def ltD (x y : D) : Bool := dataLt x.pd y.pd
def leD (x y : D) : Bool := !ltD y x
theorem ltD_irrefl (x : D) : ltD x x = false := lex_irrefl _
theorem ltD_trans {x y z : D} (h1 : ltD x y = true) (h2 : ltD y z = true) : ltD x z = true := lex_trans _ _ _ h1 h2
theorem leD_trans (x y z : D) (h1 : leD x y = true) (h2 : leD y z = true) : leD x z = true := by
  unfold leD at *
  rw [Bool.not_eq_true'] at *
  cases h : ltD z x with
  | false => rfl
  | true => rcases lex_negTrans _ (keyToks y.pd) _ h with q | q
            all_goals first | (rw [show ltD z y = true from q] at h2; cases h2) | (rw [show ltD y x = true from q] at h1; cases h1)
theorem leD_total (x y : D) : (leD x y || leD y x) = true := by
  unfold leD
  cases h : ltD y x with
  | false => simp
  | true =>
    cases h2 : ltD x y with
    | false => simp
    | true => have := ltD_trans h h2; rw [ltD_irrefl] at this; cases this
theorem ltD_eq {x y : D} (k1 : kyD 8 x = true) (k2 : kyD 8 y = true) (al : alike x.pd y.pd = true) (h1 : ltD x y = false) (h2 : ltD y x = false) : x = y := by
  have e : keyToks x.pd = keyToks y.pd := lex_total _ _ h1 h2
  cases q : PyData.eqv x.pd y.pd with
  | true => exact ky_eqv x y 8 8 k1 k2 q
  | false =>
    have z := (toks_eqv _ _ al).2 q [.inl 0] [.inl 1]
    rw [e, lex_pre, lex_irrefl] at z
    exact absurd z (by decide)
def srt (ds : List D) : List D := ds.mergeSort leD
/-- each key once -/
def dst : List D → List D
  | [] => []
  | d :: ds => if d.key ∈ ds.map D.key then dst ds else d :: dst ds
def srtU (ds : List D) : List D := srt (dst ds)
theorem dst_sub : ∀ {ds : List D} {x : D}, x ∈ dst ds → x ∈ ds
  | d :: ds, x, h => by
    unfold dst at h
    split at h
    · exact List.mem_cons_of_mem _ (dst_sub h)
    · rcases List.mem_cons.mp h with e | h
      · rw [e]; exact List.mem_cons_self
      · exact List.mem_cons_of_mem _ (dst_sub h)
theorem dst_all : ∀ {ds : List D} {k : NestedKey}, k ∈ ds.map D.key → k ∈ (dst ds).map D.key
  | d :: ds, k, h => by
    unfold dst
    split
    · rename_i c
      rcases List.mem_cons.mp h with e | h
      · rw [e]; exact dst_all c
      · exact dst_all h
    · rcases List.mem_cons.mp h with e | h
      · rw [e]; exact List.mem_cons_self
      · exact List.mem_cons_of_mem _ (dst_all h)
theorem dst_nd : ∀ ds : List D, ((dst ds).map D.key).Nodup
  | [] => List.nodup_nil
  | d :: ds => by
    unfold dst
    split
    · exact dst_nd ds
    · rename_i c
      refine List.nodup_cons.mpr ⟨fun h => c ?_, dst_nd ds⟩
      obtain ⟨x, hx, e⟩ := List.mem_map.mp h
      exact List.mem_map.mpr ⟨x, dst_sub hx, e⟩
theorem dst_len (ds : List D) : (dst ds).length ≤ ds.length := by
  induction ds with
  | nil => exact Nat.le_refl _
  | cons d ds ih =>
    unfold dst
    split
    · simp only [List.length_cons]; omega
    · simp only [List.length_cons]; omega
def alikeB (ds : List D) : Bool := ds.all fun x => ds.all fun y => alike x.pd y.pd
def neT : D → Bool
  | .tup (_ :: _) => true
  | _ => false
def okSrt (ds : List D) : Bool := ds.all (kyD 8) && alikeB ds && (decide (ds.length ≤ 1) || ds.all neT)
structure SrtOk (ds : List D) : Prop where
  ky : ∀ x ∈ ds, kyD 8 x = true
  al : ∀ x ∈ ds, ∀ y ∈ ds, alike x.pd y.pd = true
  ne : ds.length ≤ 1 ∨ ∀ x ∈ ds, ∃ y r, x = .tup (y :: r)
theorem srtOk_of {ds : List D} (h : okSrt ds = true) : SrtOk ds := by
  unfold okSrt alikeB at h
  simp only [Bool.and_eq_true, Bool.or_eq_true, List.all_eq_true, decide_eq_true_eq] at h
  refine ⟨h.1.1, h.1.2, h.2.imp id fun q x hx => ?_⟩
  have := q x hx
  unfold neT at this
  split at this
  · exact ⟨_, _, rfl⟩
  · cases this
theorem SrtOk.sub {ds es : List D} (h : SrtOk ds) (s : ∀ x ∈ es, x ∈ ds) (l : es.length ≤ ds.length) : SrtOk es := ⟨fun x hx => h.ky x (s x hx), fun x hx y hy => h.al x (s x hx) y (s y hy), h.ne.imp (fun q => Nat.le_trans l q) fun q x hx => q x (s x hx)⟩
theorem srt_sorted (ds : List D) : (srt ds).Pairwise fun x y => leD x y = true := List.pairwise_mergeSort leD_trans leD_total ds
theorem srt_perm (ds : List D) : (srt ds).Perm ds := List.mergeSort_perm ds leD
theorem srt_one {ds es : List D} (ok : SrtOk ds) (p : es.Perm ds) (pw : es.Pairwise fun x y => leD x y = true) : es = srt ds := by
  refine List.Perm.eq_of_pairwise (le := fun x y => leD x y = true) (fun a b ha hb h1 h2 => ?_) pw (srt_sorted ds) (p.trans (srt_perm ds).symm)
  have ha := p.mem_iff.mp ha
  have hb := (srt_perm ds).mem_iff.mp hb
  unfold leD at h1 h2
  exact ltD_eq (ok.ky a ha) (ok.ky b hb) (ok.al a ha b hb) (by simpa using h2) (by simpa using h1)
theorem dst_perm {ds es : List D} (ok : ∀ x ∈ ds, kyD 8 x = true) (nd : (es.map D.key).Nodup) (sub : ∀ x ∈ es, x ∈ ds) (all : ∀ x ∈ ds, x.key ∈ es.map D.key) : es.Perm (dst ds) := by
  have n1 : es.Nodup := nodup_of_map nd
  have n2 : (dst ds).Nodup := nodup_of_map (dst_nd ds)
  refine (List.perm_ext_iff_of_nodup n1 n2).mpr fun x => ⟨fun hx => ?_, fun hx => ?_⟩
  · obtain ⟨y, hy, e⟩ := List.mem_map.mp (dst_all (List.mem_map.mpr ⟨x, sub x hx, rfl⟩))
    rw [← key_inj y x 8 8 (ok y (dst_sub hy)) (ok x (sub x hx)) e]; exact hy
  · obtain ⟨y, hy, e⟩ := List.mem_map.mp (all x (dst_sub hx))
    rw [← key_inj y x 8 8 (ok y (sub y hy)) (ok x (dst_sub hx)) e]; exact hy
theorem srtU_one {ds es : List D} (ok : SrtOk ds) (nd : (es.map D.key).Nodup) (sub : ∀ x ∈ es, x ∈ ds) (all : ∀ x ∈ ds, x.key ∈ es.map D.key) (pw : es.Pairwise fun x y => leD x y = true) : es = srtU ds := by
  have p := dst_perm ok.ky nd sub all
  exact srt_one (ok.sub (fun x hx => dst_sub hx) (dst_len ds)) p pw

/-! ### reading -/
mutual
theorem reads_key {h : Heap} : ∀ (d : D) (n : Nat) (v : Value) (as : List Addr), kyD n d = true → Reads h v d.pd as → NestedIs h d.key v
  | .int i, _, _, _, _, r => by cases r; exact .int _ _
  | .str i, _, _, _, _, r => by cases r; exact .text _ _
  | .tup ds, 0, _, _, q, _ => by simp [kyD] at q
  | .tup ds, n + 1, _, _, q, r => by
    simp only [D.pd] at r
    cases r with
    | tuple h1 h2 h3 h4 => exact .tup h1 h2 h3 (reads_keys ds n _ _ (by simpa only [kyD] using q) h4)
  | .non, n, _, _, h, _ | .bl _, n, _, _, h, _ | .lst _, n, _, _, h, _ | .loc _, n, _, _, h, _ | .ty _, n, _, _, h, _ => by cases n <;> simp [kyD] at h
theorem reads_keys {h : Heap} : ∀ (ds : List D) (n : Nat) (vs : List Value) (as : List Addr), ds.all (kyD n) = true → ReadsAll h vs (D.pds ds) as → NestedAll h (D.keys ds) vs
  | [], _, _, _, _, r => by simp only [D.pds] at r; cases r; exact .nil
  | d :: ds, n, _, _, q, r => by
    rw [List.all_cons, Bool.and_eq_true] at q
    simp only [D.pds] at r
    cases r with
    | cons r1 r2 => exact .cons (reads_key d n _ _ q.1 r1) (reads_keys ds n _ _ q.2 r2)
end
mutual
theorem ky_pdepth : ∀ (d : D) (n : Nat), kyD n d = true → d.pd.depth ≤ n
  | .int _, _, _ => by simp [D.pd, PyData.depth]
  | .str _, _, _ => by simp [D.pd, PyData.depth]
  | .tup ds, 0, h => by simp [kyD] at h
  | .tup ds, n + 1, h => by
    have := kys_pdepth ds n (by simpa only [kyD] using h)
    simp only [D.pd, PyData.depth]; omega
  | .non, n, h | .bl _, n, h | .lst _, n, h | .loc _, n, h | .ty _, n, h => by cases n <;> simp [kyD] at h
theorem kys_pdepth : ∀ (ds : List D) (n : Nat), ds.all (kyD n) = true → PyData.depthAll (D.pds ds) ≤ n
  | [], _, _ => by simp [D.pds, PyData.depthAll]
  | d :: ds, n, h => by
    rw [List.all_cons, Bool.and_eq_true] at h
    have h1 := ky_pdepth d n h.1
    have h2 := kys_pdepth ds n h.2
    simp only [D.pds, PyData.depthAll]; omega
end
mutual
theorem reads_nil {h : Heap} : ∀ (d : D) (n : Nat) (v : Value) (as : List Addr), kyD n d = true → Reads h v d.pd as → as = []
  | .int i, _, _, _, _, r => by cases r; rfl
  | .str i, _, _, _, _, r => by cases r; rfl
  | .tup ds, 0, _, _, q, _ => by simp [kyD] at q
  | .tup ds, n + 1, _, _, q, r => by
    simp only [D.pd] at r
    cases r with
    | tuple h1 h2 h3 h4 => exact reads_nils ds n _ _ (by simpa only [kyD] using q) h4
  | .non, n, _, _, h, _ | .bl _, n, _, _, h, _ | .lst _, n, _, _, h, _ | .loc _, n, _, _, h, _ | .ty _, n, _, _, h, _ => by cases n <;> simp [kyD] at h
theorem reads_nils {h : Heap} : ∀ (ds : List D) (n : Nat) (vs : List Value) (as : List Addr), ds.all (kyD n) = true → ReadsAll h vs (D.pds ds) as → as = []
  | [], _, _, _, _, r => by simp only [D.pds] at r; cases r; rfl
  | d :: ds, n, _, _, q, r => by
    rw [List.all_cons, Bool.and_eq_true] at q
    simp only [D.pds] at r
    cases r with
    | cons r1 r2 => rw [reads_nil d n _ _ q.1 r1, reads_nils ds n _ _ q.2 r2]; rfl
end

section
variable {P : Program} {w : World} {A : Around} {E : Value → Shared → Prop} {s : Shared}
theorem each_of {α : Type} (f : α → Value) : ∀ l : List α, PySem.W.EachIs (fun v p => v = f p) (l.map f) l
  | [] => .nil
  | x :: l => .cons rfl (each_of f l)
theorem each_to {α : Type} {f : α → Value} : ∀ {l : List α} {vs : List Value}, PySem.W.EachIs (fun v p => v = f p) vs l → vs = l.map f
  | _, _, .nil => rfl
  | _, _, .cons e t => by rw [List.map_cons, e, each_to t]
theorem swo_no : SrtO.Swo (fun (_ _ : Value) => false) := ⟨fun _ _ _ => rfl, fun _ _ _ _ _ => rfl⟩
/-- list.sort of a list of such tuples: what stands there then -/
theorem lsort_n {a : Addr} {vs : List Value} {n : Nat} {B : List Ent} {R : Value → Shared → Prop} (ho : s.heap.get? a = some (seqObj "list" vs.toArray n)) (hv : vs = B.map fun p => Value.ref p.1)
    (rd : ∀ p ∈ B, ∃ as, Reads s.heap (.ref p.1) p.2.pd as) (ok : SrtOk (B.map (·.2))) (hz : B.length ≤ sizeLine) (hu : A.units + 12 < cLine)
    (h : ∀ B2 : List Ent, B2.Perm B → (B2.map (·.2)).Pairwise (fun x y => leD x y = true) → R .none { s with heap := sortedHeap s.heap a vs (B2.map fun p => Value.ref p.1).toArray }) :
    wpAny (model P w) A (call (.builtin "list.sort") [.ref a]) R E s := by
  have ky : ∀ p ∈ B, kyD 8 p.2 = true := fun p hp => ok.ky _ (List.mem_map.mpr ⟨p, hp, rfl⟩)
  rcases ok.ne with one | ne
  · rw [List.length_map] at one
    refine wpAny_call_entry PyProof.Rows.slot_list_sort ⟨_, ho, rfl⟩ PyProof.Rows.entry_list_sort (SrtO.list_sort_ord swo_no ho (by rw [hv, List.length_map]; exact hz) (fun h2 => by rw [hv, List.length_map] at h2; omega) fun out _ st => ⟨.none, rfl, ?_⟩) (PyProof.Rows.args_list_sort _)
    have e : out = vs := by
      have pm := st.perm
      match B, hv, one with
      | [], hv, _ => subst hv; exact pm.eq_nil
      | [b], hv, _ => subst hv; exact List.perm_singleton.mp pm
      | _ :: _ :: _, _, one => simp at one
    rw [e]
    refine (show R .none { s with heap := sortedHeap s.heap a vs vs.toArray } from ?_)
    have q := h B (List.Perm.refl _) ?_
    · rw [← hv] at q; exact q
    · match B, one with
      | [], _ => exact List.Pairwise.nil
      | [b], _ => exact List.pairwise_singleton _ _
      | _ :: _ :: _, one => simp at one
  · refine PySem.W.list_sort_data (R := fun v (p : Ent) => v = Value.ref p.1) (bs := B) (enc := fun p : Ent => p.2.pd) ho (by rw [hv]; exact each_of _ B) ?_ ?_ ?_ hz (fun b hb => ?_) fun out _ eo => ?_
    · rw [hv]
      have go : ∀ l : List Ent, (∀ p ∈ l, p ∈ B) → PySem.W.EachIs (fun v (p : Ent) => ∃ as, Reads s.heap v p.2.pd as ∧ a ∉ as) (l.map fun p => Value.ref p.1) l := by
        intro l
        induction l with
        | nil => intro _; exact .nil
        | cons p l ih =>
          intro hs
          obtain ⟨as, r⟩ := rd p (hs p List.mem_cons_self)
          refine .cons ⟨as, r, ?_⟩ (ih fun q hq => hs q (List.mem_cons_of_mem _ hq))
          rw [reads_nil p.2 8 _ _ (ky p (hs p List.mem_cons_self)) r]
          exact List.not_mem_nil
      exact go B fun p hp => hp
    · intro d hd d2 hd2
      obtain ⟨p, hp, rfl⟩ := List.mem_map.mp hd
      obtain ⟨q, hq, rfl⟩ := List.mem_map.mp hd2
      exact ok.al _ (List.mem_map.mpr ⟨p, hp, rfl⟩) _ (List.mem_map.mpr ⟨q, hq, rfl⟩)
    · refine .inl fun d hd => ?_
      obtain ⟨p, hp, rfl⟩ := List.mem_map.mp hd
      obtain ⟨y, r, e⟩ := ne _ (List.mem_map.mpr ⟨p, hp, rfl⟩)
      exact ⟨y.pd, D.pds r, by show p.2.pd = _; rw [e]; rfl⟩
    · have := ky_pdepth b.2 8 (ky b hb)
      show A.units + 1 + b.2.pd.depth < cLine
      omega
    · rw [each_to eo]
      refine h _ (List.mergeSort_perm _ _) ?_
      rw [List.pairwise_map]
      have e : PySem.W.dataLe false (fun p : Ent => p.2.pd) = fun x y : Ent => leD x.2 y.2 := by
        rw [PySem.W.dataLe_eq]; rfl
      rw [e]
      exact List.pairwise_mergeSort (fun x y z => leD_trans x.2 y.2 z.2) (fun x y => leD_total x.2 y.2) B
/-- sorted(set) -/
theorem sortset_n {S : Addr} {L : List Ent} {rows : Array (Int × Value)} {e : Nat} {tb : SetTable} {Q : Value → Shared → Prop} (R : SN w s.heap S L rows e tb) (hh : A.handled = none) (hu : A.units + 20 < cLine)
    (ok : SrtOk (L.map (·.2))) (rd : ∀ p ∈ L, ∃ as, Reads s.heap (.ref p.1) p.2.pd as)
    (hQ : ∀ s2 p c (B : List Ent), (∀ b o, s.heap.get? b = some o → s2.heap.get? b = some o) → s2.gens = s.gens → s2.os = s.os → s.heap.objs.size ≤ p → s2.heap.get? p = some (seqObj "list" (B.map fun q => Value.ref q.1).toArray c) → B.Perm L →
      (B.map (·.2)).Pairwise (fun x y => leD x y = true) → Q (.ref p) s2) :
    wpAny (model P w) A (call (.builtin "sorted") [.ref S]) Q E s := by
  obtain ⟨u, hu1, hu2, hu3⟩ := R.obj
  have len := R.len
  have few := R.few
  refine Calls.call_function_entry PyProof.Rows.kind_sorted PyProof.Rows.plain_sorted PyProof.Rows.entry_sorted (PyProof.Rows.args_sorted1 _) ?_
  unfold Builtin.«sorted»
  refine wpAny_bind (m := checkCount "sorted" 1 1 _) (wpAny_pure ?_)
  refine wpAny_bind (collect_set (A := A.in1) hh ⟨u, hu1, hu2.1, hu3⟩ R.fits (by unfold scanBound; omega) R.tab.ris R.led fun s1 vs k1 hz g1 o1 pm => ?_)
  have er : rows.toList.map (·.2) = L.map fun q => Value.ref q.1 := by
    rw [R.row]
    unfold erow
    rw [List.map_map] <;> rfl
  rw [er] at pm
  -- the entries in the order met
  have nref : (L.map fun q => Value.ref q.1).Nodup := by
    refine List.pairwise_map.mpr (List.Pairwise.imp_of_mem (fun {q r} hq hr hne e => ?_) (nodup_of_map R.dis))
    injection e with e
    have a1 := (R.at_ q hq).1
    have a2 := (R.at_ r hr).1
    rw [e] at a1
    have ek : q.2.key = r.2.key := NestedIs.inj _ _ _ a1 a2
    have := key_inj q.2 r.2 8 8 (ok.ky _ (List.mem_map.mpr ⟨q, hq, rfl⟩)) (ok.ky _ (List.mem_map.mpr ⟨r, hr, rfl⟩)) ek
    exact hne (Prod.ext e this)
  have ord : ∀ us : List Value, (∀ v ∈ us, v ∈ L.map fun q => Value.ref q.1) → ∃ L1 : List Ent, us = L1.map (fun q => Value.ref q.1) ∧ ∀ q ∈ L1, q ∈ L := by
    intro us
    induction us with
    | nil => intro _; exact ⟨[], rfl, fun q hq => (nomatch hq)⟩
    | cons v us ih =>
      intro hv
      obtain ⟨q, hq, ew⟩ := List.mem_map.mp (hv v List.mem_cons_self)
      obtain ⟨L1, e1, h1⟩ := ih fun z hz => hv z (List.mem_cons_of_mem _ hz)
      refine ⟨q :: L1, by rw [List.map_cons, ew, e1], fun r hr => ?_⟩
      rcases List.mem_cons.mp hr with z | z
      · rw [z]; exact hq
      · exact h1 r z
  obtain ⟨L1, e1, sub1⟩ := ord vs fun v hv => pm.mem_iff.mp hv
  have pL : L1.Perm L := by
    have n1 : L1.Nodup := nodup_of_map (f := fun q : Ent => Value.ref q.1) (by rw [← e1]; exact pm.nodup_iff.mpr nref)
    refine (List.perm_ext_iff_of_nodup n1 (nodup_of_map R.dis)).mpr fun q => ⟨sub1 q, fun hq => ?_⟩
    have hm : Value.ref q.1 ∈ L1.map (fun q => Value.ref q.1) := by rw [← e1]; exact pm.mem_iff.mpr (List.mem_map.mpr ⟨q, hq, rfl⟩)
    obtain ⟨r, hr, ew⟩ := List.mem_map.mp hm
    injection ew with ew
    have a1 := (R.at_ q hq).1
    have a2 := (R.at_ r (sub1 r hr)).1
    rw [ew] at a2
    have ek : r.2.key = q.2.key := NestedIs.inj _ _ _ a2 a1
    have e2 := key_inj r.2 q.2 8 8 (ok.ky _ (List.mem_map.mpr ⟨r, sub1 r hr, rfl⟩)) (ok.ky _ (List.mem_map.mpr ⟨q, hq, rfl⟩)) ek
    have : r = q := Prod.ext ew e2
    rw [← this]; exact hr
  have hl1 : L1.length = L.length := pL.length_eq
  have hvl : vs.length = L.length := by rw [e1, List.length_map, hl1]
  refine wpAny_bind (wpAny_newList ?_ (by rw [sizeLine_eq]; omega))
  have hoL : (s1.heap.push (seqObj "list" vs.toArray 0)).get? s1.heap.objs.size = some (seqObj "list" vs.toArray 0) := Heap.get?_push_size _ rfl
  refine wpAny_bind (wpAny_holding (lsort_n (s := { s1 with heap := s1.heap.push (seqObj "list" vs.toArray 0) }) hoL e1 (fun p hp => ?_) (ok.sub (fun x hx => ?_) (by rw [List.length_map, List.length_map]; omega)) (by rw [sizeLine_eq]; omega) (by show A.in1.units + 12 < cLine; rw [Around.in1_units]; omega) fun B2 p2 pw => ?_))
  · obtain ⟨as, r⟩ := rd p (sub1 p hp)
    exact ⟨as, PyProof.Rows.Reads.keeps (fun b o z => Heap.get?_push_of_some _ (k1 b o z)) r⟩
  · obtain ⟨q, hq, eq⟩ := List.mem_map.mp hx
    exact List.mem_map.mpr ⟨q, sub1 q hq, eq⟩
  · obtain ⟨c, hc⟩ := PyProof.Rows.sortedHeap_at (vs := vs) (out := (B2.map fun q => Value.ref q.1).toArray) hoL
    refine wpAny_pure ⟨_, rfl, hQ _ s1.heap.objs.size c B2 (fun b o z => ?_) g1 o1 hz hc (p2.trans pL) pw⟩
    have q := k1 b o z
    have hlt := Heap.lt_size q
    show (sortedHeap (s1.heap.push (seqObj "list" vs.toArray 0)) s1.heap.objs.size vs _).get? b = some o
    rw [PyProof.Rows.sortedHeap_old (Nat.ne_of_lt hlt) (by rw [PyProof.Rows.size_push']; exact Nat.lt_succ_of_lt hlt)]
    exact Heap.get?_push_of_some _ q
end
end U

set_option Elab.async false
set_option linter.all false
set_option maxRecDepth 100000
set_option maxHeartbeats 1000000
/-! T5: sorted(e), sorted(set(e)) by data; defs that return a new list. -/
namespace U
open PySem PySem.Spec PyProof.Rows L2

/-! ### reading what is known -/
section
variable {K : PySem.W.Frag} {hid : List Addr} {H : Hp} {M : Mu}
mutual
theorem ky_dp : ∀ (d : D) (n : Nat) (v : V), kyD n d = true → Rv K hid H M v d → Dp K H v d.pd
  | .int i, _, _, _, h => by cases h; exact .int i
  | .str x, _, _, _, h => by cases h; exact .str x
  | .tup ds, 0, _, q, h => by simp [kyD] at q
  | .tup ds, n + 1, _, q, h => by
    cases h with
    | tup h r => exact .tup h (kys_dp ds n _ (by simpa only [kyD] using q) r)
  | .non, n, _, q, _ | .bl _, n, _, q, _ | .lst _, n, _, q, _ | .loc _, n, _, q, _ | .ty _, n, _, q, _ => by cases n <;> simp [kyD] at q
theorem kys_dp : ∀ (ds : List D) (n : Nat) (vs : List V), ds.all (kyD n) = true → Rvs K hid H M vs ds → DpAll K H vs (D.pds ds)
  | [], _, _, _, h => by cases h; exact .nil
  | d :: ds, n, _, q, h => by
    cases h with
    | cons h r =>
      rw [List.all_cons, Bool.and_eq_true] at q
      exact .cons (ky_dp d n _ q.1 h) (kys_dp ds n _ q.2 r)
end
def isTup : D → Bool
  | .tup _ => true
  | _ => false
theorem ents_of : ∀ {es : List D} {xs : List V}, Rvs K hid H M xs es → es.all isTup = true → ∃ B : List Ent, xs = B.map (fun p => V.ref p.1) ∧ es = B.map (·.2) ∧ ∀ p ∈ B, Rv K hid H M (.ref p.1) p.2
  | _, _, .nil, _ => ⟨[], rfl, rfl, fun p hp => (nomatch hp)⟩
  | _, _, .cons (d := d) h r, q => by
    rw [List.all_cons, Bool.and_eq_true] at q
    obtain ⟨B, e1, e2, hB⟩ := ents_of r q.2
    cases d with
    | tup ds =>
      cases h with
      | @tup a xs _ h1 h2 =>
        refine ⟨(a, .tup ds) :: B, by rw [e1]; rfl, by rw [e2]; rfl, fun p hp => ?_⟩
        rcases List.mem_cons.mp hp with z | z
        · rw [z]; exact .tup h1 h2
        · exact hB p z
    | _ => simp [isTup] at q
theorem rvs_ents : ∀ {B : List Ent}, (∀ p ∈ B, Rv K hid H M (.ref p.1) p.2) → Rvs K hid H M (B.map fun p => V.ref p.1) (B.map (·.2))
  | [], _ => .nil
  | p :: B, h => .cons (h p List.mem_cons_self) (rvs_ents fun q hq => h q (List.mem_cons_of_mem _ hq))
theorem vals_ents : ∀ (B : List Ent), Vals (B.map fun p => V.ref p.1) (B.map fun p => Value.ref p.1)
  | [] => .nil
  | p :: B => .cons rfl (vals_ents B)
theorem vals_ents_eq : ∀ {B : List Ent} {us : List Value}, Vals (B.map fun p => V.ref p.1) us → us = B.map fun p => Value.ref p.1
  | [], _, .nil => rfl
  | p :: B, _, .cons r t => by
    cases r
    rw [vals_ents_eq t] <;> rfl
end

/-! ### the model's calls -/
section
variable {P : Program} {w : World} {A : Around} {E : Value → Shared → Prop} {s : Shared}
/-- sorted(list) -/
theorem sortlist_n {l : Addr} {B : List Ent} {Q : Value → Shared → Prop} (hl : s.heap.IsList l (B.map fun p => Value.ref p.1).toArray) (hz : B.length ≤ sizeLine) (hu : A.units + 20 < cLine)
    (ok : SrtOk (B.map (·.2))) (rd : ∀ p ∈ B, ∃ as, Reads s.heap (.ref p.1) p.2.pd as)
    (h : ∀ B2 : List Ent, B2.Perm B → (B2.map (·.2)).Pairwise (fun x y => leD x y = true) → Q (.ref (s.heap.objs.size + 1)) { s with heap := sortedAll s.heap (B.map fun p => Value.ref p.1) (B2.map fun p => Value.ref p.1).toArray }) :
    wpAny (model P w) A (call (.builtin "sorted") [.ref l]) Q E s := by
  have ky : ∀ p ∈ B, kyD 8 p.2 = true := fun p hp => ok.ky _ (List.mem_map.mpr ⟨p, hp, rfl⟩)
  rcases ok.ne with one | ne
  · rw [List.length_map] at one
    refine SrtO.sorted_ord swo_no hl (by rw [List.length_map]; exact hz) (fun h2 => by rw [List.length_map] at h2; omega) fun out _ st => ?_
    have e : out = B.map fun p => Value.ref p.1 := by
      have pm := st.perm
      match B, one with
      | [], _ => exact pm.eq_nil
      | [b], _ => exact List.perm_singleton.mp pm
      | _ :: _ :: _, one => simp at one
    rw [e]
    refine h B (List.Perm.refl _) ?_
    match B, one with
    | [], _ => exact List.Pairwise.nil
    | [b], _ => exact List.pairwise_singleton _ _
    | _ :: _ :: _, one => simp at one
  · refine PySem.W.sorted_data (R := fun v (p : Ent) => v = Value.ref p.1) (bs := B) (enc := fun p : Ent => p.2.pd) hl (each_of _ B) ?_ ?_ ?_ hz (fun b hb => ?_) fun out _ eo => ?_
    · have go : ∀ l : List Ent, (∀ p ∈ l, p ∈ B) → PySem.W.EachIs (fun v (p : Ent) => ∃ as, Reads s.heap v p.2.pd as) (l.map fun p => Value.ref p.1) l := by
        intro l
        induction l with
        | nil => intro _; exact .nil
        | cons p l ih => intro hs; exact .cons (rd p (hs p List.mem_cons_self)) (ih fun q hq => hs q (List.mem_cons_of_mem _ hq))
      exact go B fun p hp => hp
    · intro d hd d2 hd2
      obtain ⟨p, hp, rfl⟩ := List.mem_map.mp hd
      obtain ⟨q, hq, rfl⟩ := List.mem_map.mp hd2
      exact ok.al _ (List.mem_map.mpr ⟨p, hp, rfl⟩) _ (List.mem_map.mpr ⟨q, hq, rfl⟩)
    · refine .inl fun d hd => ?_
      obtain ⟨p, hp, rfl⟩ := List.mem_map.mp hd
      obtain ⟨y, r, e⟩ := ne _ (List.mem_map.mpr ⟨p, hp, rfl⟩)
      exact ⟨y.pd, D.pds r, by show p.2.pd = _; rw [e]; rfl⟩
    · have := ky_pdepth b.2 8 (ky b hb)
      show A.units + 2 + b.2.pd.depth < cLine
      omega
    · rw [each_to eo]
      refine h _ (List.mergeSort_perm _ _) ?_
      rw [List.pairwise_map]
      have e : PySem.W.dataLe false (fun p : Ent => p.2.pd) = fun x y : Ent => leD x.2 y.2 := by
        rw [PySem.W.dataLe_eq]; rfl
      rw [e]
      exact List.pairwise_mergeSort (fun x y z => leD_trans x.2 y.2 z.2) (fun x y => leD_total x.2 y.2) B
end

/-! ### at a place of a def -/
section
variable {X : Cx} {k : Nat}
/-- what sorted asks of its list -/
structure SrtAt (K : PySem.W.Frag) (H : Hp) (a : Addr) (B : List Ent) : Prop where
  sq : SqL K H a (B.map fun p => V.ref p.1)
  dp : ∀ p ∈ B, Dp K H (.ref p.1) p.2.pd
  ok : SrtOk (B.map (·.2))
def rSrt (K : PySem.W.Frag) : List V → Hp → VK → Prop := fun vs H Q => ∃ (a : Addr) (B : List Ent), vs = [V.ref a] ∧ SrtAt K H a B ∧
  ∀ (B2 : List Ent) (p : Addr), B2.Perm B → (B2.map (·.2)).Pairwise (fun x y => leD x y = true) → H p = none → Q (.ref p) (upd H p (.lst (B2.map fun q => V.ref q.1)))
theorem cr_srt (hr : Room k X.A) : CallR X (.builtin "sorted") (rSrt X.K) := by
  intro pins s σ H vs us Q I r h
  obtain ⟨a, B, rfl, ⟨sq, dp, ok⟩, q⟩ := h
  obtain ⟨its, rv, hl, hz⟩ := I.list sq
  rw [Vals.ref1 r]
  have ei := vals_ents_eq rv
  subst ei
  rw [List.length_map] at hz
  refine sortlist_n hl.isList hz (by have := hr.un; omega) ok (fun p hp => Dp.reads I _ _ _ (dp p hp) rfl) fun B2 p2 pw => ?_
  obtain ⟨ep, at_⟩ := PyProof.Rows.sortedAll_at s.heap (B.map fun p => Value.ref p.1) (B2.map fun p => Value.ref p.1).toArray
  refine ⟨.ref _, upd H (s.heap.objs.size + 1) (.lst (B2.map fun q => V.ref q.1)), I.laid (t' := s.toks) (fun _ _ => PyProof.Rows.sortedAll_old) (Nat.le_succ _) ⟨?_, _, ep, vals_ents B2, at_⟩, rfl, q B2 _ p2 pw (I.hok.fresh (Nat.le_succ _))⟩
  rw [List.length_map, p2.length_eq]; exact hz
def tSrtU (K : PySem.W.Frag) (ta : TE) : TE := fun σ H Q => ta σ H fun x H1 => ∃ (a : Addr) (B : List Ent), x = V.ref a ∧ SrtAt K H1 a B ∧ B.length ≤ 76 ∧
  ∀ (B2 : List Ent) (p : Addr), (B2.map fun p => p.2.key).Nodup → (∀ q ∈ B2, q ∈ B) → (∀ q ∈ B, q.2.key ∈ B2.map fun p => p.2.key) → (B2.map (·.2)).Pairwise (fun x y => leD x y = true) → H1 p = none → Q (.ref p) (upd H1 p (.lst (B2.map fun q => V.ref q.1)))
theorem pe_srtU {e : Expr} {ta : TE} {p p2 q pos : Pos} (hr : Room k X.A) (hc : X.calm = true) (hg : Gl X "sorted") (hm : X.mg "sorted" = none) (hg2 : Gl X "set") (hm2 : X.mg "set" = none) (ha : PE X e ta)
    (hs : starEach [.Call (.Name "set" p2) [e] [] q] X.env = (false, eval (.Call (.Name "set" p2) [e] [] q) X.env) :: starEach [] X.env) (na : starEach [e] X.env = (false, eval e X.env) :: starEach [] X.env) :
    PE X (.Call (.Name "sorted" p) [.Call (.Name "set" p2) [e] [] q] [] pos) (tSrtU X.K ta) := by
  refine ⟨fun pins s σ H Q I h => ?_⟩
  refine wpAny_Call_Name_kw (ld_blt I hg hm PyProof.Rows.boot_sorted ?_ (by decide) (by decide))
  refine PyProof.Rows.callWith_builtin1 (PyProof.Rows.args_cons ?_ hs) hs rfl
  refine wpAny_Call_Name_kw (ld_blt I hg2 hm2 PyProof.Rows.boot_set ?_ (by decide) (by decide))
  refine PyProof.Rows.callWith_type1 (PyProof.Rows.args_cons (thn (ha.run pins s σ H _ I h) fun v s1 ⟨x, H1, I1, r1, q1⟩ => PyProof.Rows.args_nil ?_) na) na rfl
  obtain ⟨l, B, rfl, ⟨sq, dp, ok⟩, few, q1⟩ := q1
  cases r1
  obtain ⟨its, rv, hl, hz⟩ := I1.list sq
  have ei := vals_ents_eq rv
  subst ei
  have ky : ∀ p ∈ B, kyD 8 p.2 = true := fun p hp => ok.ky _ (List.mem_map.mpr ⟨p, hp, rfl⟩)
  have rd : ∀ p ∈ B, ∃ as, Reads s1.heap (.ref p.1) p.2.pd as := fun p hp => Dp.reads I1 _ _ _ (dp p hp) rfl
  have un := hr.un
  refine call_set_n B (I1.ok.hd hc) hl.isList rfl (fun p hp => ?_) few (by omega) fun h2 tk L rows e tb R g k2 => PyProof.Rows.args_nil ?_
  · obtain ⟨as, r⟩ := rd p hp
    exact ⟨reads_key _ 8 _ _ (ky p hp) r, ky_depth _ 8 (ky p hp)⟩
  · have sub : ∀ p ∈ L, p ∈ B := fun p hp => List.mem_of_mem_take (g.sub p hp)
    have all : ∀ p ∈ B, p.2.key ∈ L.map fun p => p.2.key := fun p hp => g.all p (by rw [List.take_length]; exact hp)
    have I2 : Inv X pins σ H1 { s1 with heap := h2, toks := tk } := I1.kept fun b o z => k2 b o z
    refine sortset_n (s := { s1 with heap := h2, toks := tk }) R (I2.ok.hd hc) (by omega) (ok.sub (fun x hx => ?_) (by rw [List.length_map, List.length_map]; exact g.len)) (fun p hp => ?_) fun s3 p3 c B2 k3 g3 o3 hp3 hl3 pm pw => ?_
    · obtain ⟨p, hp, ep⟩ := List.mem_map.mp hx
      exact List.mem_map.mpr ⟨p, sub p hp, ep⟩
    · obtain ⟨as, r⟩ := rd p (sub p hp)
      exact ⟨as, PyProof.Rows.Reads.keeps (fun b o z => k2 b o z) r⟩
    · have hn : H1 p3 = none := I2.hok.fresh hp3
      have hlen : (B2.map fun q => V.ref q.1).length ≤ sizeLine := by rw [List.length_map, pm.length_eq, sizeLine_eq]; have := g.len; omega
      have J : Inv X pins σ (upd H1 p3 (.lst (B2.map fun q => V.ref q.1))) s3 :=
        Inv.call' (s := { s1 with heap := h2, toks := tk }) I2 o3 (ch := []) (Un.laid k3 hp3 hn) (I2.hok.laid k3 hp3 ⟨hlen, _, c, vals_ents B2, hl3⟩) (by rw [g3]; exact I2.bare) (fun _ z => nomatch z)
      refine ⟨.ref p3, _, J, rfl, q1 B2 p3 ?_ (fun q hq => sub q (pm.mem_iff.mp hq)) (fun q hq => ?_) pw hn⟩
      · exact (pm.map fun p : Ent => p.2.key).nodup_iff.mpr R.dis
      · exact (pm.map fun p : Ent => p.2.key).mem_iff.mpr (all q hq)
end

/-! ### by data -/
def okQ (n : Nat) (es : List D) : Bool := okSrt es && es.all isTup && decide (es.length ≤ n)
def fSrt (fa : FA) : FL := fun xw ρ M Q => fa xw ρ M fun ds M1 => match ds with
  | [d] => (match lstOf M1 d with
    | some es => okQ 1000 es = true ∧ Q (srt es) M1
    | none => False)
  | _ => False
def fSrtU (f : FE) : FL := fun xw ρ M Q => f xw ρ M fun d M1 => match lstOf M1 d with
  | some es => okQ 76 es = true ∧ Q (srtU es) M1
  | none => False
section
variable {K : PySem.W.Frag} {T hid : List Addr} {H : Hp} {M : Mu}
theorem srtAt_of (s : Sto K T hid H M) {v : V} {d : D} {es : List D} {n : Nat} (r : Rv K hid H M v d) (e : lstOf M d = some es) (h : okQ n es = true) :
    ∃ a B, v = .ref a ∧ es = B.map (·.2) ∧ SrtAt K H a B ∧ (∀ p ∈ B, Rv K hid H M (.ref p.1) p.2) ∧ B.length ≤ n := by
  obtain ⟨a, xs, rfl, h3, h4⟩ := lstOf_ok s r e
  unfold okQ at h
  simp only [Bool.and_eq_true, decide_eq_true_eq] at h
  obtain ⟨⟨h5, h6⟩, h7⟩ := h
  obtain ⟨B, e1, e2, hB⟩ := ents_of h4 h6
  subst e1
  subst e2
  have ok := srtOk_of h5
  rw [List.length_map] at h7
  exact ⟨a, B, rfl, rfl, ⟨h3, fun p hp => ky_dp _ 8 _ (ok.ky _ (List.mem_map.mpr ⟨p, hp, rfl⟩)) (hB p hp), ok⟩, hB, h7⟩
variable {X : Cx} {W : WX} {k : Nat}
theorem dl_srt {p pos : Pos} {e : Expr} {fa : FA} (hr : Room k X.A) (hg : Gl X "sorted") (hm : X.mg "sorted" = none) (ha : DA X T W [e] fa)
    (he : starEach [e] X.env = (false, eval e X.env) :: starEach [] X.env) (hpl : (backTo pos (starEach [] X.env)).any (·.1) = false) : DL X T W (.Call (.Name "sorted" p) [e] [] pos) (fSrt fa) := by
  obtain ⟨t, pa, sa⟩ := ha
  refine ⟨_, pe_callB (cr_srt hr) hg hm PyProof.Rows.boot_sorted pa (by decide) (by decide) he hpl, fun hid σ H ρ M xw Q Qv r s w q p => ?_⟩
  refine sa hid σ H ρ M xw _ _ r s w q fun vs H1 ds M1 s1 e1 r1 q1 => ?_
  unfold fSrt at q1
  split at q1
  · split at q1
    · rename_i d es e
      cases r1 with
      | cons h r =>
        cases r
        obtain ⟨a, B, rfl, rfl, sa, hB, hz⟩ := srtAt_of s1 h e q1.1
        refine ⟨a, B, rfl, sa, fun B2 p2 pm pw hp2 => ?_⟩
        have e2 : B2.map (·.2) = srt (B.map (·.2)) := srt_one sa.ok (pm.map _) pw
        have q2 := q1.2
        rw [← e2] at q2
        exact p.new s1 e1 (rvs_ents fun q hq => hB q (pm.mem_iff.mp hq)) hp2 q2
    · exact q1.elim
  · exact q1.elim
theorem dl_srtU {p p2 q pos : Pos} {e : Expr} {f : FE} (hr : Room k X.A) (hc : X.calm = true) (hg : Gl X "sorted") (hm : X.mg "sorted" = none) (hg2 : Gl X "set") (hm2 : X.mg "set" = none) (ha : DE X T W e f)
    (hs : starEach [.Call (.Name "set" p2) [e] [] q] X.env = (false, eval (.Call (.Name "set" p2) [e] [] q) X.env) :: starEach [] X.env) (na : starEach [e] X.env = (false, eval e X.env) :: starEach [] X.env) :
    DL X T W (.Call (.Name "sorted" p) [.Call (.Name "set" p2) [e] [] q] [] pos) (fSrtU f) := by
  obtain ⟨t, pa, sa⟩ := ha
  refine ⟨_, pe_srtU hr hc hg hm hg2 hm2 pa hs na, fun hid σ H ρ M xw Q Qv r s w q p => ?_⟩
  refine sa hid σ H ρ M xw _ _ r s w q fun v H1 d M1 s1 e1 r1 q1 => ?_
  unfold fSrtU at q1
  split at q1
  · rename_i es e
    obtain ⟨a, B, rfl, rfl, sa, hB, hz⟩ := srtAt_of s1 r1 e q1.1
    refine ⟨a, B, rfl, sa, hz, fun B2 p2 nd sub all pw hp2 => ?_⟩
    have e2 : B2.map (·.2) = srtU (B.map (·.2)) := srtU_one sa.ok (by rw [List.map_map]; exact nd) (fun x hx => ?_) (fun x hx => ?_) pw
    · have q2 := q1.2
      rw [← e2] at q2
      exact p.new s1 e1 (rvs_ents fun q hq => hB q (sub q hq)) hp2 q2
    · obtain ⟨y, hy, ey⟩ := List.mem_map.mp hx
      exact List.mem_map.mpr ⟨y, sub y hy, ey⟩
    · obtain ⟨y, hy, ey⟩ := List.mem_map.mp hx
      rw [← ey, List.map_map]
      exact all y hy
  · exact q1.elim
end
section
variable {P : Program} {w : World} {K : PySem.W.Frag} {mg : Str → Option Value} {base : Heap} {N : List Str} {sc : Scope} {fn : Str → Bool} {k : Nat} {W : WX} {X : Cx} {T : List Addr} {e : Expr} {fs : FA} {f : FE} {p p2 q pos : Pos}
theorem n_srt (g : Std P w K mg base N sc fn k W X) (F : Fr mg) (ha : DA X T W [e] fs) (hg : sc.names.lookup ("sorted" : Str) = some .globalImplicit := by rfl)
    (he : starEach [e] X.env = (false, eval e X.env) :: starEach [] X.env := by rfl) : DL X T W (.Call (.Name "sorted" p) [e] [] pos) (fSrt fs) := dl_srt g.room (g.gl hg) (g.none F.sorted) ha he rfl
theorem n_srtU (g : Std P w K mg base N sc fn k W X) (F : Fr mg) (ha : DE X T W e f) (hg : sc.names.lookup ("sorted" : Str) = some .globalImplicit := by rfl) (hg2 : sc.names.lookup ("set" : Str) = some .globalImplicit := by rfl)
    (hs : starEach [.Call (.Name "set" p2) [e] [] q] X.env = (false, eval (.Call (.Name "set" p2) [e] [] q) X.env) :: starEach [] X.env := by rfl) (na : starEach [e] X.env = (false, eval e X.env) :: starEach [] X.env := by rfl) :
    DL X T W (.Call (.Name "sorted" p) [.Call (.Name "set" p2) [e] [] q] [] pos) (fSrtU f) := dl_srtU g.room g.calm (g.gl hg) (g.none F.sorted) (g.gl hg2) (g.none F.set) ha hs na
end

/-! ### defs that return a new list -/
abbrev LSpec := List D → Mu → (List D → Mu → Prop) → XW → Prop
def spOfL (K : PySem.W.Frag) (T : List Addr) (S : LSpec) : Sp := fun vs H Q E => ∃ hid ds M Qd xw, Sto K T hid H M ∧ Rvs K hid H M vs ds ∧ S ds M Qd xw ∧ PstL K T hid H M Qd Q ∧
  ∀ cls dd H' M' xd, Sto K T hid H' M' → Ext hid H M H' M' → XR K hid H' M' cls dd xd → xw xd M' → E cls dd H'
structure FnL (P : Program) (w : World) (K : PySem.W.Frag) (mg : Str → Option Value) (base : Heap) (T : List Addr) (k : Nat) (x : Str) (S : LSpec) : Prop where
  ex : ∃ f fd ps, mg x = some (.ref f) ∧ PySem.W.keepIn K (.ref f) = true ∧ Binds K fd ps [] ∧ FnOk P w K mg base (L2.CX P w) k f fd ps (spOfL K T S)
theorem FnL.mono {P : Program} {w : World} {K : PySem.W.Frag} {mg : Str → Option Value} {base : Heap} {T : List Addr} {j k : Nat} {x : Str} {S : LSpec} (F : FnL P w K mg base T j x S) (h : j ≤ k) : FnL P w K mg base T k x S :=
  let ⟨f, fd, ps, a, b, c, d⟩ := F.ex; ⟨f, fd, ps, a, b, c, d.mono h⟩
def fCallL (S : LSpec) (fa : FA) : FL := fun xw ρ M Q => fa xw ρ M fun ds M1 => S ds M1 Q xw
/-- return of a new list -/
def fRetL (f : FL) : FS := fun E ρ M => f (xwAt E ρ) ρ M fun ds M1 => ∀ p, M p = none → M1 p = none → E.rt (.loc p) (mset M1 p (.lst ds))
section
variable {X : Cx} {T : List Addr} {W : WX}
theorem dl_call {k : Nat} {x : Str} {S : LSpec} {p pos : Pos} {e : Expr} {es : List Expr} {fa : FA} (F : FnL X.prog X.w X.K X.mg X.base T k x S) (hr : Room k X.A) (tk : Takes X W) (hg : Gl X x) (ha : DA X T W (e :: es) fa) (hdb : (x == ("__debug__" : Str)) = false)
    (he : starEach (e :: es) X.env = (false, eval e X.env) :: starEach es X.env) (hpl : (backTo pos (starEach es X.env)).any (·.1) = false) : DL X T W (.Call (.Name x p) (e :: es) [] pos) (fCallL S fa) := by
  obtain ⟨f, fd, ps, hm, hk, hb, G⟩ := F.ex
  obtain ⟨t, pa, sa⟩ := ha
  refine ⟨_, pe_callS G hr hg hm hk hb (fun σ => passAt tk σ) pa hdb he hpl, fun hid σ H ρ M xw Q Qv r s w q p => ?_⟩
  refine sa hid σ H ρ M xw _ _ r s w q fun vs H1 ds M1 s1 e1 r1 q1 => ?_
  refine ⟨hid, ds, M1, Q, xw, s1, r1, q1, fun a xs H2 es M2 hp hn s2 e2 h2 r2 q2 => p a xs H2 es M2 (e1.fr hp) hn s2 (e1.trans e2) h2 r2 q2, fun cls dd H' M' xd s2 e2 x2 q2 => w cls dd H' M' xd s2 (e1.trans e2) x2 q2⟩
theorem ds_retL {e : Expr} {f : FL} {pos : Pos} (h : DL X T W e f) : DS X T W (.Return (some e) pos) (fRetL f) := by
  obtain ⟨t, p, sa⟩ := h
  refine ⟨_, ps_ret p, fun hid σ H ρ M E D r s w q k => sa hid σ H ρ M _ _ _ r s (w.at r) q fun p xs H1 ds M1 hp hn s1 e1 h1 r1 q1 => ?_⟩
  exact k.rt _ H1 _ _ (s1.owned hn h1 r1) (e1.owned hp) (.loc p) (q1 p (s.fresh hp).1 (s1.hidn p List.mem_cons_self).1)
end
def bodyL (N : List Str) (f : FS) (ds : List D) (M : Mu) (Q : List D → Mu → Prop) (xw : XW) : Prop :=
  f { nx := fun _ _ => False, rt := fun d M' => ∃ a es, d = .loc a ∧ M a = none ∧ M' a = some (.lst es) ∧ Q es (mres M' M), xw := fun xd _ M' => xw xd (mres M' M) } (startD N ds) M
section
variable {P : Program} {w : World} {K : PySem.W.Frag} {mg : Str → Option Value} {base : Heap} {N ps : List Str} {sc : Scope} {k : Nat} {T : List Addr}
theorem fn_okLC {x qual : Str} {params : Arguments} {body : List Stmt} {f : Addr} {fd : FuncData} {S : LSpec} {fs : FS} (F : FunD K x qual params body sc [] [] f fd) (sco : FnScope N ps sc)
    (har : ∀ ds M Q xw, S ds M Q xw → ds.length = ps.length)
    (hd : ∀ X W, Std P w K mg base N sc (fun _ => true) k W X → X.env.code = fd.code → DSs X T W body fs)
    (hs : ∀ ds M Q xw, S ds M Q xw → bodyL N fs ds M Q xw) : FnOk P w K mg base (L2.CX P w) (k + 1) f fd ps (spOfL K T S) := by
  obtain ⟨oc, od, dV, kV, doc, pm, an, cdv, ct, osl, rfl, lk, hcd, _, _⟩ := F.ex
  refine fn_of lk hcd sco (fun vs H Q E h => ?_) fun A outer s H vs Q E hr h => ?_
  · obtain ⟨hid, ds, M, Qd, xw, s, r, q, _⟩ := h
    rw [r.length]
    exact har ds M Qd xw q
  · obtain ⟨hid, ds, M, Qd, xw, st, r, q, po, px⟩ := h
    have hl : vs.length = ds.length := r.length
    have g : Std P w K mg base N sc (fun _ => true) k (fun cls d _ H' => E cls d H') (cxOf (L2.CX P w) P w K mg base N qual sc f cdv A outer s H E) :=
      ⟨rfl, rfl, rfl, rfl, rfl, rfl, sco.nd, rfl, fun _ _ => rfl, rfl, takes_of rfl rfl rfl rfl, passes_of rfl, hr⟩
    obtain ⟨t, p, sim⟩ := hd _ _ g rfl
    refine ⟨t, p, sim hid _ H (startD N ds) M { nx := fun _ _ => False, rt := fun d M' => ∃ a es, d = .loc a ∧ M a = none ∧ M' a = some (.lst es) ∧ Qd es (mres M' M), xw := fun xd _ M' => xw xd (mres M' M) } _ ⟨?_, fun i d hi => ?_⟩ st (fun cls dd σ' H' ρ' M' xd r' s' e' x' q' => ?_) (hs ds M Qd xw q) ⟨fun _ _ _ _ _ _ _ z => z.elim, ?_, fun _ _ _ _ _ _ _ z => z, fun _ _ _ _ _ _ _ z => z⟩⟩
    · unfold startD L2.start
      rw [List.length_append, List.length_append, List.length_map, List.length_map, List.length_replicate, List.length_replicate, hl]
    · unfold startD at hi
      have hi' : i < ds.length := by
        by_cases h : i < ds.length
        · exact h
        · rw [List.getElem?_append_right (by simpa using h), List.getElem?_replicate] at hi
          split at hi <;> cases hi
      rw [List.getElem?_append_left (by simpa using hi'), List.getElem?_map] at hi
      obtain ⟨d', hd', ed⟩ := Option.map_eq_some_iff.mp hi
      cases ed
      obtain ⟨v, h1, h2⟩ := r.get i hd'
      refine ⟨v, ?_, h2⟩
      unfold L2.start
      rw [List.getElem?_append_left (by rw [List.length_map]; omega), List.getElem?_map, h1]
      rfl
    · exact px cls dd H' (mres M' M) xd s'.res (e'.trans Ext.res) (x'.ext Ext.res rfl) q'
    · intro v H' d M' s' e' r' q'
      obtain ⟨a, es, rfl, hM, hM', q'⟩ := q'
      cases r'
      obtain ⟨xs, h1, h2, h3⟩ := s'.at hM'
      have mr : mres M' M a = none := by unfold mres; rw [hM]
      have car : Car K hid H' M' (a :: hid) H' (mres M' M) := by
        refine ⟨fun _ _ z => z, fun y ys z => ?_⟩
        rcases z with ⟨z1, z2, z3⟩ | z | z
        · refine .inl ⟨z1, by unfold mres; split <;> first | rfl | exact z2, ?_⟩
          rw [List.mem_cons, not_or]
          exact ⟨(by rintro rfl; rw [hM'] at z2; cases z2), z3⟩
        · exact .inr (.inl z)
        · exact .inr (.inr z)
      have sr : Sto K T (a :: hid) H' (mres M' M) := by
        refine ⟨fun b m hb => ?_, s'.tab, fun b hb => ?_⟩
        · have hb' : M' b = some m := by
            unfold mres at hb
            split at hb
            · cases hb
            · exact hb
          exact (s'.mem b m hb').car car rfl
        · rcases List.mem_cons.mp hb with z | z
          · subst z; exact ⟨mr, by rw [h1]; exact fun z => nomatch z⟩
          · exact (s'.res (M := M)).hidn b z
      exact po a xs H' es (mres M' M) (e'.nl a hM (by rw [hM']; exact fun z => nomatch z)) h3 sr (e'.trans Ext.res) h1 (car.rvs _ _ h2) q'
theorem fn_okLG {x qual : Str} {params : Arguments} {body : List Stmt} {f : Addr} {fd : FuncData} {S : LSpec} {fs : FS} {c P' : Addr} {nm : Str} (F : FunD K x qual params body sc [] [] f fd) (hm : mg nm = some (.ref f)) (sco : FnScope N ps sc) (hb : Binds K fd ps []) (hcode : fd.code = .ref c) (hB : GxR.TabB base mg c P') (hT : P' ∈ T)
    (har : ∀ ds M Q xw, S ds M Q xw → ds.length = ps.length)
    (hd : ∀ X W, Std P w K mg base N sc (fun _ => true) k W X → Cod X T → DSs X T W body fs)
    (hs : ∀ ds M Q xw, S ds M Q xw → bodyL N fs ds M Q xw) : FnL P w K mg base T (k + 1) nm S := ⟨f, fd, ps, hm, F.kp, hb, fn_okLC F sco har (fun X W g e => hd X W g ⟨c, P', by rw [e]; exact hcode, by rw [g.eb, g.em]; exact hB, hT⟩) hs⟩
theorem fn_okL {x qual : Str} {params : Arguments} {body : List Stmt} {f : Addr} {fd : FuncData} {S : LSpec} {fs : FS} {nm : Str} (F : FunD K x qual params body sc [] [] f fd) (hm : mg nm = some (.ref f)) (sco : FnScope N ps sc) (hb : Binds K fd ps [])
    (har : ∀ ds M Q xw, S ds M Q xw → ds.length = ps.length)
    (hd : ∀ X W, Std P w K mg base N sc (fun _ => true) k W X → DSs X T W body fs)
    (hs : ∀ ds M Q xw, S ds M Q xw → bodyL N fs ds M Q xw) : FnL P w K mg base T (k + 1) nm S := ⟨f, fd, ps, hm, F.kp, hb, fn_okLC F sco har (fun X W g _ => hd X W g) hs⟩
theorem bodyL_N {N N' : List Str} (h : N.length = N'.length) {fs : FS} {S : LSpec} (b : ∀ ds M Q xw, S ds M Q xw → bodyL N fs ds M Q xw) : ∀ ds M Q xw, S ds M Q xw → bodyL N' fs ds M Q xw := fun ds M Q xw s => by
  have := b ds M Q xw s
  unfold bodyL startD at this ⊢
  rw [← h]; exact this
/-- the end of a def that returns a new list -/
theorem retL_ok {M M1 : Mu} {ds : List D} {Q : List D → Mu → Prop} (q : Q ds (mres M1 M)) : ∀ p, M1 p = none → M p = none → ∃ a es, D.loc p = D.loc a ∧ M a = none ∧ mset M1 p (.lst ds) a = some (MO.lst es) ∧ Q es (mres (mset M1 p (.lst ds)) M) :=
  fun p _ h => ⟨p, ds, rfl, h, mset_same, by rw [mres_mset h]; exact q⟩
variable {fn : Str → Bool} {W : WX} {X : Cx}
theorem n_callL {nm : Str} {S : LSpec} {e : Expr} {es : List Expr} {fs : FA} {p pos : Pos} (g : Std P w K mg base N sc fn k W X) (F : FnL P w K mg base T k nm S) (ha : DA X T W (e :: es) fs) (hg : sc.names.lookup nm = some .globalImplicit := by rfl)
    (hdb : (nm == ("__debug__" : Str)) = false := by decide) (he : starEach (e :: es) X.env = (false, eval e X.env) :: starEach es X.env := by rfl) (hpl : (backTo pos (starEach es X.env)).any (·.1) = false := by rfl) :
    DL X T W (.Call (.Name nm p) (e :: es) [] pos) (fCallL S fs) := by
  refine dl_call (k := k) ?_ g.room g.takes (g.gl hg) ha hdb he hpl
  rw [g.eP, g.ew, g.eK, g.em, g.eb]; exact F
end
end U

set_option Elab.async false
set_option linter.all false
set_option maxRecDepth 100000
set_option maxHeartbeats 1000000
/-! V1: the terms computed: rewriting rules from the head on; loops by induction. -/
namespace U
open PySem PySem.Spec PyProof.Rows L2

/-- what is not to be read yet -/
inductive Ky {α : Type} (a : α) : Type where
  | mk : Ky a
/-- a test whose answer is at hand; the branches stay unread -/
def IfS (b : Bool) (f g : FS) {E : FEnds} (_ : Ky E) (ρ : Env') (M : Mu) : Prop := if b = true then f E ρ M else g E ρ M
theorem IfS_t {f g : FS} {E : FEnds} {ρ : Env'} {M : Mu} : IfS true f g (.mk : Ky E) ρ M = f E ρ M := rfl
theorem IfS_f {f g : FS} {E : FEnds} {ρ : Env'} {M : Mu} : IfS false f g (.mk : Ky E) ρ M = g E ρ M := rfl
theorem IfS_mk {b : Bool} {f g : FS} {E : FEnds} {ρ : Env'} {M : Mu} (h1 : b = true → f E ρ M) (h2 : b = false → g E ρ M) : IfS b f g (.mk : Ky E) ρ M := by
  cases b with
  | true => exact h1 rfl
  | false => exact h2 rfl
def IfE (b : Bool) (f g : FE) (xw : XW) (ρ : Env') (M : Mu) {Q : D → Mu → Prop} (_ : Ky Q) : Prop := if b = true then f xw ρ M Q else g xw ρ M Q
theorem IfE_t {f g : FE} {xw : XW} {ρ : Env'} {M : Mu} {Q : D → Mu → Prop} : IfE true f g xw ρ M (.mk : Ky Q) = f xw ρ M Q := rfl
theorem IfE_f {f g : FE} {xw : XW} {ρ : Env'} {M : Mu} {Q : D → Mu → Prop} : IfE false f g xw ρ M (.mk : Ky Q) = g xw ρ M Q := rfl
def AndT (b : Bool) (g : FT) (xw : XW) (ρ : Env') (M : Mu) {Q : Bool → Mu → Prop} (_ : Ky Q) : Prop := if b = true then g xw ρ M Q else Q false M
def OrT (b : Bool) (g : FT) (xw : XW) (ρ : Env') (M : Mu) {Q : Bool → Mu → Prop} (_ : Ky Q) : Prop := if b = true then Q true M else g xw ρ M Q
theorem AndT_t {g : FT} {xw : XW} {ρ : Env'} {M : Mu} {Q : Bool → Mu → Prop} : AndT true g xw ρ M (.mk : Ky Q) = g xw ρ M Q := rfl
theorem AndT_f {g : FT} {xw : XW} {ρ : Env'} {M : Mu} {Q : Bool → Mu → Prop} : AndT false g xw ρ M (.mk : Ky Q) = Q false M := rfl
theorem OrT_t {g : FT} {xw : XW} {ρ : Env'} {M : Mu} {Q : Bool → Mu → Prop} : OrT true g xw ρ M (.mk : Ky Q) = Q true M := rfl
theorem OrT_f {g : FT} {xw : XW} {ρ : Env'} {M : Mu} {Q : Bool → Mu → Prop} : OrT false g xw ρ M (.mk : Ky Q) = g xw ρ M Q := rfl
def AndV (d : D) (g : FE) (xw : XW) (ρ : Env') (M : Mu) {Q : D → Mu → Prop} (_ : Ky Q) : Prop := match d with
  | .bl b => if b = true then g xw ρ M Q else Q (.bl false) M
  | _ => False
def OrV (d : D) (g : FE) (xw : XW) (ρ : Env') (M : Mu) {Q : D → Mu → Prop} (_ : Ky Q) : Prop := match d with
  | .bl b => if b = true then Q (.bl true) M else g xw ρ M Q
  | _ => False
theorem AndV_t {g : FE} {xw : XW} {ρ : Env'} {M : Mu} {Q : D → Mu → Prop} : AndV (.bl true) g xw ρ M (.mk : Ky Q) = g xw ρ M Q := rfl
theorem AndV_f {g : FE} {xw : XW} {ρ : Env'} {M : Mu} {Q : D → Mu → Prop} : AndV (.bl false) g xw ρ M (.mk : Ky Q) = Q (.bl false) M := rfl
theorem OrV_t {g : FE} {xw : XW} {ρ : Env'} {M : Mu} {Q : D → Mu → Prop} : OrV (.bl true) g xw ρ M (.mk : Ky Q) = Q (.bl true) M := rfl
theorem OrV_f {g : FE} {xw : XW} {ρ : Env'} {M : Mu} {Q : D → Mu → Prop} : OrV (.bl false) g xw ρ M (.mk : Ky Q) = g xw ρ M Q := rfl
/-- a call: what follows stays unread -/
def CallS (S : FSpec) (ds : List D) (M : Mu) (xw : XW) {Q : D → Mu → Prop} (_ : Ky Q) : Prop := S ds M Q xw
/-- a loop at its head -/
def CallLS (S : LSpec) (ds : List D) (M : Mu) (xw : XW) {Q : List D → Mu → Prop} (_ : Ky Q) : Prop := S ds M Q xw
def ForS (b : BD) (f : FS) (ds : List D) {E : FEnds} (_ : Ky E) (ρ : Env') (M : Mu) : Prop := forGo b f ds E ρ M
def WhileS (c : FT) (f : FS) {E : FEnds} (_ : Ky E) (ρ : Env') (M : Mu) : Prop := fWhile c f E ρ M
def LcS (b : BD) (ft : FT) (fe : FE) (ρ : Env') (ds : List D) (M : Mu) {Q : List D → Mu → Prop} (_ : Ky Q) : Prop := lcGo b ft fe ρ ds [] M Q
def GenS (k : List Bool → Bool) (b : BD) (fe : FE) (ρ : Env') (ds : List D) (M : Mu) {Q : D → Mu → Prop} (_ : Ky Q) : Prop := ∃ os, GenO b fe ρ M ds os ∧ Q (.bl (k os)) M
section
variable {f g : FS} {E : FEnds} {ρ : Env'} {M : Mu} {xw : XW} {Q : D → Mu → Prop} {QA : List D → Mu → Prop} {QB : Bool → Mu → Prop} {QO : Option Int → Mu → Prop} {fa fb fc : FE} {ga gb : FT} {ha : FA} {la : FL} {ia : FI} {oa ob : FO} {b : BD} {bs : BL} {i n : Nat} {d : D} {ds : List D} {G G' : G2} {C : GC} {S : FSpec} {vs : List Nat} {GI : Int → Int → Prop} {gi : Int → Int → D} {x y z : Int}
theorem eThen : fThen f g E ρ M = f { E with nx := g E } ρ M := rfl
theorem ePass : fPass E ρ M = E.nx ρ M := rfl
theorem eBreak : fBreak E ρ M = E.bk ρ M := rfl
theorem eCont : fCont E ρ M = E.ct ρ M := rfl
theorem eExpr : fExpr fa E ρ M = fa (xwAt E ρ) ρ M fun _ M1 => E.nx ρ M1 := rfl
theorem eRet : fRet fa E ρ M = fa (xwAt E ρ) ρ M E.rt := rfl
theorem eRetL : fRetL la E ρ M = la (xwAt E ρ) ρ M fun ds M1 => ∀ p, M p = none → M1 p = none → E.rt (.loc p) (mset M1 p (.lst ds)) := rfl
theorem eRetN : fRetN E ρ M = E.rt .non M := rfl
theorem eIfS : fIfS ga f g E ρ M = ga (xwAt E ρ) ρ M fun b M1 => IfS b f g (.mk : Ky E) ρ M1 := rfl
theorem eSet : fSet i fa E ρ M = fa (xwAt E ρ) ρ M fun d M1 => E.nx (ρ.set i (some d)) M1 := rfl
theorem eOwn : fOwn i la E ρ M = la (xwAt E ρ) ρ M fun ds M1 => ∀ p, M p = none → M1 p = none → E.nx (ρ.set i (some (.loc p))) (mset M1 p (.lst ds)) := rfl
theorem eAsg : fAsg fa b E ρ M = fa (xwAt E ρ) ρ M fun d M1 => match b d ρ with
  | some ρ1 => E.nx ρ1 M1
  | none => False := rfl
theorem eSetIx : fSetIx fa fb fc E ρ M = fc (xwAt E ρ) ρ M fun v M1 => fa (xwAt E ρ) ρ M1 fun o M2 => fb (xwAt E ρ) ρ M2 fun i M3 => gSetIx o i v M3 fun M4 => E.nx ρ M4 := rfl
theorem eGSetIx {a : Addr} {v : D} {k : Mu → Prop} : gSetIx (.loc a) (.int z) v M k = (match M a with
    | some (.lst ds) => (match ixN ds.length z with
      | some j => k (mset M a (.lst (ds.set j v)))
      | none => False)
    | _ => False) := rfl
theorem eAug : fAug i G fa E ρ M = (match ρ[i]? with
  | some (some d) => fa (xwAt E ρ) ρ M fun y M1 => G d y M1 fun z M2 => E.nx (ρ.set i (some z)) M2
  | _ => False) := rfl
theorem eIadd : gIadd (.int x) (.int y) M Q = Q (.int (x + y)) M := rfl
theorem eIaddL {a : Addr} : gIadd (.loc a) d M Q = (match M a, lstOf M d with
    | some (.lst ds), some es => ds.length + es.length ≤ sizeLine ∧ Q (.loc a) (mset M a (.lst (ds ++ es)))
    | _, _ => False) := rfl
theorem eFrz : fFrz i f E ρ M = (match ρ[i]? with
  | some (some (.loc a)) => (match M a with
    | some (.lst ds) => f E (ρ.set i (some (.lst ds))) (mdel M a)
    | _ => False)
  | _ => False) := rfl
theorem eFor : fFor ia b f E ρ M = ia (xwAt E ρ) ρ M fun ds M1 => ForS b f ds (.mk : Ky E) ρ M1 := rfl
theorem eWhile : fWhile ga f E ρ M = WhileS ga f (.mk : Ky E) ρ M := rfl
/-! expressions -/
theorem eNm : fNm i xw ρ M Q = (match ρ[i]? with
  | some (some d) => Q d M
  | _ => False) := rfl
theorem eC : fC d xw ρ M Q = Q d M := rfl
theorem eOp : fOp G fa fb xw ρ M Q = fa xw ρ M fun x M1 => fb xw ρ M1 fun y M2 => G x y M2 Q := rfl
theorem eB : fB fa xw ρ M QB = fa xw ρ M fun d M1 => match d with
  | .bl b => QB b M1
  | _ => False := rfl
theorem eTr : fTr fa xw ρ M QB = fa xw ρ M fun d M1 => trD M1 d fun b => QB b M1 := rfl
theorem eTrB {b : Bool} {Q : Bool → Prop} : trD M (.bl b) Q = Q b := rfl
theorem eTrI {Q : Bool → Prop} : trD M (.int x) Q = Q (x != 0) := rfl
theorem eTrN {Q : Bool → Prop} : trD M .non Q = Q false := rfl
theorem eTrT {Q : Bool → Prop} : trD M (.tup ds) Q = Q (!ds.isEmpty) := rfl
theorem eTrL {Q : Bool → Prop} : trD M (.lst ds) Q = Q (!ds.isEmpty) := rfl
theorem eTrA {a : Addr} {Q : Bool → Prop} : trD M (.loc a) Q = (match M a with
    | some (.lst ds) => Q (!ds.isEmpty)
    | _ => False) := rfl
theorem eAnd : fAnd ga gb xw ρ M QB = ga xw ρ M fun c M1 => AndT c gb xw ρ M1 (.mk : Ky QB) := rfl
theorem eOr : fOr ga gb xw ρ M QB = ga xw ρ M fun c M1 => OrT c gb xw ρ M1 (.mk : Ky QB) := rfl
theorem eNot : fNot ga xw ρ M QB = ga xw ρ M fun c M1 => QB (!c) M1 := rfl
theorem eAndV : fAndV fa fb xw ρ M Q = fa xw ρ M fun d M1 => AndV d fb xw ρ M1 (.mk : Ky Q) := by
  rfl
theorem eOrV : fOrV fa fb xw ρ M Q = fa xw ρ M fun d M1 => OrV d fb xw ρ M1 (.mk : Ky Q) := by
  rfl
theorem eNotV : fNotV fa xw ρ M Q = fa xw ρ M fun d M1 => match d with
  | .bl b => Q (.bl (!b)) M1
  | _ => False := rfl
theorem eIf : fIf ga fa fb xw ρ M Q = ga xw ρ M fun b M1 => IfE b fa fb xw ρ M1 (.mk : Ky Q) := rfl
theorem eNil : fNil xw ρ M QA = QA [] M := rfl
theorem eCons : fCons fa ha xw ρ M QA = fa xw ρ M fun d M1 => ha xw ρ M1 fun ds M2 => QA (d :: ds) M2 := rfl
theorem eTup : fTup ha xw ρ M Q = ha xw ρ M fun ds M1 => ds.length ≤ sizeLine ∧ Q (.tup ds) M1 := rfl
theorem eOfL : fOfL la xw ρ M Q = la xw ρ M fun ds M1 => Q (.lst ds) M1 := rfl
theorem eLstL : fLstL ha xw ρ M QA = ha xw ρ M fun ds M1 => ds.length ≤ sizeLine ∧ QA ds M1 := rfl
theorem eListL : fListL ha xw ρ M QA = ha xw ρ M fun ds M1 => match ds with
  | [d] => (match seqOf M1 d with
    | some es => QA es M1
    | none => False)
  | _ => False := rfl
theorem eCatL : fCatL fa fb xw ρ M QA = fa xw ρ M fun x M1 => fb xw ρ M1 fun y M2 => match lstOf M2 x, lstOf M2 y with
  | some a, some b => a.length + b.length ≤ sizeLine ∧ QA (a ++ b) M2
  | _, _ => False := rfl
theorem eLc : fLc ia b ga fa vs xw ρ M QA = ia xw ρ M fun ds M1 => LcS b ga fa (wipeE ρ vs) ds M1 (.mk : Ky QA) := rfl
theorem eWipe0 : wipeE ρ [] = ρ := rfl
theorem eWipe : wipeE ρ (i :: vs) = (wipeE ρ vs).set i none := rfl
theorem eSeq : fSeq fa xw ρ M QA = fa xw ρ M fun d M1 => match d with
  | .tup ds => QA ds M1
  | .lst ds => QA ds M1
  | _ => False := rfl
theorem eRng1 : fRng1 ha xw ρ M QA = ha xw ρ M fun ds M1 => match ds with
  | [.int j] => (-(2 ^ 62) ≤ j ∧ j < 2 ^ 62) ∧ QA (rngD 0 j.toNat) M1
  | _ => False := rfl
theorem eRng2 : fRng2 ha xw ρ M QA = ha xw ρ M fun ds M1 => match ds with
  | [.int i, .int j] => (-(2 ^ 62) ≤ i ∧ i < 2 ^ 62 ∧ -(2 ^ 62) ≤ j ∧ j < 2 ^ 62) ∧ QA (rngD i (j - i).toNat) M1
  | _ => False := rfl
theorem eCall : fCall S ha xw ρ M Q = ha xw ρ M fun ds M1 => CallS S ds M1 xw (.mk : Ky Q) := rfl
theorem eCallL {S : LSpec} : fCallL S ha xw ρ M QA = ha xw ρ M fun ds M1 => CallLS S ds M1 xw (.mk : Ky QA) := rfl
theorem eSrt : fSrt ha xw ρ M QA = ha xw ρ M fun ds M1 => match ds with
  | [d] => (match lstOf M1 d with
    | some es => okQ 1000 es = true ∧ QA (srt es) M1
    | none => False)
  | _ => False := rfl
theorem eSrtU : fSrtU fa xw ρ M QA = fa xw ρ M fun d M1 => match lstOf M1 d with
  | some es => okQ 76 es = true ∧ QA (srtU es) M1
  | none => False := rfl
theorem eCB : fCB C ha xw ρ M Q = ha xw ρ M fun ds M1 => C ds M1 Q := rfl
theorem eNeg : fNeg fa xw ρ M Q = fa xw ρ M fun d M1 => match d with
  | .int i => Q (.int (-i)) M1
  | _ => False := rfl
theorem eChain : fChain G G' fa fb fc xw ρ M Q = fa xw ρ M fun x M1 => fb xw ρ M1 fun y M2 => G x y M2 fun z M3 => match z with
  | .bl k => if k = true then fc xw ρ M3 fun u M4 => G' y u M4 Q else Q (.bl false) M3
  | _ => False := rfl
theorem eAppend : fAppend fa ha xw ρ M Q = fa xw ρ M fun o M1 => (match o with
  | .loc a => (match M1 a with
    | some (.lst _) => ha xw ρ M1 fun ds M2 => (match ds with
      | [d] => (match M2 a with
        | some (.lst es) => es.length < sizeLine ∧ Q .non (mset M2 a (.lst (es ++ [d])))
        | _ => False)
      | _ => False)
    | _ => False)
  | _ => False) := rfl
theorem ePop : fPop fa xw ρ M Q = fa xw ρ M fun o M1 => (match o with
  | .loc a => (match M1 a with
    | some (.lst es) => (match es.getLast? with
      | some d => Q d (mset M1 a (.lst es.dropLast))
      | none => False)
    | _ => False)
  | _ => False) := rfl
theorem eNo : fNo xw ρ M QO = QO none M := rfl
theorem eSome : fSome fa xw ρ M QO = fa xw ρ M fun d M1 => match d with
  | .int i => QO (some i) M1
  | _ => False := rfl
theorem eSl : fSl' fa oa ob xw ρ M Q = fa xw ρ M fun x M1 => oa xw ρ M1 fun lo M2 => ob xw ρ M2 fun hi M3 => (match x with
  | .str _ => False
  | x => gSl x lo hi M3 Q) := rfl
theorem gSl_t {lo hi : Option Int} : gSl (.tup ds) lo hi M Q = Q (.tup (cutD ds lo hi)) M := rfl
theorem gSl_l {lo hi : Option Int} : gSl (.lst ds) lo hi M Q = Q (.lst (cutD ds lo hi)) M := rfl
theorem gSl_a {a : Addr} {lo hi : Option Int} : gSl (.loc a) lo hi M Q = (match lstOf M (.loc a) with
    | some ds => Q (.lst (cutD ds lo hi)) M
    | none => False) := rfl
theorem eAnyG : fAnyG ia b fa vs xw ρ M Q = ia xw ρ M fun ds M1 => GenS (fun os => os.any id) b fa (wipeE ρ vs) ds M1 (.mk : Ky Q) := rfl
theorem eAllG : fAllG ia b fa vs xw ρ M Q = ia xw ρ M fun ds M1 => GenS (fun os => os.all id) b fa (wipeE ρ vs) ds M1 (.mk : Ky Q) := rfl
theorem eZip : fZip ha xw ρ M QA = ha xw ρ M fun ds M1 => match ds with
  | [.tup as, .tup bs] => QA ((as.zip bs).map fun p => .tup [p.1, p.2]) M1
  | [.lst as, .lst bs] => QA ((as.zip bs).map fun p => .tup [p.1, p.2]) M1
  | [.tup as, .lst bs] => QA ((as.zip bs).map fun p => .tup [p.1, p.2]) M1
  | [.lst as, .tup bs] => QA ((as.zip bs).map fun p => .tup [p.1, p.2]) M1
  | _ => False := rfl
theorem eZip3 : fZip3 ha xw ρ M QA = ha xw ρ M fun ds M1 => match ds with
  | [x, y, z] => (match seqP x, seqP y, seqP z with
    | some as, some bs, some cs => QA ((as.zip (bs.zip cs)).map fun p => .tup [p.1, p.2.1, p.2.2]) M1
    | _, _, _ => False)
  | _ => False := rfl
theorem gIsC_ {n m : String} {d : D} : gIsC n [d, .ty m] M Q = (m = n ∧ (match tyN d with
    | some t => Q (.bl (decide (t = n))) M
    | none => False)) := rfl
theorem tyN_t : tyN (.tup ds) = some "tuple" := rfl
theorem tyN_l : tyN (.lst ds) = some "list" := rfl
theorem tyN_n : tyN .non = some "NoneType" := rfl
theorem tyN_b {b : Bool} : tyN (.bl b) = some "bool" := rfl
theorem tyN_i : tyN (.int x) = some "int" := rfl
theorem seqP_t : seqP (.tup ds) = some ds := rfl
theorem seqP_l : seqP (.lst ds) = some ds := rfl
theorem eEn1 : fEn1 ha xw ρ M QA = ha xw ρ M fun ds M1 => match ds with
  | [.tup as] => QA (enD 0 as) M1
  | [.lst as] => QA (enD 0 as) M1
  | _ => False := rfl
theorem eEn2 : fEn2 ha xw ρ M QA = ha xw ρ M fun ds M1 => match ds with
  | [.tup as, .int k] => (-(2 ^ 63) ≤ k ∧ k < 2 ^ 63) ∧ QA (enD k as) M1
  | [.lst as, .int k] => (-(2 ^ 63) ≤ k ∧ k < 2 ^ 63) ∧ QA (enD k as) M1
  | _ => False := rfl
theorem eSeqA : fSeqA fa xw ρ M QA = fa xw ρ M fun d M1 => match seqOf M1 d with
  | some ds => QA ds M1
  | none => False := rfl
theorem ePar {j : Nat} : fPar i j ha E ρ M = ha (xwAt E ρ) ρ M fun ds M1 => match ds with
  | [d, e] => E.nx ((ρ.set i (some d)).set j (some e)) M1
  | _ => False := rfl
theorem gAnyL_ : gAnyL [d] M Q = (match lstOf M d with
    | some es => (match boolsD es with
      | some bs => Q (.bl (bs.any id)) M
      | none => False)
    | none => False) := rfl
theorem gAllL_ : gAllL [d] M Q = (match lstOf M d with
    | some es => (match boolsD es with
      | some bs => Q (.bl (bs.all id)) M
      | none => False)
    | none => False) := rfl
theorem gSumL_ : gSumL [d] M Q = (match lstOf M d with
    | some es => (match intsD es with
      | some bs => Q (.int bs.sum) M
      | none => False)
    | none => False) := rfl
/-! operators -/
theorem gAdd_i : gAdd (.int x) (.int y) M Q = Q (.int (x + y)) M := rfl
theorem gAdd_t {es : List D} : gAdd (.tup ds) (.tup es) M Q = (ds.length + es.length ≤ sizeLine ∧ Q (.tup (ds ++ es)) M) := rfl
theorem gAdd_s {u v : Str} : gAdd (.str u) (.str v) M Q = (u.length + v.length ≤ sizeLine ∧ Q (.str (u ++ v)) M) := rfl
theorem gAdd_l {es : List D} : gAdd (.lst ds) (.lst es) M Q = (ds.length + es.length ≤ sizeLine ∧ Q (.lst (ds ++ es)) M) := rfl
theorem gI0_i : gI0 gi (.int x) (.int y) M Q = Q (gi x y) M := rfl
theorem gI_i : gI GI gi (.int x) (.int y) M Q = (GI x y ∧ Q (gi x y) M) := rfl
theorem gMul_i : gMul (.int x) (.int y) M Q = ((CMul x y ∨ CMulW x y) ∧ Q (.int (x * y)) M) := rfl
theorem gMul_t : gMul (.tup ds) (.int y) M Q = (1 ≤ y ∧ y ≤ 1000 ∧ ds.length ≤ 1000 ∧ Q (.tup (List.replicate y.toNat ds).flatten) M) := rfl
theorem gEq_ {u v : D} : gEq u v M Q = (dle 60 (rsv M u) = true ∧ dle 60 (rsv M v) = true ∧ Q (.bl (eqD (rsv M u) (rsv M v))) M) := rfl
theorem gNe_ {u v : D} : gNe u v M Q = (dle 60 (rsv M u) = true ∧ dle 60 (rsv M v) = true ∧ Q (.bl (!eqD (rsv M u) (rsv M v))) M) := rfl
theorem gIs_n {u : D} : gIs u .non M Q = Q (.bl (isNon u)) M := rfl
theorem gIs_b {p q : Bool} : gIs (.bl p) (.bl q) M Q = Q (.bl (decide (p = q))) M := rfl
theorem gIsNot_n {u : D} : gIsNot u .non M Q = Q (.bl (!isNon u)) M := rfl
theorem gIsNot_b {p q : Bool} : gIsNot (.bl p) (.bl q) M Q = Q (.bl (!decide (p = q))) M := rfl
theorem gIn_ {u v : D} : gIn u v M Q = (match seqOf M v with
  | some ds => dle 60 (rsv M u) = true ∧ ds.all (dle 59) = true ∧ Q (.bl (ds.any fun y => eqD y (rsv M u))) M
  | none => False) := rfl
theorem gNotIn_ {u v : D} : gNotIn u v M Q = (match seqOf M v with
  | some ds => dle 60 (rsv M u) = true ∧ ds.all (dle 59) = true ∧ Q (.bl (!ds.any fun y => eqD y (rsv M u))) M
  | none => False) := rfl
theorem gIx_t : gIx (.tup ds) (.int x) M Q = (match L2.atI ds x with
  | some d => Q d M
  | none => False) := rfl
theorem gIx_l : gIx (.lst ds) (.int x) M Q = (match L2.atI ds x with
  | some d => Q d M
  | none => False) := rfl
theorem gIx_a {a : Addr} : gIx (.loc a) (.int x) M Q = (match seqOf M (.loc a) with
  | some ds => (match L2.atI ds x with
    | some d => Q d M
    | none => False)
  | none => False) := rfl
theorem gLen_ : gLen [.tup ds] M Q = Q (.int ds.length) M := rfl
theorem gLen_l : gLen [.lst ds] M Q = Q (.int ds.length) M := rfl
theorem gLen_a {a : Addr} : gLen [.loc a] M Q = (match seqOf M (.loc a) with
    | some es => Q (.int es.length) M
    | none => False) := rfl
theorem gInt_ : gInt [.int x] M Q = Q (.int x) M := rfl
theorem gInt_b {c : Bool} : gInt [.bl c] M Q = Q (.int (if c then 1 else 0)) M := rfl
theorem gTuple_ : gTuple [.tup ds] M Q = Q (.tup ds) M := rfl
theorem gTuple_l : gTuple [.lst ds] M Q = Q (.tup ds) M := rfl
theorem gTuple_a {a : Addr} : gTuple [.loc a] M Q = (match seqOf M (.loc a) with
    | some es => Q (.tup es) M
    | none => False) := rfl
theorem gMax_ : gMax [.int x, .int y] M Q = Q (.int (if y > x then y else x)) M := rfl
theorem gMin_ : gMin [.int x, .int y] M Q = Q (.int (if y < x then y else x)) M := rfl
theorem gIsBool_b {c : Bool} {n : String} : gIsBool [.bl c, .ty n] M Q = (n = "bool" ∧ Q (.bl true) M) := rfl
theorem gIsBool_i {n : String} : gIsBool [.int x, .ty n] M Q = (n = "bool" ∧ Q (.bl false) M) := rfl
theorem seqOf_t : seqOf M (.tup ds) = some ds := rfl
theorem seqOf_l : seqOf M (.lst ds) = some ds := rfl
theorem seqOf_a {a : Addr} : seqOf M (.loc a) = (match M a with
    | some (.lst ds) => some ds
    | _ => none) := rfl
theorem lstOf_l : lstOf M (.lst ds) = some ds := rfl
theorem lstOf_a {a : Addr} : lstOf M (.loc a) = (match M a with
    | some (.lst ds) => some ds
    | _ => none) := rfl
theorem rsv_i : rsv M (.int x) = .int x := rfl
theorem rsv_b {c : Bool} : rsv M (.bl c) = .bl c := rfl
theorem rsv_s {s : Str} : rsv M (.str s) = .str s := rfl
theorem rsv_n : rsv M .non = .non := rfl
theorem rsv_t : rsv M (.tup ds) = .tup ds := rfl
theorem rsv_l : rsv M (.lst ds) = .lst ds := rfl
theorem dle_i : dle n (.int x) = true := by cases n <;> rfl
theorem dle_b {c : Bool} : dle n (.bl c) = true := by cases n <;> rfl
theorem dle_n : dle n .non = true := by cases n <;> rfl
theorem dle_t : dle (n + 1) (.tup ds) = ds.all (dle n) := rfl
theorem dle_l : dle (n + 1) (.lst ds) = ds.all (dle n) := rfl
theorem dle_t60 : dle 60 (.tup ds) = ds.all (dle 59) := rfl
theorem dle_l60 : dle 60 (.lst ds) = ds.all (dle 59) := rfl
theorem eqD_i : eqD (.int x) (.int y) = decide (x = y) := by
  show (x == y) = _
  by_cases h : x = y
  · subst h; simp
  · rw [decide_eq_false h]; exact beq_eq_false_iff_ne.mpr h
theorem eqD_b {p q : Bool} : eqD (.bl p) (.bl q) = (p == q) := rfl
theorem eqD_s {u v : Str} : eqD (.str u) (.str v) = decide (u = v) := by
  show (u == v) = _
  by_cases h : u = v
  · subst h; simp
  · rw [decide_eq_false h]; exact beq_eq_false_iff_ne.mpr h
theorem bNm_ : bNm i d ρ = some (ρ.set i (some d)) := rfl
theorem bTup_ : bTup n bs (.tup ds) ρ = if ds.length = n then bs ds ρ else none := rfl
theorem bCons_ : bCons b bs (d :: ds) ρ = (b d ρ).bind (bs ds) := rfl
theorem bNil_ : bNil [] ρ = some ρ := rfl
end
theorem atI_nat' {α : Type} {l : List α} (i : Nat) (h1 : i < l.length) : atI l (i : Int) = l[i]? := by
  have h : ixN l.length (i : Int) = some i := by
    unfold ixN
    rw [if_pos (by omega), if_pos (by omega), Int.toNat_natCast]
  unfold atI
  rw [h]
  rfl
theorem atI0 {α : Type} {x : α} {l : List α} : atI (x :: l) 0 = some x := atI_nat' 0 (by simp)
theorem atI1 {α : Type} {x y : α} {l : List α} : atI (x :: y :: l) 1 = some y := atI_nat' 1 (by simp)
theorem atI2 {α : Type} {x y z : α} {l : List α} : atI (x :: y :: z :: l) 2 = some z := atI_nat' 2 (by simp)
theorem atI4 {α : Type} {x y z u v : α} {l : List α} : atI (x :: y :: z :: u :: v :: l) 4 = some v := atI_nat' 4 (by simp)
theorem atI5 {α : Type} {x y z u v w : α} {l : List α} : atI (x :: y :: z :: u :: v :: w :: l) 5 = some w := atI_nat' 5 (by simp)
theorem atI3 {α : Type} {x y z u : α} {l : List α} : atI (x :: y :: z :: u :: l) 3 = some u := atI_nat' 3 (by simp)
theorem atI_nat {α : Type} {l : List α} {i : Int} (h0 : 0 ≤ i) (h1 : i < l.length) : atI l i = l[i.toNat]? := by
  unfold atI ixN
  rw [if_pos h0, if_pos h1]; rfl
theorem c0 : ((0 : Nat) : Int) = 0 := rfl
theorem c1 : ((1 : Nat) : Int) = 1 := rfl
theorem i40 : ixN 4 0 = some 0 := by decide
theorem i41 : ixN 4 1 = some 1 := by decide
theorem i42 : ixN 4 2 = some 2 := by decide
theorem i43 : ixN 4 3 = some 3 := by decide
theorem ixN_of {n : Nat} {i : Int} (h0 : 0 ≤ i) (h1 : i < n) : ixN n i = some i.toNat := by
  unfold ixN
  rw [if_pos h0, if_pos h1]

end U

set_option Elab.async false
set_option linter.all false
set_option maxRecDepth 100000
set_option maxHeartbeats 1000000
/-! V2: loops by induction; what a drawing keeps. -/
namespace U
open PySem PySem.Spec PyProof.Rows L2

theorem forS_ind {b : BD} {f : FS} {E : FEnds} (I : List D → Env' → Mu → Prop)
    (step : ∀ d ds ρ M, I (d :: ds) ρ M → ∃ ρ2, b d ρ = some ρ2 ∧ ∀ n c : Env' → Mu → Prop, (∀ ρ M, I ds ρ M → n ρ M) → (∀ ρ M, I ds ρ M → c ρ M) → f { nx := n, rt := E.rt, bk := E.nx, ct := c, xw := E.xw } ρ2 M)
    (done : ∀ ρ M, I [] ρ M → E.nx ρ M) : ∀ (ds : List D) (ρ : Env') (M : Mu), I ds ρ M → ForS b f ds (.mk : Ky E) ρ M
  | [], ρ, M, h => done ρ M h
  | d :: ds, ρ, M, h => by
    obtain ⟨ρ2, h1, h2⟩ := step d ds ρ M h
    unfold ForS forGo
    rw [h1]
    exact h2 _ _ (forS_ind I step done ds) (forS_ind I step done ds)
theorem lc_ind {b : BD} {ft : FT} {fe : FE} {ρ : Env'} {Q : List D → Mu → Prop} (I : List D → List D → Mu → Prop)
    (step : ∀ d ds acc M, I (d :: ds) acc M → ∃ ρ2, b d ρ = some ρ2 ∧ ∀ k : List D → Mu → Prop, (∀ acc M, I ds acc M → k acc M) → ft xF ρ2 M fun c M1 => if c = true then fe xF ρ2 M1 fun y M2 => acc.length < sizeLine ∧ k (acc ++ [y]) M2 else k acc M1)
    (done : ∀ acc M, I [] acc M → Q acc M) : ∀ (ds acc : List D) (M : Mu), I ds acc M → lcGo b ft fe ρ ds acc M Q
  | [], acc, M, h => done acc M h
  | d :: ds, acc, M, h => by
    obtain ⟨ρ2, h1, h2⟩ := step d ds acc M h
    unfold lcGo
    rw [h1]
    exact h2 (fun acc M => lcGo b ft fe ρ ds acc M Q) (lc_ind I step done ds)
theorem lcS_ind {b : BD} {ft : FT} {fe : FE} {ρ : Env'} {Q : List D → Mu → Prop} (I : List D → List D → Mu → Prop) {ds : List D} {M : Mu} (h : I ds [] M)
    (step : ∀ d ds acc M, I (d :: ds) acc M → ∃ ρ2, b d ρ = some ρ2 ∧ ∀ k : List D → Mu → Prop, (∀ acc M, I ds acc M → k acc M) → ft xF ρ2 M fun c M1 => if c = true then fe xF ρ2 M1 fun y M2 => acc.length < sizeLine ∧ k (acc ++ [y]) M2 else k acc M1)
    (done : ∀ acc M, I [] acc M → Q acc M) : LcS b ft fe ρ ds M (.mk : Ky Q) := lc_ind I step done ds [] M h
theorem seqS {f g : FS} {E : FEnds} {ρ : Env'} {M : Mu} (I : Env' → Mu → Prop) (h1 : ∀ n : Env' → Mu → Prop, (∀ ρ M, I ρ M → n ρ M) → f { E with nx := n } ρ M) (h2 : ∀ ρ M, I ρ M → g E ρ M) : fThen f g E ρ M := h1 (g E) h2
theorem ifCut {b : Bool} {f g : FS} {E : FEnds} {ρ : Env'} {M : Mu} (I : Env' → Mu → Prop) (h1 : ∀ n : Env' → Mu → Prop, (∀ ρ M, I ρ M → n ρ M) → IfS b f g (.mk : Ky { E with nx := n }) ρ M) (h2 : ∀ ρ M, I ρ M → E.nx ρ M) : IfS b f g (.mk : Ky E) ρ M := h1 E.nx h2
theorem whileS {c : FT} {f : FS} {E : FEnds} {ρ : Env'} {M : Mu} (Wn : Nat → Env' → Mu → Prop) (m : Nat) (h : Wn m ρ M)
    (turn : ∀ m ρ M, Wn m ρ M → ∀ n : Env' → Mu → Prop, (∀ m' ρ M, m' < m → Wn m' ρ M → n ρ M) → c (xwAt E ρ) ρ M fun b M1 => IfS b f (fun E ρ M => E.bk ρ M) (.mk : Ky { nx := n, rt := E.rt, bk := E.nx, ct := n, xw := E.xw }) ρ M1) : WhileS c f (.mk : Ky E) ρ M :=
  ⟨Wn, ⟨m, h⟩, fun m ρ M hw => turn m ρ M hw (fun ρ' M' => ∃ m', m' < m ∧ Wn m' ρ' M') fun m' _ _ h1 h2 => ⟨m', h1, h2⟩⟩

/-! ### the state of a drawing -/
def IsSt (M : Mu) (a : Addr) : Prop := ∃ x0 x1 x3 scr, M a = some (.lst [.int x0, .int x1, .lst scr, .int x3]) ∧ 0 ≤ x1 ∧ ∀ d ∈ scr, ∃ i, d = .int i
/-- from M to M' nothing but the state at a was written -/
def Stp (a : Addr) (M M' : Mu) : Prop := (∀ b, b ≠ a → M' b = M b) ∧ IsSt M' a
theorem Stp.trans {a : Addr} {M M1 M2 : Mu} (h : Stp a M M1) (k : Stp a M1 M2) : Stp a M M2 := ⟨fun b hb => (k.1 b hb).trans (h.1 b hb), k.2⟩
theorem Stp.refl {a : Addr} {M : Mu} (h : IsSt M a) : Stp a M M := ⟨fun _ _ => rfl, h⟩
theorem IsSt.ex {a : Addr} {M : Mu} (h : IsSt M a) : ∃ m, M a = some m := by
  obtain ⟨_, _, _, _, e, _⟩ := h
  exact ⟨_, e⟩
theorem IsSt.res {a : Addr} {M M' : Mu} (h : IsSt M' a) (k : ∃ m, M a = some m) : IsSt (mres M' M) a := by
  obtain ⟨x0, x1, x3, scr, e, r⟩ := h
  obtain ⟨m, k⟩ := k
  exact ⟨x0, x1, x3, scr, by unfold mres; rw [k]; exact e, r⟩
theorem Stp.res {a : Addr} {M M' : Mu} (h : Stp a M M') (k : IsSt M a) : Stp a M (mres M' M) := by
  refine ⟨fun b hb => ?_, IsSt.res h.2 k.ex⟩
  unfold mres
  cases e : M b with
  | none => rfl
  | some m => exact (h.1 b hb).trans e
theorem Stp.set {a : Addr} {M : Mu} {m : MO} (h : ∃ x0 x1 x3 scr, m = .lst [.int x0, .int x1, .lst scr, .int x3] ∧ 0 ≤ x1 ∧ ∀ d ∈ scr, ∃ i, d = .int i) : Stp a M (mset M a m) := by
  obtain ⟨x0, x1, x3, scr, rfl, h⟩ := h
  exact ⟨fun b hb => mset_ne hb, x0, x1, x3, scr, mset_same, h⟩
/-- a drawing: what stands behind the state are the arguments; R tells what may come out -/
def Drw (R : List D → D → Prop) (Pre : List D → Prop) : FSpec := fun ds M Q _ => ∃ a rest, ds = .loc a :: rest ∧ Pre rest ∧ IsSt M a ∧ ∀ M' d, R rest d → Stp a M M' → Q d M'
def S_ldraw : FSpec := Drw (fun r d => ∃ n i : Int, r = [.int n] ∧ d = .int i ∧ 0 ≤ i ∧ i < n) fun r => ∃ n : Int, r = [.int n] ∧ 0 < n ∧ n < 1073741824
def N_ldraw : List Str := ["_law_state", "_law_limit", "_law_position", "_law_cell", "_law_mixed", "_law_digit"]
def f_ldraw : FS := fThen (fIfS (fB (fOp gLt (fOp gIx (fNm 0) (fC (.int 0))) (fNm 1))) (fThen (fSet 2 (fOp gIx (fNm 0) (fC (.int 1)))) (fThen (fSetIx (fNm 0) (fC (.int 1)) (fOp gAdd (fNm 2) (fC (.int 1)))) (fThen (fSet 3 (fC (.int 0))) (fThen (fIfS (fB (fOp gLt (fNm 2) (fCB gLen (fCons (fOp gIx (fNm 0) (fC (.int 2))) fNil)))) (fSet 3 (fOp gIx (fOp gIx (fNm 0) (fC (.int 2))) (fNm 2))) fPass) (fIfS (fB (fOp gGe (fNm 3) (fOp gPow (fC (.int 10)) (fC (.int 18))))) (fSetIx (fNm 0) (fC (.int 0)) (fNm 3)) (fThen (fSetIx (fNm 0) (fC (.int 3)) (fOp gMod (fCB gInt (fCons (fOp gMul (fOp gAdd (fOp gAdd (fOp gAdd (fOp gIx (fNm 0) (fC (.int 3))) (fOp gMod (fCB gInt (fCons (fNm 3) fNil)) (fC (.int 2147483629)))) (fNm 2)) (fC (.int 1))) (fC (.int 48271))) fNil)) (fC (.int 2147483647)))) (fThen (fSet 4 (fOp gMod (fCB gInt (fCons (fOp gAdd (fOp gMul (fOp gIx (fNm 0) (fC (.int 3))) (fC (.int 69621))) (fC (.int 11))) fNil)) (fC (.int 2147483629)))) (fSetIx (fNm 0) (fC (.int 0)) (fOp gAdd (fOp gMul (fNm 4) (fC (.int 2147483647))) (fOp gMod (fCB gInt (fCons (fOp gAdd (fOp gMul (fNm 4) (fC (.int 30011))) (fOp gIx (fNm 0) (fC (.int 3)))) fNil)) (fC (.int 2147483587)))))))))))) fPass) (fThen (fSet 5 (fOp gMod (fCB gInt (fCons (fOp gIx (fNm 0) (fC (.int 0))) fNil)) (fNm 1))) (fThen (fSetIx (fNm 0) (fC (.int 0)) (fOp gFdiv (fOp gIx (fNm 0) (fC (.int 0))) (fNm 1))) (fRet (fNm 5))))

theorem b_ldraw (ds : List D) (M : Mu) (Q : D → Mu → Prop) (xw : XW) (h : S_ldraw ds M Q xw) : bodyE N_ldraw f_ldraw ds M Q xw := by
  obtain ⟨a, rest, rfl, ⟨n, rfl, n0, n1⟩, st, post⟩ := h
  have hres : ∀ M' d, (∃ i : Int, d = .int i ∧ 0 ≤ i ∧ i < n) → Stp a M M' → Q d (mres M' M) := fun M' d ⟨i, e, h1, h2⟩ h => post _ _ ⟨n, i, rfl, e, h1, h2⟩ (h.res st)
  obtain ⟨x0, x1, x3, scr, hM, p0, hs⟩ := id st
  have c1 : CMul (x3 + 0 + x1 + 1) 48271 := .inr (by decide)
  have cm : ∀ x y : Int, -(2 ^ 64) < y → y < 2 ^ 64 → CMul x y := fun x y h1 h2 => .inr ⟨h1, h2⟩
  simp only [bodyE, bodyL, startD, N_ldraw, List.map_cons, List.map_nil, List.length_cons, List.length_nil, List.replicate_succ, List.replicate_zero, List.cons_append, List.nil_append, Nat.reduceAdd, Nat.reduceSub]
  unfold f_ldraw
  refine seqS (fun ρ M' => (∃ o2 o3 o4, ρ = [some (.loc a), some (.int n), o2, o3, o4, none]) ∧ Stp a M M') (fun nx hn => ?_) ?_
  · try simp -dsimp only [bodyE, startD, List.map_cons, List.map_nil, List.length_cons, List.length_nil, List.replicate_succ, List.replicate_zero, List.cons_append, List.nil_append, Nat.reduceAdd, Nat.reduceSub, List.set_cons_zero, List.set_cons_succ, List.getElem?_cons_zero, List.getElem?_cons_succ, Bool.not_true, Bool.not_false, decide_true, decide_false, ↓IfS_t, ↓IfS_f, ↓IfE_t, ↓IfE_f, ↓AndT_t, ↓AndT_f, ↓OrT_t, ↓OrT_f, ↓AndV_t, ↓AndV_f, ↓OrV_t, ↓OrV_f, IfS_t, IfS_f, IfE_t, IfE_f, AndT_t, AndT_f, OrT_t, OrT_f, AndV_t, AndV_f, OrV_t, OrV_f, ↓eThen, ↓ePass, ↓eBreak, ↓eCont, ↓eExpr, ↓eRet, ↓eRetN, ↓eIfS, ↓eSet, ↓eOwn, ↓eAsg, ↓eSetIx, ↓eGSetIx, ↓eAug, ↓eIadd, ↓eIaddL, ↓eFrz, ↓eFor, ↓eWhile, ↓eNm, ↓eC, ↓eOp, ↓eB, ↓eTr, ↓eTrB, ↓eTrI, ↓eTrN, ↓eTrT, ↓eTrL, ↓eTrA, ↓eAnd, ↓eOr, ↓eNot, ↓eAndV, ↓eOrV, ↓eNotV, ↓eIf, ↓eNil, ↓eCons, ↓eTup, ↓eOfL, ↓eLstL, ↓eListL, ↓eCatL, ↓eLc, ↓eWipe0, ↓eWipe, ↓eSeq, ↓eRng1, ↓eRng2, ↓eCall, ↓eCallL, ↓eRetL, ↓eSrt, ↓eSrtU, ↓eCB, ↓eNeg, ↓eChain, ↓eAppend, ↓ePop, ↓eNo, ↓eSome, ↓eSl, ↓eAnyG, ↓eAllG, ↓eZip, ↓eZip3, ↓gIsC_, tyN_t, tyN_l, tyN_n, tyN_b, tyN_i, seqP_t, seqP_l, ↓eEn1, ↓eEn2, ↓eSeqA, ↓ePar, ↓gAnyL_, ↓gAllL_, ↓gSumL_, boolsD_map, intsD_map, ↓gSl_t, ↓gSl_l, ↓gSl_a, ↓gAdd_i, ↓gAdd_t, ↓gAdd_s, ↓gAdd_l, ↓gI0_i, ↓gI_i, ↓gMul_i, ↓gMul_t, ↓gEq_, ↓gNe_, ↓gIs_n, ↓gIs_b, ↓gIsNot_n, ↓gIsNot_b, ↓gIn_, ↓gNotIn_, ↓gIx_t, ↓gIx_l, ↓gIx_a, ↓gLen_, ↓gLen_l, ↓gLen_a, ↓gInt_, ↓gInt_b, ↓gTuple_, ↓gTuple_l, ↓gTuple_a, ↓gMax_, ↓gMin_, ↓gIsBool_b, ↓gIsBool_i, seqOf_t, seqOf_l, seqOf_a, lstOf_l, lstOf_a, rsv_i, rsv_b, rsv_s, rsv_n, rsv_t, rsv_l, dle_i, dle_b, dle_n, eqD_i, eqD_b, isNon, bNm_, bTup_, bCons_, bNil_, Option.bind_some, i40, i41, i42, i43, atI0, atI1, atI2, atI3, atI4, atI5, mset_same, true_and, beq_self_eq_true, Bool.false_eq_true, c0, c1, Int.cast_ofNat_Int, Int.reduceEq, Int.reduceLT, Int.reduceLE, Int.reduceAdd, Int.reduceSub, ↓reduceIte, hM]
    refine IfS_mk (fun hlt => ?_) fun hge => ?_
    · try simp -dsimp only [bodyE, startD, List.map_cons, List.map_nil, List.length_cons, List.length_nil, List.replicate_succ, List.replicate_zero, List.cons_append, List.nil_append, Nat.reduceAdd, Nat.reduceSub, List.set_cons_zero, List.set_cons_succ, List.getElem?_cons_zero, List.getElem?_cons_succ, Bool.not_true, Bool.not_false, decide_true, decide_false, ↓IfS_t, ↓IfS_f, ↓IfE_t, ↓IfE_f, ↓AndT_t, ↓AndT_f, ↓OrT_t, ↓OrT_f, ↓AndV_t, ↓AndV_f, ↓OrV_t, ↓OrV_f, IfS_t, IfS_f, IfE_t, IfE_f, AndT_t, AndT_f, OrT_t, OrT_f, AndV_t, AndV_f, OrV_t, OrV_f, ↓eThen, ↓ePass, ↓eBreak, ↓eCont, ↓eExpr, ↓eRet, ↓eRetN, ↓eIfS, ↓eSet, ↓eOwn, ↓eAsg, ↓eSetIx, ↓eGSetIx, ↓eAug, ↓eIadd, ↓eIaddL, ↓eFrz, ↓eFor, ↓eWhile, ↓eNm, ↓eC, ↓eOp, ↓eB, ↓eTr, ↓eTrB, ↓eTrI, ↓eTrN, ↓eTrT, ↓eTrL, ↓eTrA, ↓eAnd, ↓eOr, ↓eNot, ↓eAndV, ↓eOrV, ↓eNotV, ↓eIf, ↓eNil, ↓eCons, ↓eTup, ↓eOfL, ↓eLstL, ↓eListL, ↓eCatL, ↓eLc, ↓eWipe0, ↓eWipe, ↓eSeq, ↓eRng1, ↓eRng2, ↓eCall, ↓eCallL, ↓eRetL, ↓eSrt, ↓eSrtU, ↓eCB, ↓eNeg, ↓eChain, ↓eAppend, ↓ePop, ↓eNo, ↓eSome, ↓eSl, ↓eAnyG, ↓eAllG, ↓eZip, ↓eZip3, ↓gIsC_, tyN_t, tyN_l, tyN_n, tyN_b, tyN_i, seqP_t, seqP_l, ↓eEn1, ↓eEn2, ↓eSeqA, ↓ePar, ↓gAnyL_, ↓gAllL_, ↓gSumL_, boolsD_map, intsD_map, ↓gSl_t, ↓gSl_l, ↓gSl_a, ↓gAdd_i, ↓gAdd_t, ↓gAdd_s, ↓gAdd_l, ↓gI0_i, ↓gI_i, ↓gMul_i, ↓gMul_t, ↓gEq_, ↓gNe_, ↓gIs_n, ↓gIs_b, ↓gIsNot_n, ↓gIsNot_b, ↓gIn_, ↓gNotIn_, ↓gIx_t, ↓gIx_l, ↓gIx_a, ↓gLen_, ↓gLen_l, ↓gLen_a, ↓gInt_, ↓gInt_b, ↓gTuple_, ↓gTuple_l, ↓gTuple_a, ↓gMax_, ↓gMin_, ↓gIsBool_b, ↓gIsBool_i, seqOf_t, seqOf_l, seqOf_a, lstOf_l, lstOf_a, rsv_i, rsv_b, rsv_s, rsv_n, rsv_t, rsv_l, dle_i, dle_b, dle_n, eqD_i, eqD_b, isNon, bNm_, bTup_, bCons_, bNil_, Option.bind_some, i40, i41, i42, i43, atI0, atI1, atI2, atI3, atI4, atI5, mset_same, true_and, beq_self_eq_true, Bool.false_eq_true, c0, c1, Int.cast_ofNat_Int, Int.reduceEq, Int.reduceLT, Int.reduceLE, Int.reduceAdd, Int.reduceSub, ↓reduceIte, hM]
      refine ifCut (fun ρ M' => (∃ z : Int, ρ = [some (.loc a), some (.int n), some (.int x1), some (.int z), none, none]) ∧ M' = mset M a (.lst [.int x0, .int (x1 + 1), .lst scr, .int x3])) (fun nx2 hn2 => ?_) ?_
      · refine IfS_mk (fun hp => ?_) fun hp => ?_
        · try simp -dsimp only [bodyE, startD, List.map_cons, List.map_nil, List.length_cons, List.length_nil, List.replicate_succ, List.replicate_zero, List.cons_append, List.nil_append, Nat.reduceAdd, Nat.reduceSub, List.set_cons_zero, List.set_cons_succ, List.getElem?_cons_zero, List.getElem?_cons_succ, Bool.not_true, Bool.not_false, decide_true, decide_false, ↓IfS_t, ↓IfS_f, ↓IfE_t, ↓IfE_f, ↓AndT_t, ↓AndT_f, ↓OrT_t, ↓OrT_f, ↓AndV_t, ↓AndV_f, ↓OrV_t, ↓OrV_f, IfS_t, IfS_f, IfE_t, IfE_f, AndT_t, AndT_f, OrT_t, OrT_f, AndV_t, AndV_f, OrV_t, OrV_f, ↓eThen, ↓ePass, ↓eBreak, ↓eCont, ↓eExpr, ↓eRet, ↓eRetN, ↓eIfS, ↓eSet, ↓eOwn, ↓eAsg, ↓eSetIx, ↓eGSetIx, ↓eAug, ↓eIadd, ↓eIaddL, ↓eFrz, ↓eFor, ↓eWhile, ↓eNm, ↓eC, ↓eOp, ↓eB, ↓eTr, ↓eTrB, ↓eTrI, ↓eTrN, ↓eTrT, ↓eTrL, ↓eTrA, ↓eAnd, ↓eOr, ↓eNot, ↓eAndV, ↓eOrV, ↓eNotV, ↓eIf, ↓eNil, ↓eCons, ↓eTup, ↓eOfL, ↓eLstL, ↓eListL, ↓eCatL, ↓eLc, ↓eWipe0, ↓eWipe, ↓eSeq, ↓eRng1, ↓eRng2, ↓eCall, ↓eCallL, ↓eRetL, ↓eSrt, ↓eSrtU, ↓eCB, ↓eNeg, ↓eChain, ↓eAppend, ↓ePop, ↓eNo, ↓eSome, ↓eSl, ↓eAnyG, ↓eAllG, ↓eZip, ↓eZip3, ↓gIsC_, tyN_t, tyN_l, tyN_n, tyN_b, tyN_i, seqP_t, seqP_l, ↓eEn1, ↓eEn2, ↓eSeqA, ↓ePar, ↓gAnyL_, ↓gAllL_, ↓gSumL_, boolsD_map, intsD_map, ↓gSl_t, ↓gSl_l, ↓gSl_a, ↓gAdd_i, ↓gAdd_t, ↓gAdd_s, ↓gAdd_l, ↓gI0_i, ↓gI_i, ↓gMul_i, ↓gMul_t, ↓gEq_, ↓gNe_, ↓gIs_n, ↓gIs_b, ↓gIsNot_n, ↓gIsNot_b, ↓gIn_, ↓gNotIn_, ↓gIx_t, ↓gIx_l, ↓gIx_a, ↓gLen_, ↓gLen_l, ↓gLen_a, ↓gInt_, ↓gInt_b, ↓gTuple_, ↓gTuple_l, ↓gTuple_a, ↓gMax_, ↓gMin_, ↓gIsBool_b, ↓gIsBool_i, seqOf_t, seqOf_l, seqOf_a, lstOf_l, lstOf_a, rsv_i, rsv_b, rsv_s, rsv_n, rsv_t, rsv_l, dle_i, dle_b, dle_n, eqD_i, eqD_b, isNon, bNm_, bTup_, bCons_, bNil_, Option.bind_some, i40, i41, i42, i43, atI0, atI1, atI2, atI3, atI4, atI5, mset_same, true_and, beq_self_eq_true, Bool.false_eq_true, c0, c1, Int.cast_ofNat_Int, Int.reduceEq, Int.reduceLT, Int.reduceLE, Int.reduceAdd, Int.reduceSub, ↓reduceIte]
          have hp' : x1 < scr.length := of_decide_eq_true hp
          have hlt : x1.toNat < scr.length := by omega
          obtain ⟨z, ez⟩ := hs _ (List.getElem_mem hlt)
          have e2 : atI scr x1 = some (.int z) := by rw [atI_nat p0 hp', List.getElem?_eq_getElem hlt, ez]
          rw [e2]
          exact hn2 _ _ ⟨⟨z, rfl⟩, rfl⟩
        · try simp -dsimp only [bodyE, startD, List.map_cons, List.map_nil, List.length_cons, List.length_nil, List.replicate_succ, List.replicate_zero, List.cons_append, List.nil_append, Nat.reduceAdd, Nat.reduceSub, List.set_cons_zero, List.set_cons_succ, List.getElem?_cons_zero, List.getElem?_cons_succ, Bool.not_true, Bool.not_false, decide_true, decide_false, ↓IfS_t, ↓IfS_f, ↓IfE_t, ↓IfE_f, ↓AndT_t, ↓AndT_f, ↓OrT_t, ↓OrT_f, ↓AndV_t, ↓AndV_f, ↓OrV_t, ↓OrV_f, IfS_t, IfS_f, IfE_t, IfE_f, AndT_t, AndT_f, OrT_t, OrT_f, AndV_t, AndV_f, OrV_t, OrV_f, ↓eThen, ↓ePass, ↓eBreak, ↓eCont, ↓eExpr, ↓eRet, ↓eRetN, ↓eIfS, ↓eSet, ↓eOwn, ↓eAsg, ↓eSetIx, ↓eGSetIx, ↓eAug, ↓eIadd, ↓eIaddL, ↓eFrz, ↓eFor, ↓eWhile, ↓eNm, ↓eC, ↓eOp, ↓eB, ↓eTr, ↓eTrB, ↓eTrI, ↓eTrN, ↓eTrT, ↓eTrL, ↓eTrA, ↓eAnd, ↓eOr, ↓eNot, ↓eAndV, ↓eOrV, ↓eNotV, ↓eIf, ↓eNil, ↓eCons, ↓eTup, ↓eOfL, ↓eLstL, ↓eListL, ↓eCatL, ↓eLc, ↓eWipe0, ↓eWipe, ↓eSeq, ↓eRng1, ↓eRng2, ↓eCall, ↓eCallL, ↓eRetL, ↓eSrt, ↓eSrtU, ↓eCB, ↓eNeg, ↓eChain, ↓eAppend, ↓ePop, ↓eNo, ↓eSome, ↓eSl, ↓eAnyG, ↓eAllG, ↓eZip, ↓eZip3, ↓gIsC_, tyN_t, tyN_l, tyN_n, tyN_b, tyN_i, seqP_t, seqP_l, ↓eEn1, ↓eEn2, ↓eSeqA, ↓ePar, ↓gAnyL_, ↓gAllL_, ↓gSumL_, boolsD_map, intsD_map, ↓gSl_t, ↓gSl_l, ↓gSl_a, ↓gAdd_i, ↓gAdd_t, ↓gAdd_s, ↓gAdd_l, ↓gI0_i, ↓gI_i, ↓gMul_i, ↓gMul_t, ↓gEq_, ↓gNe_, ↓gIs_n, ↓gIs_b, ↓gIsNot_n, ↓gIsNot_b, ↓gIn_, ↓gNotIn_, ↓gIx_t, ↓gIx_l, ↓gIx_a, ↓gLen_, ↓gLen_l, ↓gLen_a, ↓gInt_, ↓gInt_b, ↓gTuple_, ↓gTuple_l, ↓gTuple_a, ↓gMax_, ↓gMin_, ↓gIsBool_b, ↓gIsBool_i, seqOf_t, seqOf_l, seqOf_a, lstOf_l, lstOf_a, rsv_i, rsv_b, rsv_s, rsv_n, rsv_t, rsv_l, dle_i, dle_b, dle_n, eqD_i, eqD_b, isNon, bNm_, bTup_, bCons_, bNil_, Option.bind_some, i40, i41, i42, i43, atI0, atI1, atI2, atI3, atI4, atI5, mset_same, true_and, beq_self_eq_true, Bool.false_eq_true, c0, c1, Int.cast_ofNat_Int, Int.reduceEq, Int.reduceLT, Int.reduceLE, Int.reduceAdd, Int.reduceSub, ↓reduceIte]
          exact hn2 _ _ ⟨⟨0, rfl⟩, rfl⟩
      · rintro ρ M' ⟨⟨z, rfl⟩, rfl⟩
        try simp -dsimp only [bodyE, startD, List.map_cons, List.map_nil, List.length_cons, List.length_nil, List.replicate_succ, List.replicate_zero, List.cons_append, List.nil_append, Nat.reduceAdd, Nat.reduceSub, List.set_cons_zero, List.set_cons_succ, List.getElem?_cons_zero, List.getElem?_cons_succ, Bool.not_true, Bool.not_false, decide_true, decide_false, ↓IfS_t, ↓IfS_f, ↓IfE_t, ↓IfE_f, ↓AndT_t, ↓AndT_f, ↓OrT_t, ↓OrT_f, ↓AndV_t, ↓AndV_f, ↓OrV_t, ↓OrV_f, IfS_t, IfS_f, IfE_t, IfE_f, AndT_t, AndT_f, OrT_t, OrT_f, AndV_t, AndV_f, OrV_t, OrV_f, ↓eThen, ↓ePass, ↓eBreak, ↓eCont, ↓eExpr, ↓eRet, ↓eRetN, ↓eIfS, ↓eSet, ↓eOwn, ↓eAsg, ↓eSetIx, ↓eGSetIx, ↓eAug, ↓eIadd, ↓eIaddL, ↓eFrz, ↓eFor, ↓eWhile, ↓eNm, ↓eC, ↓eOp, ↓eB, ↓eTr, ↓eTrB, ↓eTrI, ↓eTrN, ↓eTrT, ↓eTrL, ↓eTrA, ↓eAnd, ↓eOr, ↓eNot, ↓eAndV, ↓eOrV, ↓eNotV, ↓eIf, ↓eNil, ↓eCons, ↓eTup, ↓eOfL, ↓eLstL, ↓eListL, ↓eCatL, ↓eLc, ↓eWipe0, ↓eWipe, ↓eSeq, ↓eRng1, ↓eRng2, ↓eCall, ↓eCallL, ↓eRetL, ↓eSrt, ↓eSrtU, ↓eCB, ↓eNeg, ↓eChain, ↓eAppend, ↓ePop, ↓eNo, ↓eSome, ↓eSl, ↓eAnyG, ↓eAllG, ↓eZip, ↓eZip3, ↓gIsC_, tyN_t, tyN_l, tyN_n, tyN_b, tyN_i, seqP_t, seqP_l, ↓eEn1, ↓eEn2, ↓eSeqA, ↓ePar, ↓gAnyL_, ↓gAllL_, ↓gSumL_, boolsD_map, intsD_map, ↓gSl_t, ↓gSl_l, ↓gSl_a, ↓gAdd_i, ↓gAdd_t, ↓gAdd_s, ↓gAdd_l, ↓gI0_i, ↓gI_i, ↓gMul_i, ↓gMul_t, ↓gEq_, ↓gNe_, ↓gIs_n, ↓gIs_b, ↓gIsNot_n, ↓gIsNot_b, ↓gIn_, ↓gNotIn_, ↓gIx_t, ↓gIx_l, ↓gIx_a, ↓gLen_, ↓gLen_l, ↓gLen_a, ↓gInt_, ↓gInt_b, ↓gTuple_, ↓gTuple_l, ↓gTuple_a, ↓gMax_, ↓gMin_, ↓gIsBool_b, ↓gIsBool_i, seqOf_t, seqOf_l, seqOf_a, lstOf_l, lstOf_a, rsv_i, rsv_b, rsv_s, rsv_n, rsv_t, rsv_l, dle_i, dle_b, dle_n, eqD_i, eqD_b, isNon, bNm_, bTup_, bCons_, bNil_, Option.bind_some, i40, i41, i42, i43, atI0, atI1, atI2, atI3, atI4, atI5, mset_same, true_and, beq_self_eq_true, Bool.false_eq_true, c0, c1, Int.cast_ofNat_Int, Int.reduceEq, Int.reduceLT, Int.reduceLE, Int.reduceAdd, Int.reduceSub, ↓reduceIte]
        refine ⟨⟨by decide, by decide, by decide⟩, IfS_mk (fun hz => ?_) fun hz => ?_⟩
        · try simp -dsimp only [bodyE, startD, List.map_cons, List.map_nil, List.length_cons, List.length_nil, List.replicate_succ, List.replicate_zero, List.cons_append, List.nil_append, Nat.reduceAdd, Nat.reduceSub, List.set_cons_zero, List.set_cons_succ, List.getElem?_cons_zero, List.getElem?_cons_succ, Bool.not_true, Bool.not_false, decide_true, decide_false, ↓IfS_t, ↓IfS_f, ↓IfE_t, ↓IfE_f, ↓AndT_t, ↓AndT_f, ↓OrT_t, ↓OrT_f, ↓AndV_t, ↓AndV_f, ↓OrV_t, ↓OrV_f, IfS_t, IfS_f, IfE_t, IfE_f, AndT_t, AndT_f, OrT_t, OrT_f, AndV_t, AndV_f, OrV_t, OrV_f, ↓eThen, ↓ePass, ↓eBreak, ↓eCont, ↓eExpr, ↓eRet, ↓eRetN, ↓eIfS, ↓eSet, ↓eOwn, ↓eAsg, ↓eSetIx, ↓eGSetIx, ↓eAug, ↓eIadd, ↓eIaddL, ↓eFrz, ↓eFor, ↓eWhile, ↓eNm, ↓eC, ↓eOp, ↓eB, ↓eTr, ↓eTrB, ↓eTrI, ↓eTrN, ↓eTrT, ↓eTrL, ↓eTrA, ↓eAnd, ↓eOr, ↓eNot, ↓eAndV, ↓eOrV, ↓eNotV, ↓eIf, ↓eNil, ↓eCons, ↓eTup, ↓eOfL, ↓eLstL, ↓eListL, ↓eCatL, ↓eLc, ↓eWipe0, ↓eWipe, ↓eSeq, ↓eRng1, ↓eRng2, ↓eCall, ↓eCallL, ↓eRetL, ↓eSrt, ↓eSrtU, ↓eCB, ↓eNeg, ↓eChain, ↓eAppend, ↓ePop, ↓eNo, ↓eSome, ↓eSl, ↓eAnyG, ↓eAllG, ↓eZip, ↓eZip3, ↓gIsC_, tyN_t, tyN_l, tyN_n, tyN_b, tyN_i, seqP_t, seqP_l, ↓eEn1, ↓eEn2, ↓eSeqA, ↓ePar, ↓gAnyL_, ↓gAllL_, ↓gSumL_, boolsD_map, intsD_map, ↓gSl_t, ↓gSl_l, ↓gSl_a, ↓gAdd_i, ↓gAdd_t, ↓gAdd_s, ↓gAdd_l, ↓gI0_i, ↓gI_i, ↓gMul_i, ↓gMul_t, ↓gEq_, ↓gNe_, ↓gIs_n, ↓gIs_b, ↓gIsNot_n, ↓gIsNot_b, ↓gIn_, ↓gNotIn_, ↓gIx_t, ↓gIx_l, ↓gIx_a, ↓gLen_, ↓gLen_l, ↓gLen_a, ↓gInt_, ↓gInt_b, ↓gTuple_, ↓gTuple_l, ↓gTuple_a, ↓gMax_, ↓gMin_, ↓gIsBool_b, ↓gIsBool_i, seqOf_t, seqOf_l, seqOf_a, lstOf_l, lstOf_a, rsv_i, rsv_b, rsv_s, rsv_n, rsv_t, rsv_l, dle_i, dle_b, dle_n, eqD_i, eqD_b, isNon, bNm_, bTup_, bCons_, bNil_, Option.bind_some, i40, i41, i42, i43, atI0, atI1, atI2, atI3, atI4, atI5, mset_same, true_and, beq_self_eq_true, Bool.false_eq_true, c0, c1, Int.cast_ofNat_Int, Int.reduceEq, Int.reduceLT, Int.reduceLE, Int.reduceAdd, Int.reduceSub, ↓reduceIte]
          exact hn _ _ ⟨⟨_, _, _, rfl⟩, by rw [mset_mset]; exact .set ⟨_, _, _, _, rfl, by omega, hs⟩⟩
        · try simp -dsimp only [bodyE, startD, List.map_cons, List.map_nil, List.length_cons, List.length_nil, List.replicate_succ, List.replicate_zero, List.cons_append, List.nil_append, Nat.reduceAdd, Nat.reduceSub, List.set_cons_zero, List.set_cons_succ, List.getElem?_cons_zero, List.getElem?_cons_succ, Bool.not_true, Bool.not_false, decide_true, decide_false, ↓IfS_t, ↓IfS_f, ↓IfE_t, ↓IfE_f, ↓AndT_t, ↓AndT_f, ↓OrT_t, ↓OrT_f, ↓AndV_t, ↓AndV_f, ↓OrV_t, ↓OrV_f, IfS_t, IfS_f, IfE_t, IfE_f, AndT_t, AndT_f, OrT_t, OrT_f, AndV_t, AndV_f, OrV_t, OrV_f, ↓eThen, ↓ePass, ↓eBreak, ↓eCont, ↓eExpr, ↓eRet, ↓eRetN, ↓eIfS, ↓eSet, ↓eOwn, ↓eAsg, ↓eSetIx, ↓eGSetIx, ↓eAug, ↓eIadd, ↓eIaddL, ↓eFrz, ↓eFor, ↓eWhile, ↓eNm, ↓eC, ↓eOp, ↓eB, ↓eTr, ↓eTrB, ↓eTrI, ↓eTrN, ↓eTrT, ↓eTrL, ↓eTrA, ↓eAnd, ↓eOr, ↓eNot, ↓eAndV, ↓eOrV, ↓eNotV, ↓eIf, ↓eNil, ↓eCons, ↓eTup, ↓eOfL, ↓eLstL, ↓eListL, ↓eCatL, ↓eLc, ↓eWipe0, ↓eWipe, ↓eSeq, ↓eRng1, ↓eRng2, ↓eCall, ↓eCallL, ↓eRetL, ↓eSrt, ↓eSrtU, ↓eCB, ↓eNeg, ↓eChain, ↓eAppend, ↓ePop, ↓eNo, ↓eSome, ↓eSl, ↓eAnyG, ↓eAllG, ↓eZip, ↓eZip3, ↓gIsC_, tyN_t, tyN_l, tyN_n, tyN_b, tyN_i, seqP_t, seqP_l, ↓eEn1, ↓eEn2, ↓eSeqA, ↓ePar, ↓gAnyL_, ↓gAllL_, ↓gSumL_, boolsD_map, intsD_map, ↓gSl_t, ↓gSl_l, ↓gSl_a, ↓gAdd_i, ↓gAdd_t, ↓gAdd_s, ↓gAdd_l, ↓gI0_i, ↓gI_i, ↓gMul_i, ↓gMul_t, ↓gEq_, ↓gNe_, ↓gIs_n, ↓gIs_b, ↓gIsNot_n, ↓gIsNot_b, ↓gIn_, ↓gNotIn_, ↓gIx_t, ↓gIx_l, ↓gIx_a, ↓gLen_, ↓gLen_l, ↓gLen_a, ↓gInt_, ↓gInt_b, ↓gTuple_, ↓gTuple_l, ↓gTuple_a, ↓gMax_, ↓gMin_, ↓gIsBool_b, ↓gIsBool_i, seqOf_t, seqOf_l, seqOf_a, lstOf_l, lstOf_a, rsv_i, rsv_b, rsv_s, rsv_n, rsv_t, rsv_l, dle_i, dle_b, dle_n, eqD_i, eqD_b, isNon, bNm_, bTup_, bCons_, bNil_, Option.bind_some, i40, i41, i42, i43, atI0, atI1, atI2, atI3, atI4, atI5, mset_same, true_and, beq_self_eq_true, Bool.false_eq_true, c0, c1, Int.cast_ofNat_Int, Int.reduceEq, Int.reduceLT, Int.reduceLE, Int.reduceAdd, Int.reduceSub, ↓reduceIte]
          refine ⟨.inl (cm _ _ (by decide) (by decide)), .inl (cm _ _ (by decide) (by decide)), .inl (cm _ _ (by decide) (by decide)), .inl (cm _ _ (by decide) (by decide)), ?_⟩
          exact hn _ _ ⟨⟨_, _, _, rfl⟩, by rw [mset_mset, mset_mset]; exact .set ⟨_, _, _, _, rfl, by omega, hs⟩⟩
    · try simp -dsimp only [bodyE, startD, List.map_cons, List.map_nil, List.length_cons, List.length_nil, List.replicate_succ, List.replicate_zero, List.cons_append, List.nil_append, Nat.reduceAdd, Nat.reduceSub, List.set_cons_zero, List.set_cons_succ, List.getElem?_cons_zero, List.getElem?_cons_succ, Bool.not_true, Bool.not_false, decide_true, decide_false, ↓IfS_t, ↓IfS_f, ↓IfE_t, ↓IfE_f, ↓AndT_t, ↓AndT_f, ↓OrT_t, ↓OrT_f, ↓AndV_t, ↓AndV_f, ↓OrV_t, ↓OrV_f, IfS_t, IfS_f, IfE_t, IfE_f, AndT_t, AndT_f, OrT_t, OrT_f, AndV_t, AndV_f, OrV_t, OrV_f, ↓eThen, ↓ePass, ↓eBreak, ↓eCont, ↓eExpr, ↓eRet, ↓eRetN, ↓eIfS, ↓eSet, ↓eOwn, ↓eAsg, ↓eSetIx, ↓eGSetIx, ↓eAug, ↓eIadd, ↓eIaddL, ↓eFrz, ↓eFor, ↓eWhile, ↓eNm, ↓eC, ↓eOp, ↓eB, ↓eTr, ↓eTrB, ↓eTrI, ↓eTrN, ↓eTrT, ↓eTrL, ↓eTrA, ↓eAnd, ↓eOr, ↓eNot, ↓eAndV, ↓eOrV, ↓eNotV, ↓eIf, ↓eNil, ↓eCons, ↓eTup, ↓eOfL, ↓eLstL, ↓eListL, ↓eCatL, ↓eLc, ↓eWipe0, ↓eWipe, ↓eSeq, ↓eRng1, ↓eRng2, ↓eCall, ↓eCallL, ↓eRetL, ↓eSrt, ↓eSrtU, ↓eCB, ↓eNeg, ↓eChain, ↓eAppend, ↓ePop, ↓eNo, ↓eSome, ↓eSl, ↓eAnyG, ↓eAllG, ↓eZip, ↓eZip3, ↓gIsC_, tyN_t, tyN_l, tyN_n, tyN_b, tyN_i, seqP_t, seqP_l, ↓eEn1, ↓eEn2, ↓eSeqA, ↓ePar, ↓gAnyL_, ↓gAllL_, ↓gSumL_, boolsD_map, intsD_map, ↓gSl_t, ↓gSl_l, ↓gSl_a, ↓gAdd_i, ↓gAdd_t, ↓gAdd_s, ↓gAdd_l, ↓gI0_i, ↓gI_i, ↓gMul_i, ↓gMul_t, ↓gEq_, ↓gNe_, ↓gIs_n, ↓gIs_b, ↓gIsNot_n, ↓gIsNot_b, ↓gIn_, ↓gNotIn_, ↓gIx_t, ↓gIx_l, ↓gIx_a, ↓gLen_, ↓gLen_l, ↓gLen_a, ↓gInt_, ↓gInt_b, ↓gTuple_, ↓gTuple_l, ↓gTuple_a, ↓gMax_, ↓gMin_, ↓gIsBool_b, ↓gIsBool_i, seqOf_t, seqOf_l, seqOf_a, lstOf_l, lstOf_a, rsv_i, rsv_b, rsv_s, rsv_n, rsv_t, rsv_l, dle_i, dle_b, dle_n, eqD_i, eqD_b, isNon, bNm_, bTup_, bCons_, bNil_, Option.bind_some, i40, i41, i42, i43, atI0, atI1, atI2, atI3, atI4, atI5, mset_same, true_and, beq_self_eq_true, Bool.false_eq_true, c0, c1, Int.cast_ofNat_Int, Int.reduceEq, Int.reduceLT, Int.reduceLE, Int.reduceAdd, Int.reduceSub, ↓reduceIte]
      exact hn _ _ ⟨⟨_, _, _, rfl⟩, .refl st⟩
  · rintro ρ M' ⟨⟨o2, o3, o4, rfl⟩, h1⟩
    obtain ⟨y0, y1, y3, scr', hM', _, _⟩ := id h1.2
    try simp -dsimp only [bodyE, startD, List.map_cons, List.map_nil, List.length_cons, List.length_nil, List.replicate_succ, List.replicate_zero, List.cons_append, List.nil_append, Nat.reduceAdd, Nat.reduceSub, List.set_cons_zero, List.set_cons_succ, List.getElem?_cons_zero, List.getElem?_cons_succ, Bool.not_true, Bool.not_false, decide_true, decide_false, ↓IfS_t, ↓IfS_f, ↓IfE_t, ↓IfE_f, ↓AndT_t, ↓AndT_f, ↓OrT_t, ↓OrT_f, ↓AndV_t, ↓AndV_f, ↓OrV_t, ↓OrV_f, IfS_t, IfS_f, IfE_t, IfE_f, AndT_t, AndT_f, OrT_t, OrT_f, AndV_t, AndV_f, OrV_t, OrV_f, ↓eThen, ↓ePass, ↓eBreak, ↓eCont, ↓eExpr, ↓eRet, ↓eRetN, ↓eIfS, ↓eSet, ↓eOwn, ↓eAsg, ↓eSetIx, ↓eGSetIx, ↓eAug, ↓eIadd, ↓eIaddL, ↓eFrz, ↓eFor, ↓eWhile, ↓eNm, ↓eC, ↓eOp, ↓eB, ↓eTr, ↓eTrB, ↓eTrI, ↓eTrN, ↓eTrT, ↓eTrL, ↓eTrA, ↓eAnd, ↓eOr, ↓eNot, ↓eAndV, ↓eOrV, ↓eNotV, ↓eIf, ↓eNil, ↓eCons, ↓eTup, ↓eOfL, ↓eLstL, ↓eListL, ↓eCatL, ↓eLc, ↓eWipe0, ↓eWipe, ↓eSeq, ↓eRng1, ↓eRng2, ↓eCall, ↓eCallL, ↓eRetL, ↓eSrt, ↓eSrtU, ↓eCB, ↓eNeg, ↓eChain, ↓eAppend, ↓ePop, ↓eNo, ↓eSome, ↓eSl, ↓eAnyG, ↓eAllG, ↓eZip, ↓eZip3, ↓gIsC_, tyN_t, tyN_l, tyN_n, tyN_b, tyN_i, seqP_t, seqP_l, ↓eEn1, ↓eEn2, ↓eSeqA, ↓ePar, ↓gAnyL_, ↓gAllL_, ↓gSumL_, boolsD_map, intsD_map, ↓gSl_t, ↓gSl_l, ↓gSl_a, ↓gAdd_i, ↓gAdd_t, ↓gAdd_s, ↓gAdd_l, ↓gI0_i, ↓gI_i, ↓gMul_i, ↓gMul_t, ↓gEq_, ↓gNe_, ↓gIs_n, ↓gIs_b, ↓gIsNot_n, ↓gIsNot_b, ↓gIn_, ↓gNotIn_, ↓gIx_t, ↓gIx_l, ↓gIx_a, ↓gLen_, ↓gLen_l, ↓gLen_a, ↓gInt_, ↓gInt_b, ↓gTuple_, ↓gTuple_l, ↓gTuple_a, ↓gMax_, ↓gMin_, ↓gIsBool_b, ↓gIsBool_i, seqOf_t, seqOf_l, seqOf_a, lstOf_l, lstOf_a, rsv_i, rsv_b, rsv_s, rsv_n, rsv_t, rsv_l, dle_i, dle_b, dle_n, eqD_i, eqD_b, isNon, bNm_, bTup_, bCons_, bNil_, Option.bind_some, i40, i41, i42, i43, atI0, atI1, atI2, atI3, atI4, atI5, mset_same, true_and, beq_self_eq_true, Bool.false_eq_true, c0, c1, Int.cast_ofNat_Int, Int.reduceEq, Int.reduceLT, Int.reduceLE, Int.reduceAdd, Int.reduceSub, ↓reduceIte, hM']
    have l9 : n.natAbs.log2 < 9000 := by
      have : n.natAbs < 2 ^ 30 := by omega
      exact Nat.lt_of_lt_of_le ((Nat.log2_lt (by omega)).mpr this) (by decide)
    refine ⟨n0, ⟨n0, l9⟩, ?_⟩
    refine hres _ _ ⟨_, rfl, Int.emod_nonneg _ (by omega), Int.emod_lt_of_pos _ n0⟩ (h1.trans (.set ⟨_, _, _, _, rfl, ?_, ?_⟩)) <;> assumption
end U

set_option Elab.async false
set_option linter.all false
set_option maxRecDepth 100000
set_option maxHeartbeats 1000000
/-! V3: lists that are drawn; words, patterns. -/
namespace U
open PySem PySem.Spec PyProof.Rows L2

theorem enc_of {α : Type} {enc : α → D} {P : α → Prop} : ∀ ys : List D, (∀ y ∈ ys, ∃ x, y = enc x ∧ P x) → ∃ xs : List α, ys = xs.map enc ∧ ∀ x ∈ xs, P x
  | [], _ => ⟨[], rfl, fun _ h => by cases h⟩
  | y :: ys, h => by
    obtain ⟨x, rfl, hx⟩ := h y List.mem_cons_self
    obtain ⟨xs, rfl, hxs⟩ := enc_of ys fun z hz => h z (List.mem_cons_of_mem _ hz)
    exact ⟨x :: xs, rfl, fun z hz => (List.mem_cons.mp hz).elim (fun e => e ▸ hx) (hxs z)⟩
theorem rngD_length {lo : Int} {n : Nat} : (rngD lo n).length = n := by unfold rngD; rw [List.length_map, List.length_range]
theorem rngD_mem {lo : Int} {n : Nat} {d : D} (h : d ∈ rngD lo n) : ∃ i : Int, d = .int i ∧ lo ≤ i ∧ i < lo + n := by
  unfold rngD at h
  obtain ⟨k, h1, rfl⟩ := List.mem_map.mp h
  have := List.mem_range.mp h1
  exact ⟨_, rfl, by omega, by omega⟩
section
variable {a : Addr} {M : Mu} {xw : XW} {Q : D → Mu → Prop} {QL : List D → Mu → Prop}
theorem drw_call {R : List D → D → Prop} {Pre : List D → Prop} {rest : List D} (h : IsSt M a) (hp : Pre rest) (k : ∀ M' d, R rest d → Stp a M M' → Q d M') : CallS (Drw R Pre) (.loc a :: rest) M xw (.mk : Ky Q) := ⟨a, rest, rfl, hp, h, k⟩
theorem draw_call {n : Int} (h : IsSt M a) (h0 : 0 < n) (h1 : n < 1073741824) (k : ∀ M' (i : Int), 0 ≤ i → i < n → Stp a M M' → Q (.int i) M') : CallS S_ldraw [.loc a, .int n] M xw (.mk : Ky Q) :=
  drw_call h ⟨n, rfl, h0, h1⟩ fun M' d ⟨m, i, e, hd, h2, h3⟩ s => by
    cases e
    rw [hd]
    exact k M' i h2 h3 s
/-- [draw for _ in ds] -/
theorem lc_gen {i : Nat} {fe : FE} {ρ : Env'} {ds : List D} (Rel : D → Prop) (hM : IsSt M a) (hl : ds.length ≤ sizeLine)
    (he : ∀ d M' (k : D → Mu → Prop), d ∈ ds → Stp a M M' → (∀ y M'', Rel y → Stp a M M'' → k y M'') → fe xF (ρ.set i (some d)) M' k)
    (done : ∀ ys M', ys.length = ds.length → (∀ y ∈ ys, Rel y) → Stp a M M' → QL ys M') : LcS (bNm i) fYes fe ρ ds M (.mk : Ky QL) := by
  refine lcS_ind (fun rest acc M' => acc.length + rest.length = ds.length ∧ (∀ d ∈ rest, d ∈ ds) ∧ (∀ y ∈ acc, Rel y) ∧ Stp a M M') ⟨by simp, fun _ h => h, fun _ h => (nomatch h), .refl hM⟩ ?_ ?_
  · rintro d rest acc M' ⟨h1, h2, h3, h4⟩
    rw [List.length_cons] at h1
    refine ⟨_, rfl, fun k hk => ?_⟩
    show fe xF (ρ.set i (some d)) M' _
    refine he d M' _ (h2 d List.mem_cons_self) h4 fun y M'' hy hs => ⟨by omega, hk _ _ ⟨?_, fun z hz => h2 z (List.mem_cons_of_mem _ hz), fun z hz => ?_, hs⟩⟩
    · rw [List.length_append, List.length_cons, List.length_nil]; omega
    · rcases List.mem_append.mp hz with hz | hz
      · exact h3 z hz
      · rw [List.mem_singleton.mp hz]; exact hy
  · rintro acc M' ⟨h1, _, h3, h4⟩
    exact done acc M' (by simpa using h1) h3 h4
/-- [d for d in ds if draw] -/
theorem lc_pick {i : Nat} {ft : FT} {fe : FE} {ρ : Env'} {ds : List D} (hM : IsSt M a) (hl : ds.length ≤ sizeLine)
    (ht : ∀ d M' (k : Bool → Mu → Prop), d ∈ ds → Stp a M M' → (∀ b M'', Stp a M M'' → k b M'') → ft xF (ρ.set i (some d)) M' k)
    (he : ∀ d M' (k : D → Mu → Prop), d ∈ ds → k d M' → fe xF (ρ.set i (some d)) M' k)
    (done : ∀ ys M', ys.Sublist ds → Stp a M M' → QL ys M') : LcS (bNm i) ft fe ρ ds M (.mk : Ky QL) := by
  refine lcS_ind (fun rest acc M' => ∃ pre, pre ++ rest = ds ∧ acc.Sublist pre ∧ Stp a M M') ⟨[], rfl, .refl _, .refl hM⟩ ?_ ?_
  · rintro d rest acc M' ⟨pre, h1, h2, h4⟩
    have hd : d ∈ ds := by rw [← h1]; simp
    have hlen : acc.length < sizeLine := by
      have e1 := h2.length_le
      have e2 := congrArg List.length h1
      rw [List.length_append, List.length_cons] at e2
      omega
    refine ⟨_, rfl, fun k hk => ht d M' _ hd h4 fun b M'' hs => ?_⟩
    have e3 : pre ++ [d] ++ rest = ds := by rw [List.append_assoc]; exact h1
    cases b with
    | true => exact he d M'' _ hd ⟨hlen, hk _ _ ⟨pre ++ [d], e3, h2.append (.refl _), hs⟩⟩
    | false => exact hk _ _ ⟨pre ++ [d], e3, h2.trans (List.sublist_append_left _ _), hs⟩
  · rintro acc M' ⟨pre, h1, h2, h4⟩
    rw [List.append_nil] at h1
    exact done acc M' (h1 ▸ h2) h4
end

/-! ### words, patterns -/
def wD (w : List Int) : D := .tup (w.map .int)
inductive Atom where
  | one (a : Int)
  | any (s : List Int)
  deriving DecidableEq
def atD : Atom → D
  | .one a => .tup [.str "some", .int a]
  | .any s => .tup [.str "any", wD s]
def pD (p : List Atom) : D := .tup (p.map atD)
def okW (L : Int) (w : List Int) : Prop := ∀ x ∈ w, 0 ≤ x ∧ x < L
def okA (L : Int) : Atom → Prop
  | .one a => 0 ≤ a ∧ a < L
  | .any s => s ≠ [] ∧ okW L s ∧ (s.length : Int) ≤ L ∧ s.Pairwise (· < ·)
theorem sub_rng {lo : Int} {n : Nat} {ys : List D} (h : ys.Sublist (rngD lo n)) : ∃ w : List Int, ys = w.map .int ∧ (∀ x ∈ w, lo ≤ x ∧ x < lo + n) ∧ w.length ≤ n ∧ w.Pairwise (· < ·) := by
  unfold rngD at h
  obtain ⟨l, h1, rfl⟩ := List.sublist_map_iff.mp h
  refine ⟨l.map fun k => lo + (k : Nat), by rw [List.map_map]; rfl, fun x hx => ?_, ?_, ?_⟩
  · obtain ⟨k, hk, rfl⟩ := List.mem_map.mp hx
    have := List.mem_range.mp (h1.mem hk)
    omega
  · rw [List.length_map]
    have := h1.length_le
    rwa [List.length_range] at this
  · refine List.Pairwise.map _ (fun x y (h : x < y) => ?_) (List.Pairwise.sublist h1 List.pairwise_lt_range)
    omega
def N_lword : List Str := ["_law_state", "_law_letters", "_law_most", "_law_k"]
def f_lword (S_ldraw : FSpec) : FS := fThen (fIfS (fB (fOp gEq (fNm 1) (fC (.int 0)))) (fRet (fTup fNil)) fPass) (fRet (fCB gTuple (fCons (fOfL (fLc (fRng1 (fCons (fCall S_ldraw (fCons (fNm 0) (fCons (fOp gAdd (fNm 2) (fC (.int 1))) fNil))) fNil)) (bNm 3) fYes (fCall S_ldraw (fCons (fNm 0) (fCons (fNm 1) fNil))) [3])) fNil)))
def N_latom : List Str := ["_law_state", "_law_letters", "_law_chosen", "_law_a"]
def f_latom (S_ldraw : FSpec) : FS := fThen (fIfS (fB (fOp gEq (fCall S_ldraw (fCons (fNm 0) (fCons (fC (.int 2)) fNil))) (fC (.int 1)))) (fRet (fTup (fCons (fC (.str "some")) (fCons (fCall S_ldraw (fCons (fNm 0) (fCons (fNm 1) fNil))) fNil)))) fPass) (fThen (fSet 2 (fCB gTuple (fCons (fOfL (fLc (fRng1 (fCons (fNm 1) fNil)) (bNm 3) (fB (fOp gEq (fCall S_ldraw (fCons (fNm 0) (fCons (fC (.int 2)) fNil))) (fC (.int 1)))) (fNm 3) [3])) fNil))) (fThen (fIfS (fB (fOp gEq (fCB gLen (fCons (fNm 2) fNil)) (fC (.int 0)))) (fSet 2 (fTup (fCons (fCall S_ldraw (fCons (fNm 0) (fCons (fNm 1) fNil))) fNil))) fPass) (fRet (fTup (fCons (fC (.str "any")) (fCons (fNm 2) fNil))))))
def N_lpattern : List Str := ["_law_state", "_law_letters", "_law_most", "_law_k"]
def f_lpattern (S_ldraw : FSpec) (S_latom : FSpec) : FS := fThen (fIfS (fB (fOp gEq (fNm 1) (fC (.int 0)))) (fRet (fTup fNil)) fPass) (fRet (fCB gTuple (fCons (fOfL (fLc (fRng1 (fCons (fCall S_ldraw (fCons (fNm 0) (fCons (fOp gAdd (fNm 2) (fC (.int 1))) fNil))) fNil)) (bNm 3) fYes (fCall S_latom (fCons (fNm 0) (fCons (fNm 1) fNil))) [3])) fNil)))

def S_lword : FSpec := Drw (fun r d => ∃ (L m : Int) (w : List Int), r = [.int L, .int m] ∧ d = wD w ∧ (w.length : Int) ≤ m ∧ okW L w) fun r => ∃ L m : Int, r = [.int L, .int m] ∧ 0 ≤ L ∧ L < 1000 ∧ 0 ≤ m ∧ m < 1000
def S_latom : FSpec := Drw (fun r d => ∃ (L : Int) (A : Atom), r = [.int L] ∧ d = atD A ∧ okA L A) fun r => ∃ L : Int, r = [.int L] ∧ 0 < L ∧ L < 1000
def S_lpattern : FSpec := Drw (fun r d => ∃ (L m : Int) (p : List Atom), r = [.int L, .int m] ∧ d = pD p ∧ (p.length : Int) ≤ m ∧ ∀ A ∈ p, okA L A) fun r => ∃ L m : Int, r = [.int L, .int m] ∧ 0 ≤ L ∧ L < 1000 ∧ 0 ≤ m ∧ m < 1000
theorem b_lword (ds : List D) (M : Mu) (Q : D → Mu → Prop) (xw : XW) (h : S_lword ds M Q xw) : bodyE N_lword (f_lword S_ldraw) ds M Q xw := by
  obtain ⟨a, rest, rfl, ⟨L, m, rfl, L0, L1, m0, m1⟩, st, post⟩ := h
  have post2 : ∀ (w : List Int) M', (w.length : Int) ≤ m → okW L w → Stp a M M' → Q (wD w) (mres M' M) := fun w M' h1 h2 h3 => post _ _ ⟨L, m, w, rfl, rfl, h1, h2⟩ (h3.res st)
  simp only [bodyE, bodyL, startD, N_lword, List.map_cons, List.map_nil, List.length_cons, List.length_nil, List.replicate_succ, List.replicate_zero, List.cons_append, List.nil_append, Nat.reduceAdd, Nat.reduceSub]
  unfold f_lword
  try simp -dsimp only [bodyE, startD, List.map_cons, List.map_nil, List.length_cons, List.length_nil, List.replicate_succ, List.replicate_zero, List.cons_append, List.nil_append, Nat.reduceAdd, Nat.reduceSub, List.set_cons_zero, List.set_cons_succ, List.getElem?_cons_zero, List.getElem?_cons_succ, Bool.not_true, Bool.not_false, decide_true, decide_false, ↓IfS_t, ↓IfS_f, ↓IfE_t, ↓IfE_f, ↓AndT_t, ↓AndT_f, ↓OrT_t, ↓OrT_f, ↓AndV_t, ↓AndV_f, ↓OrV_t, ↓OrV_f, IfS_t, IfS_f, IfE_t, IfE_f, AndT_t, AndT_f, OrT_t, OrT_f, AndV_t, AndV_f, OrV_t, OrV_f, ↓eThen, ↓ePass, ↓eBreak, ↓eCont, ↓eExpr, ↓eRet, ↓eRetN, ↓eIfS, ↓eSet, ↓eOwn, ↓eAsg, ↓eSetIx, ↓eGSetIx, ↓eAug, ↓eIadd, ↓eIaddL, ↓eFrz, ↓eFor, ↓eWhile, ↓eNm, ↓eC, ↓eOp, ↓eB, ↓eTr, ↓eTrB, ↓eTrI, ↓eTrN, ↓eTrT, ↓eTrL, ↓eTrA, ↓eAnd, ↓eOr, ↓eNot, ↓eAndV, ↓eOrV, ↓eNotV, ↓eIf, ↓eNil, ↓eCons, ↓eTup, ↓eOfL, ↓eLstL, ↓eListL, ↓eCatL, ↓eLc, ↓eWipe0, ↓eWipe, ↓eSeq, ↓eRng1, ↓eRng2, ↓eCall, ↓eCallL, ↓eRetL, ↓eSrt, ↓eSrtU, ↓eCB, ↓eNeg, ↓eChain, ↓eAppend, ↓ePop, ↓eNo, ↓eSome, ↓eSl, ↓eAnyG, ↓eAllG, ↓eZip, ↓eZip3, ↓gIsC_, tyN_t, tyN_l, tyN_n, tyN_b, tyN_i, seqP_t, seqP_l, ↓eEn1, ↓eEn2, ↓eSeqA, ↓ePar, ↓gAnyL_, ↓gAllL_, ↓gSumL_, boolsD_map, intsD_map, ↓gSl_t, ↓gSl_l, ↓gSl_a, ↓gAdd_i, ↓gAdd_t, ↓gAdd_s, ↓gAdd_l, ↓gI0_i, ↓gI_i, ↓gMul_i, ↓gMul_t, ↓gEq_, ↓gNe_, ↓gIs_n, ↓gIs_b, ↓gIsNot_n, ↓gIsNot_b, ↓gIn_, ↓gNotIn_, ↓gIx_t, ↓gIx_l, ↓gIx_a, ↓gLen_, ↓gLen_l, ↓gLen_a, ↓gInt_, ↓gInt_b, ↓gTuple_, ↓gTuple_l, ↓gTuple_a, ↓gMax_, ↓gMin_, ↓gIsBool_b, ↓gIsBool_i, seqOf_t, seqOf_l, seqOf_a, lstOf_l, lstOf_a, rsv_i, rsv_b, rsv_s, rsv_n, rsv_t, rsv_l, dle_i, dle_b, dle_n, eqD_i, eqD_b, isNon, bNm_, bTup_, bCons_, bNil_, Option.bind_some, i40, i41, i42, i43, atI0, atI1, atI2, atI3, atI4, atI5, mset_same, true_and, beq_self_eq_true, Bool.false_eq_true, c0, c1, Int.cast_ofNat_Int, Int.reduceEq, Int.reduceLT, Int.reduceLE, Int.reduceAdd, Int.reduceSub, ↓reduceIte]
  refine IfS_mk (fun h => ?_) fun h => ?_
  · try simp -dsimp only [bodyE, startD, List.map_cons, List.map_nil, List.length_cons, List.length_nil, List.replicate_succ, List.replicate_zero, List.cons_append, List.nil_append, Nat.reduceAdd, Nat.reduceSub, List.set_cons_zero, List.set_cons_succ, List.getElem?_cons_zero, List.getElem?_cons_succ, Bool.not_true, Bool.not_false, decide_true, decide_false, ↓IfS_t, ↓IfS_f, ↓IfE_t, ↓IfE_f, ↓AndT_t, ↓AndT_f, ↓OrT_t, ↓OrT_f, ↓AndV_t, ↓AndV_f, ↓OrV_t, ↓OrV_f, IfS_t, IfS_f, IfE_t, IfE_f, AndT_t, AndT_f, OrT_t, OrT_f, AndV_t, AndV_f, OrV_t, OrV_f, ↓eThen, ↓ePass, ↓eBreak, ↓eCont, ↓eExpr, ↓eRet, ↓eRetN, ↓eIfS, ↓eSet, ↓eOwn, ↓eAsg, ↓eSetIx, ↓eGSetIx, ↓eAug, ↓eIadd, ↓eIaddL, ↓eFrz, ↓eFor, ↓eWhile, ↓eNm, ↓eC, ↓eOp, ↓eB, ↓eTr, ↓eTrB, ↓eTrI, ↓eTrN, ↓eTrT, ↓eTrL, ↓eTrA, ↓eAnd, ↓eOr, ↓eNot, ↓eAndV, ↓eOrV, ↓eNotV, ↓eIf, ↓eNil, ↓eCons, ↓eTup, ↓eOfL, ↓eLstL, ↓eListL, ↓eCatL, ↓eLc, ↓eWipe0, ↓eWipe, ↓eSeq, ↓eRng1, ↓eRng2, ↓eCall, ↓eCallL, ↓eRetL, ↓eSrt, ↓eSrtU, ↓eCB, ↓eNeg, ↓eChain, ↓eAppend, ↓ePop, ↓eNo, ↓eSome, ↓eSl, ↓eAnyG, ↓eAllG, ↓eZip, ↓eZip3, ↓gIsC_, tyN_t, tyN_l, tyN_n, tyN_b, tyN_i, seqP_t, seqP_l, ↓eEn1, ↓eEn2, ↓eSeqA, ↓ePar, ↓gAnyL_, ↓gAllL_, ↓gSumL_, boolsD_map, intsD_map, ↓gSl_t, ↓gSl_l, ↓gSl_a, ↓gAdd_i, ↓gAdd_t, ↓gAdd_s, ↓gAdd_l, ↓gI0_i, ↓gI_i, ↓gMul_i, ↓gMul_t, ↓gEq_, ↓gNe_, ↓gIs_n, ↓gIs_b, ↓gIsNot_n, ↓gIsNot_b, ↓gIn_, ↓gNotIn_, ↓gIx_t, ↓gIx_l, ↓gIx_a, ↓gLen_, ↓gLen_l, ↓gLen_a, ↓gInt_, ↓gInt_b, ↓gTuple_, ↓gTuple_l, ↓gTuple_a, ↓gMax_, ↓gMin_, ↓gIsBool_b, ↓gIsBool_i, seqOf_t, seqOf_l, seqOf_a, lstOf_l, lstOf_a, rsv_i, rsv_b, rsv_s, rsv_n, rsv_t, rsv_l, dle_i, dle_b, dle_n, eqD_i, eqD_b, isNon, bNm_, bTup_, bCons_, bNil_, Option.bind_some, i40, i41, i42, i43, atI0, atI1, atI2, atI3, atI4, atI5, mset_same, true_and, beq_self_eq_true, Bool.false_eq_true, c0, c1, Int.cast_ofNat_Int, Int.reduceEq, Int.reduceLT, Int.reduceLE, Int.reduceAdd, Int.reduceSub, ↓reduceIte]
    exact ⟨by decide, post2 [] M (by simpa using m0) (fun _ h => (nomatch h)) (.refl st)⟩
  · have hL : L ≠ 0 := of_decide_eq_false h
    try simp -dsimp only [bodyE, startD, List.map_cons, List.map_nil, List.length_cons, List.length_nil, List.replicate_succ, List.replicate_zero, List.cons_append, List.nil_append, Nat.reduceAdd, Nat.reduceSub, List.set_cons_zero, List.set_cons_succ, List.getElem?_cons_zero, List.getElem?_cons_succ, Bool.not_true, Bool.not_false, decide_true, decide_false, ↓IfS_t, ↓IfS_f, ↓IfE_t, ↓IfE_f, ↓AndT_t, ↓AndT_f, ↓OrT_t, ↓OrT_f, ↓AndV_t, ↓AndV_f, ↓OrV_t, ↓OrV_f, IfS_t, IfS_f, IfE_t, IfE_f, AndT_t, AndT_f, OrT_t, OrT_f, AndV_t, AndV_f, OrV_t, OrV_f, ↓eThen, ↓ePass, ↓eBreak, ↓eCont, ↓eExpr, ↓eRet, ↓eRetN, ↓eIfS, ↓eSet, ↓eOwn, ↓eAsg, ↓eSetIx, ↓eGSetIx, ↓eAug, ↓eIadd, ↓eIaddL, ↓eFrz, ↓eFor, ↓eWhile, ↓eNm, ↓eC, ↓eOp, ↓eB, ↓eTr, ↓eTrB, ↓eTrI, ↓eTrN, ↓eTrT, ↓eTrL, ↓eTrA, ↓eAnd, ↓eOr, ↓eNot, ↓eAndV, ↓eOrV, ↓eNotV, ↓eIf, ↓eNil, ↓eCons, ↓eTup, ↓eOfL, ↓eLstL, ↓eListL, ↓eCatL, ↓eLc, ↓eWipe0, ↓eWipe, ↓eSeq, ↓eRng1, ↓eRng2, ↓eCall, ↓eCallL, ↓eRetL, ↓eSrt, ↓eSrtU, ↓eCB, ↓eNeg, ↓eChain, ↓eAppend, ↓ePop, ↓eNo, ↓eSome, ↓eSl, ↓eAnyG, ↓eAllG, ↓eZip, ↓eZip3, ↓gIsC_, tyN_t, tyN_l, tyN_n, tyN_b, tyN_i, seqP_t, seqP_l, ↓eEn1, ↓eEn2, ↓eSeqA, ↓ePar, ↓gAnyL_, ↓gAllL_, ↓gSumL_, boolsD_map, intsD_map, ↓gSl_t, ↓gSl_l, ↓gSl_a, ↓gAdd_i, ↓gAdd_t, ↓gAdd_s, ↓gAdd_l, ↓gI0_i, ↓gI_i, ↓gMul_i, ↓gMul_t, ↓gEq_, ↓gNe_, ↓gIs_n, ↓gIs_b, ↓gIsNot_n, ↓gIsNot_b, ↓gIn_, ↓gNotIn_, ↓gIx_t, ↓gIx_l, ↓gIx_a, ↓gLen_, ↓gLen_l, ↓gLen_a, ↓gInt_, ↓gInt_b, ↓gTuple_, ↓gTuple_l, ↓gTuple_a, ↓gMax_, ↓gMin_, ↓gIsBool_b, ↓gIsBool_i, seqOf_t, seqOf_l, seqOf_a, lstOf_l, lstOf_a, rsv_i, rsv_b, rsv_s, rsv_n, rsv_t, rsv_l, dle_i, dle_b, dle_n, eqD_i, eqD_b, isNon, bNm_, bTup_, bCons_, bNil_, Option.bind_some, i40, i41, i42, i43, atI0, atI1, atI2, atI3, atI4, atI5, mset_same, true_and, beq_self_eq_true, Bool.false_eq_true, c0, c1, Int.cast_ofNat_Int, Int.reduceEq, Int.reduceLT, Int.reduceLE, Int.reduceAdd, Int.reduceSub, ↓reduceIte]
    refine draw_call st (by omega) (by omega) fun M1 i i0 i1 s1 => ?_
    try simp -dsimp only [bodyE, startD, List.map_cons, List.map_nil, List.length_cons, List.length_nil, List.replicate_succ, List.replicate_zero, List.cons_append, List.nil_append, Nat.reduceAdd, Nat.reduceSub, List.set_cons_zero, List.set_cons_succ, List.getElem?_cons_zero, List.getElem?_cons_succ, Bool.not_true, Bool.not_false, decide_true, decide_false, ↓IfS_t, ↓IfS_f, ↓IfE_t, ↓IfE_f, ↓AndT_t, ↓AndT_f, ↓OrT_t, ↓OrT_f, ↓AndV_t, ↓AndV_f, ↓OrV_t, ↓OrV_f, IfS_t, IfS_f, IfE_t, IfE_f, AndT_t, AndT_f, OrT_t, OrT_f, AndV_t, AndV_f, OrV_t, OrV_f, ↓eThen, ↓ePass, ↓eBreak, ↓eCont, ↓eExpr, ↓eRet, ↓eRetN, ↓eIfS, ↓eSet, ↓eOwn, ↓eAsg, ↓eSetIx, ↓eGSetIx, ↓eAug, ↓eIadd, ↓eIaddL, ↓eFrz, ↓eFor, ↓eWhile, ↓eNm, ↓eC, ↓eOp, ↓eB, ↓eTr, ↓eTrB, ↓eTrI, ↓eTrN, ↓eTrT, ↓eTrL, ↓eTrA, ↓eAnd, ↓eOr, ↓eNot, ↓eAndV, ↓eOrV, ↓eNotV, ↓eIf, ↓eNil, ↓eCons, ↓eTup, ↓eOfL, ↓eLstL, ↓eListL, ↓eCatL, ↓eLc, ↓eWipe0, ↓eWipe, ↓eSeq, ↓eRng1, ↓eRng2, ↓eCall, ↓eCallL, ↓eRetL, ↓eSrt, ↓eSrtU, ↓eCB, ↓eNeg, ↓eChain, ↓eAppend, ↓ePop, ↓eNo, ↓eSome, ↓eSl, ↓eAnyG, ↓eAllG, ↓eZip, ↓eZip3, ↓gIsC_, tyN_t, tyN_l, tyN_n, tyN_b, tyN_i, seqP_t, seqP_l, ↓eEn1, ↓eEn2, ↓eSeqA, ↓ePar, ↓gAnyL_, ↓gAllL_, ↓gSumL_, boolsD_map, intsD_map, ↓gSl_t, ↓gSl_l, ↓gSl_a, ↓gAdd_i, ↓gAdd_t, ↓gAdd_s, ↓gAdd_l, ↓gI0_i, ↓gI_i, ↓gMul_i, ↓gMul_t, ↓gEq_, ↓gNe_, ↓gIs_n, ↓gIs_b, ↓gIsNot_n, ↓gIsNot_b, ↓gIn_, ↓gNotIn_, ↓gIx_t, ↓gIx_l, ↓gIx_a, ↓gLen_, ↓gLen_l, ↓gLen_a, ↓gInt_, ↓gInt_b, ↓gTuple_, ↓gTuple_l, ↓gTuple_a, ↓gMax_, ↓gMin_, ↓gIsBool_b, ↓gIsBool_i, seqOf_t, seqOf_l, seqOf_a, lstOf_l, lstOf_a, rsv_i, rsv_b, rsv_s, rsv_n, rsv_t, rsv_l, dle_i, dle_b, dle_n, eqD_i, eqD_b, isNon, bNm_, bTup_, bCons_, bNil_, Option.bind_some, i40, i41, i42, i43, atI0, atI1, atI2, atI3, atI4, atI5, mset_same, true_and, beq_self_eq_true, Bool.false_eq_true, c0, c1, Int.cast_ofNat_Int, Int.reduceEq, Int.reduceLT, Int.reduceLE, Int.reduceAdd, Int.reduceSub, ↓reduceIte]
    refine ⟨by omega, ?_⟩
    refine lc_gen (fun y => ∃ x : Int, y = .int x ∧ (0 ≤ x ∧ x < L)) s1.2 (by rw [rngD_length]; have : sizeLine = 16777216 := rfl; omega) (fun d M' k _ hs hk => ?_) fun ys M' hl hy hs => ?_
    · try simp -dsimp only [bodyE, startD, List.map_cons, List.map_nil, List.length_cons, List.length_nil, List.replicate_succ, List.replicate_zero, List.cons_append, List.nil_append, Nat.reduceAdd, Nat.reduceSub, List.set_cons_zero, List.set_cons_succ, List.getElem?_cons_zero, List.getElem?_cons_succ, Bool.not_true, Bool.not_false, decide_true, decide_false, ↓IfS_t, ↓IfS_f, ↓IfE_t, ↓IfE_f, ↓AndT_t, ↓AndT_f, ↓OrT_t, ↓OrT_f, ↓AndV_t, ↓AndV_f, ↓OrV_t, ↓OrV_f, IfS_t, IfS_f, IfE_t, IfE_f, AndT_t, AndT_f, OrT_t, OrT_f, AndV_t, AndV_f, OrV_t, OrV_f, ↓eThen, ↓ePass, ↓eBreak, ↓eCont, ↓eExpr, ↓eRet, ↓eRetN, ↓eIfS, ↓eSet, ↓eOwn, ↓eAsg, ↓eSetIx, ↓eGSetIx, ↓eAug, ↓eIadd, ↓eIaddL, ↓eFrz, ↓eFor, ↓eWhile, ↓eNm, ↓eC, ↓eOp, ↓eB, ↓eTr, ↓eTrB, ↓eTrI, ↓eTrN, ↓eTrT, ↓eTrL, ↓eTrA, ↓eAnd, ↓eOr, ↓eNot, ↓eAndV, ↓eOrV, ↓eNotV, ↓eIf, ↓eNil, ↓eCons, ↓eTup, ↓eOfL, ↓eLstL, ↓eListL, ↓eCatL, ↓eLc, ↓eWipe0, ↓eWipe, ↓eSeq, ↓eRng1, ↓eRng2, ↓eCall, ↓eCallL, ↓eRetL, ↓eSrt, ↓eSrtU, ↓eCB, ↓eNeg, ↓eChain, ↓eAppend, ↓ePop, ↓eNo, ↓eSome, ↓eSl, ↓eAnyG, ↓eAllG, ↓eZip, ↓eZip3, ↓gIsC_, tyN_t, tyN_l, tyN_n, tyN_b, tyN_i, seqP_t, seqP_l, ↓eEn1, ↓eEn2, ↓eSeqA, ↓ePar, ↓gAnyL_, ↓gAllL_, ↓gSumL_, boolsD_map, intsD_map, ↓gSl_t, ↓gSl_l, ↓gSl_a, ↓gAdd_i, ↓gAdd_t, ↓gAdd_s, ↓gAdd_l, ↓gI0_i, ↓gI_i, ↓gMul_i, ↓gMul_t, ↓gEq_, ↓gNe_, ↓gIs_n, ↓gIs_b, ↓gIsNot_n, ↓gIsNot_b, ↓gIn_, ↓gNotIn_, ↓gIx_t, ↓gIx_l, ↓gIx_a, ↓gLen_, ↓gLen_l, ↓gLen_a, ↓gInt_, ↓gInt_b, ↓gTuple_, ↓gTuple_l, ↓gTuple_a, ↓gMax_, ↓gMin_, ↓gIsBool_b, ↓gIsBool_i, seqOf_t, seqOf_l, seqOf_a, lstOf_l, lstOf_a, rsv_i, rsv_b, rsv_s, rsv_n, rsv_t, rsv_l, dle_i, dle_b, dle_n, eqD_i, eqD_b, isNon, bNm_, bTup_, bCons_, bNil_, Option.bind_some, i40, i41, i42, i43, atI0, atI1, atI2, atI3, atI4, atI5, mset_same, true_and, beq_self_eq_true, Bool.false_eq_true, c0, c1, Int.cast_ofNat_Int, Int.reduceEq, Int.reduceLT, Int.reduceLE, Int.reduceAdd, Int.reduceSub, ↓reduceIte]
      exact draw_call hs.2 (by omega) (by omega) fun M2 j j0 j1 s2 => hk _ _ ⟨j, rfl, j0, j1⟩ (hs.trans s2)
    · obtain ⟨w, rfl, hw⟩ := enc_of ys hy
      rw [rngD_length, List.length_map] at hl
      try simp -dsimp only [bodyE, startD, List.map_cons, List.map_nil, List.length_cons, List.length_nil, List.replicate_succ, List.replicate_zero, List.cons_append, List.nil_append, Nat.reduceAdd, Nat.reduceSub, List.set_cons_zero, List.set_cons_succ, List.getElem?_cons_zero, List.getElem?_cons_succ, Bool.not_true, Bool.not_false, decide_true, decide_false, ↓IfS_t, ↓IfS_f, ↓IfE_t, ↓IfE_f, ↓AndT_t, ↓AndT_f, ↓OrT_t, ↓OrT_f, ↓AndV_t, ↓AndV_f, ↓OrV_t, ↓OrV_f, IfS_t, IfS_f, IfE_t, IfE_f, AndT_t, AndT_f, OrT_t, OrT_f, AndV_t, AndV_f, OrV_t, OrV_f, ↓eThen, ↓ePass, ↓eBreak, ↓eCont, ↓eExpr, ↓eRet, ↓eRetN, ↓eIfS, ↓eSet, ↓eOwn, ↓eAsg, ↓eSetIx, ↓eGSetIx, ↓eAug, ↓eIadd, ↓eIaddL, ↓eFrz, ↓eFor, ↓eWhile, ↓eNm, ↓eC, ↓eOp, ↓eB, ↓eTr, ↓eTrB, ↓eTrI, ↓eTrN, ↓eTrT, ↓eTrL, ↓eTrA, ↓eAnd, ↓eOr, ↓eNot, ↓eAndV, ↓eOrV, ↓eNotV, ↓eIf, ↓eNil, ↓eCons, ↓eTup, ↓eOfL, ↓eLstL, ↓eListL, ↓eCatL, ↓eLc, ↓eWipe0, ↓eWipe, ↓eSeq, ↓eRng1, ↓eRng2, ↓eCall, ↓eCallL, ↓eRetL, ↓eSrt, ↓eSrtU, ↓eCB, ↓eNeg, ↓eChain, ↓eAppend, ↓ePop, ↓eNo, ↓eSome, ↓eSl, ↓eAnyG, ↓eAllG, ↓eZip, ↓eZip3, ↓gIsC_, tyN_t, tyN_l, tyN_n, tyN_b, tyN_i, seqP_t, seqP_l, ↓eEn1, ↓eEn2, ↓eSeqA, ↓ePar, ↓gAnyL_, ↓gAllL_, ↓gSumL_, boolsD_map, intsD_map, ↓gSl_t, ↓gSl_l, ↓gSl_a, ↓gAdd_i, ↓gAdd_t, ↓gAdd_s, ↓gAdd_l, ↓gI0_i, ↓gI_i, ↓gMul_i, ↓gMul_t, ↓gEq_, ↓gNe_, ↓gIs_n, ↓gIs_b, ↓gIsNot_n, ↓gIsNot_b, ↓gIn_, ↓gNotIn_, ↓gIx_t, ↓gIx_l, ↓gIx_a, ↓gLen_, ↓gLen_l, ↓gLen_a, ↓gInt_, ↓gInt_b, ↓gTuple_, ↓gTuple_l, ↓gTuple_a, ↓gMax_, ↓gMin_, ↓gIsBool_b, ↓gIsBool_i, seqOf_t, seqOf_l, seqOf_a, lstOf_l, lstOf_a, rsv_i, rsv_b, rsv_s, rsv_n, rsv_t, rsv_l, dle_i, dle_b, dle_n, eqD_i, eqD_b, isNon, bNm_, bTup_, bCons_, bNil_, Option.bind_some, i40, i41, i42, i43, atI0, atI1, atI2, atI3, atI4, atI5, mset_same, true_and, beq_self_eq_true, Bool.false_eq_true, c0, c1, Int.cast_ofNat_Int, Int.reduceEq, Int.reduceLT, Int.reduceLE, Int.reduceAdd, Int.reduceSub, ↓reduceIte]
      exact post2 w M' (by omega) hw (s1.trans hs)
theorem b_latom (ds : List D) (M : Mu) (Q : D → Mu → Prop) (xw : XW) (h : S_latom ds M Q xw) : bodyE N_latom (f_latom S_ldraw) ds M Q xw := by
  obtain ⟨a, rest, rfl, ⟨L, rfl, L0, L1⟩, st, post⟩ := h
  have post2 : ∀ (A : Atom) M', okA L A → Stp a M M' → Q (atD A) (mres M' M) := fun A M' h1 h3 => post _ _ ⟨L, A, rfl, rfl, h1⟩ (h3.res st)
  simp only [bodyE, bodyL, startD, N_latom, List.map_cons, List.map_nil, List.length_cons, List.length_nil, List.replicate_succ, List.replicate_zero, List.cons_append, List.nil_append, Nat.reduceAdd, Nat.reduceSub]
  unfold f_latom
  try simp -dsimp only [bodyE, startD, List.map_cons, List.map_nil, List.length_cons, List.length_nil, List.replicate_succ, List.replicate_zero, List.cons_append, List.nil_append, Nat.reduceAdd, Nat.reduceSub, List.set_cons_zero, List.set_cons_succ, List.getElem?_cons_zero, List.getElem?_cons_succ, Bool.not_true, Bool.not_false, decide_true, decide_false, ↓IfS_t, ↓IfS_f, ↓IfE_t, ↓IfE_f, ↓AndT_t, ↓AndT_f, ↓OrT_t, ↓OrT_f, ↓AndV_t, ↓AndV_f, ↓OrV_t, ↓OrV_f, IfS_t, IfS_f, IfE_t, IfE_f, AndT_t, AndT_f, OrT_t, OrT_f, AndV_t, AndV_f, OrV_t, OrV_f, ↓eThen, ↓ePass, ↓eBreak, ↓eCont, ↓eExpr, ↓eRet, ↓eRetN, ↓eIfS, ↓eSet, ↓eOwn, ↓eAsg, ↓eSetIx, ↓eGSetIx, ↓eAug, ↓eIadd, ↓eIaddL, ↓eFrz, ↓eFor, ↓eWhile, ↓eNm, ↓eC, ↓eOp, ↓eB, ↓eTr, ↓eTrB, ↓eTrI, ↓eTrN, ↓eTrT, ↓eTrL, ↓eTrA, ↓eAnd, ↓eOr, ↓eNot, ↓eAndV, ↓eOrV, ↓eNotV, ↓eIf, ↓eNil, ↓eCons, ↓eTup, ↓eOfL, ↓eLstL, ↓eListL, ↓eCatL, ↓eLc, ↓eWipe0, ↓eWipe, ↓eSeq, ↓eRng1, ↓eRng2, ↓eCall, ↓eCallL, ↓eRetL, ↓eSrt, ↓eSrtU, ↓eCB, ↓eNeg, ↓eChain, ↓eAppend, ↓ePop, ↓eNo, ↓eSome, ↓eSl, ↓eAnyG, ↓eAllG, ↓eZip, ↓eZip3, ↓gIsC_, tyN_t, tyN_l, tyN_n, tyN_b, tyN_i, seqP_t, seqP_l, ↓eEn1, ↓eEn2, ↓eSeqA, ↓ePar, ↓gAnyL_, ↓gAllL_, ↓gSumL_, boolsD_map, intsD_map, ↓gSl_t, ↓gSl_l, ↓gSl_a, ↓gAdd_i, ↓gAdd_t, ↓gAdd_s, ↓gAdd_l, ↓gI0_i, ↓gI_i, ↓gMul_i, ↓gMul_t, ↓gEq_, ↓gNe_, ↓gIs_n, ↓gIs_b, ↓gIsNot_n, ↓gIsNot_b, ↓gIn_, ↓gNotIn_, ↓gIx_t, ↓gIx_l, ↓gIx_a, ↓gLen_, ↓gLen_l, ↓gLen_a, ↓gInt_, ↓gInt_b, ↓gTuple_, ↓gTuple_l, ↓gTuple_a, ↓gMax_, ↓gMin_, ↓gIsBool_b, ↓gIsBool_i, seqOf_t, seqOf_l, seqOf_a, lstOf_l, lstOf_a, rsv_i, rsv_b, rsv_s, rsv_n, rsv_t, rsv_l, dle_i, dle_b, dle_n, eqD_i, eqD_b, isNon, bNm_, bTup_, bCons_, bNil_, Option.bind_some, i40, i41, i42, i43, atI0, atI1, atI2, atI3, atI4, atI5, mset_same, true_and, beq_self_eq_true, Bool.false_eq_true, c0, c1, Int.cast_ofNat_Int, Int.reduceEq, Int.reduceLT, Int.reduceLE, Int.reduceAdd, Int.reduceSub, ↓reduceIte]
  refine draw_call st (by omega) (by omega) fun M1 i i0 i1 s1 => ?_
  try simp -dsimp only [bodyE, startD, List.map_cons, List.map_nil, List.length_cons, List.length_nil, List.replicate_succ, List.replicate_zero, List.cons_append, List.nil_append, Nat.reduceAdd, Nat.reduceSub, List.set_cons_zero, List.set_cons_succ, List.getElem?_cons_zero, List.getElem?_cons_succ, Bool.not_true, Bool.not_false, decide_true, decide_false, ↓IfS_t, ↓IfS_f, ↓IfE_t, ↓IfE_f, ↓AndT_t, ↓AndT_f, ↓OrT_t, ↓OrT_f, ↓AndV_t, ↓AndV_f, ↓OrV_t, ↓OrV_f, IfS_t, IfS_f, IfE_t, IfE_f, AndT_t, AndT_f, OrT_t, OrT_f, AndV_t, AndV_f, OrV_t, OrV_f, ↓eThen, ↓ePass, ↓eBreak, ↓eCont, ↓eExpr, ↓eRet, ↓eRetN, ↓eIfS, ↓eSet, ↓eOwn, ↓eAsg, ↓eSetIx, ↓eGSetIx, ↓eAug, ↓eIadd, ↓eIaddL, ↓eFrz, ↓eFor, ↓eWhile, ↓eNm, ↓eC, ↓eOp, ↓eB, ↓eTr, ↓eTrB, ↓eTrI, ↓eTrN, ↓eTrT, ↓eTrL, ↓eTrA, ↓eAnd, ↓eOr, ↓eNot, ↓eAndV, ↓eOrV, ↓eNotV, ↓eIf, ↓eNil, ↓eCons, ↓eTup, ↓eOfL, ↓eLstL, ↓eListL, ↓eCatL, ↓eLc, ↓eWipe0, ↓eWipe, ↓eSeq, ↓eRng1, ↓eRng2, ↓eCall, ↓eCallL, ↓eRetL, ↓eSrt, ↓eSrtU, ↓eCB, ↓eNeg, ↓eChain, ↓eAppend, ↓ePop, ↓eNo, ↓eSome, ↓eSl, ↓eAnyG, ↓eAllG, ↓eZip, ↓eZip3, ↓gIsC_, tyN_t, tyN_l, tyN_n, tyN_b, tyN_i, seqP_t, seqP_l, ↓eEn1, ↓eEn2, ↓eSeqA, ↓ePar, ↓gAnyL_, ↓gAllL_, ↓gSumL_, boolsD_map, intsD_map, ↓gSl_t, ↓gSl_l, ↓gSl_a, ↓gAdd_i, ↓gAdd_t, ↓gAdd_s, ↓gAdd_l, ↓gI0_i, ↓gI_i, ↓gMul_i, ↓gMul_t, ↓gEq_, ↓gNe_, ↓gIs_n, ↓gIs_b, ↓gIsNot_n, ↓gIsNot_b, ↓gIn_, ↓gNotIn_, ↓gIx_t, ↓gIx_l, ↓gIx_a, ↓gLen_, ↓gLen_l, ↓gLen_a, ↓gInt_, ↓gInt_b, ↓gTuple_, ↓gTuple_l, ↓gTuple_a, ↓gMax_, ↓gMin_, ↓gIsBool_b, ↓gIsBool_i, seqOf_t, seqOf_l, seqOf_a, lstOf_l, lstOf_a, rsv_i, rsv_b, rsv_s, rsv_n, rsv_t, rsv_l, dle_i, dle_b, dle_n, eqD_i, eqD_b, isNon, bNm_, bTup_, bCons_, bNil_, Option.bind_some, i40, i41, i42, i43, atI0, atI1, atI2, atI3, atI4, atI5, mset_same, true_and, beq_self_eq_true, Bool.false_eq_true, c0, c1, Int.cast_ofNat_Int, Int.reduceEq, Int.reduceLT, Int.reduceLE, Int.reduceAdd, Int.reduceSub, ↓reduceIte]
  refine IfS_mk (fun h => ?_) fun h => ?_
  · try simp -dsimp only [bodyE, startD, List.map_cons, List.map_nil, List.length_cons, List.length_nil, List.replicate_succ, List.replicate_zero, List.cons_append, List.nil_append, Nat.reduceAdd, Nat.reduceSub, List.set_cons_zero, List.set_cons_succ, List.getElem?_cons_zero, List.getElem?_cons_succ, Bool.not_true, Bool.not_false, decide_true, decide_false, ↓IfS_t, ↓IfS_f, ↓IfE_t, ↓IfE_f, ↓AndT_t, ↓AndT_f, ↓OrT_t, ↓OrT_f, ↓AndV_t, ↓AndV_f, ↓OrV_t, ↓OrV_f, IfS_t, IfS_f, IfE_t, IfE_f, AndT_t, AndT_f, OrT_t, OrT_f, AndV_t, AndV_f, OrV_t, OrV_f, ↓eThen, ↓ePass, ↓eBreak, ↓eCont, ↓eExpr, ↓eRet, ↓eRetN, ↓eIfS, ↓eSet, ↓eOwn, ↓eAsg, ↓eSetIx, ↓eGSetIx, ↓eAug, ↓eIadd, ↓eIaddL, ↓eFrz, ↓eFor, ↓eWhile, ↓eNm, ↓eC, ↓eOp, ↓eB, ↓eTr, ↓eTrB, ↓eTrI, ↓eTrN, ↓eTrT, ↓eTrL, ↓eTrA, ↓eAnd, ↓eOr, ↓eNot, ↓eAndV, ↓eOrV, ↓eNotV, ↓eIf, ↓eNil, ↓eCons, ↓eTup, ↓eOfL, ↓eLstL, ↓eListL, ↓eCatL, ↓eLc, ↓eWipe0, ↓eWipe, ↓eSeq, ↓eRng1, ↓eRng2, ↓eCall, ↓eCallL, ↓eRetL, ↓eSrt, ↓eSrtU, ↓eCB, ↓eNeg, ↓eChain, ↓eAppend, ↓ePop, ↓eNo, ↓eSome, ↓eSl, ↓eAnyG, ↓eAllG, ↓eZip, ↓eZip3, ↓gIsC_, tyN_t, tyN_l, tyN_n, tyN_b, tyN_i, seqP_t, seqP_l, ↓eEn1, ↓eEn2, ↓eSeqA, ↓ePar, ↓gAnyL_, ↓gAllL_, ↓gSumL_, boolsD_map, intsD_map, ↓gSl_t, ↓gSl_l, ↓gSl_a, ↓gAdd_i, ↓gAdd_t, ↓gAdd_s, ↓gAdd_l, ↓gI0_i, ↓gI_i, ↓gMul_i, ↓gMul_t, ↓gEq_, ↓gNe_, ↓gIs_n, ↓gIs_b, ↓gIsNot_n, ↓gIsNot_b, ↓gIn_, ↓gNotIn_, ↓gIx_t, ↓gIx_l, ↓gIx_a, ↓gLen_, ↓gLen_l, ↓gLen_a, ↓gInt_, ↓gInt_b, ↓gTuple_, ↓gTuple_l, ↓gTuple_a, ↓gMax_, ↓gMin_, ↓gIsBool_b, ↓gIsBool_i, seqOf_t, seqOf_l, seqOf_a, lstOf_l, lstOf_a, rsv_i, rsv_b, rsv_s, rsv_n, rsv_t, rsv_l, dle_i, dle_b, dle_n, eqD_i, eqD_b, isNon, bNm_, bTup_, bCons_, bNil_, Option.bind_some, i40, i41, i42, i43, atI0, atI1, atI2, atI3, atI4, atI5, mset_same, true_and, beq_self_eq_true, Bool.false_eq_true, c0, c1, Int.cast_ofNat_Int, Int.reduceEq, Int.reduceLT, Int.reduceLE, Int.reduceAdd, Int.reduceSub, ↓reduceIte]
    refine draw_call s1.2 (by omega) (by omega) fun M2 j j0 j1 s2 => ?_
    try simp -dsimp only [bodyE, startD, List.map_cons, List.map_nil, List.length_cons, List.length_nil, List.replicate_succ, List.replicate_zero, List.cons_append, List.nil_append, Nat.reduceAdd, Nat.reduceSub, List.set_cons_zero, List.set_cons_succ, List.getElem?_cons_zero, List.getElem?_cons_succ, Bool.not_true, Bool.not_false, decide_true, decide_false, ↓IfS_t, ↓IfS_f, ↓IfE_t, ↓IfE_f, ↓AndT_t, ↓AndT_f, ↓OrT_t, ↓OrT_f, ↓AndV_t, ↓AndV_f, ↓OrV_t, ↓OrV_f, IfS_t, IfS_f, IfE_t, IfE_f, AndT_t, AndT_f, OrT_t, OrT_f, AndV_t, AndV_f, OrV_t, OrV_f, ↓eThen, ↓ePass, ↓eBreak, ↓eCont, ↓eExpr, ↓eRet, ↓eRetN, ↓eIfS, ↓eSet, ↓eOwn, ↓eAsg, ↓eSetIx, ↓eGSetIx, ↓eAug, ↓eIadd, ↓eIaddL, ↓eFrz, ↓eFor, ↓eWhile, ↓eNm, ↓eC, ↓eOp, ↓eB, ↓eTr, ↓eTrB, ↓eTrI, ↓eTrN, ↓eTrT, ↓eTrL, ↓eTrA, ↓eAnd, ↓eOr, ↓eNot, ↓eAndV, ↓eOrV, ↓eNotV, ↓eIf, ↓eNil, ↓eCons, ↓eTup, ↓eOfL, ↓eLstL, ↓eListL, ↓eCatL, ↓eLc, ↓eWipe0, ↓eWipe, ↓eSeq, ↓eRng1, ↓eRng2, ↓eCall, ↓eCallL, ↓eRetL, ↓eSrt, ↓eSrtU, ↓eCB, ↓eNeg, ↓eChain, ↓eAppend, ↓ePop, ↓eNo, ↓eSome, ↓eSl, ↓eAnyG, ↓eAllG, ↓eZip, ↓eZip3, ↓gIsC_, tyN_t, tyN_l, tyN_n, tyN_b, tyN_i, seqP_t, seqP_l, ↓eEn1, ↓eEn2, ↓eSeqA, ↓ePar, ↓gAnyL_, ↓gAllL_, ↓gSumL_, boolsD_map, intsD_map, ↓gSl_t, ↓gSl_l, ↓gSl_a, ↓gAdd_i, ↓gAdd_t, ↓gAdd_s, ↓gAdd_l, ↓gI0_i, ↓gI_i, ↓gMul_i, ↓gMul_t, ↓gEq_, ↓gNe_, ↓gIs_n, ↓gIs_b, ↓gIsNot_n, ↓gIsNot_b, ↓gIn_, ↓gNotIn_, ↓gIx_t, ↓gIx_l, ↓gIx_a, ↓gLen_, ↓gLen_l, ↓gLen_a, ↓gInt_, ↓gInt_b, ↓gTuple_, ↓gTuple_l, ↓gTuple_a, ↓gMax_, ↓gMin_, ↓gIsBool_b, ↓gIsBool_i, seqOf_t, seqOf_l, seqOf_a, lstOf_l, lstOf_a, rsv_i, rsv_b, rsv_s, rsv_n, rsv_t, rsv_l, dle_i, dle_b, dle_n, eqD_i, eqD_b, isNon, bNm_, bTup_, bCons_, bNil_, Option.bind_some, i40, i41, i42, i43, atI0, atI1, atI2, atI3, atI4, atI5, mset_same, true_and, beq_self_eq_true, Bool.false_eq_true, c0, c1, Int.cast_ofNat_Int, Int.reduceEq, Int.reduceLT, Int.reduceLE, Int.reduceAdd, Int.reduceSub, ↓reduceIte]
    exact ⟨by decide, post2 (.one j) _ ⟨j0, j1⟩ (s1.trans s2)⟩
  · try simp -dsimp only [bodyE, startD, List.map_cons, List.map_nil, List.length_cons, List.length_nil, List.replicate_succ, List.replicate_zero, List.cons_append, List.nil_append, Nat.reduceAdd, Nat.reduceSub, List.set_cons_zero, List.set_cons_succ, List.getElem?_cons_zero, List.getElem?_cons_succ, Bool.not_true, Bool.not_false, decide_true, decide_false, ↓IfS_t, ↓IfS_f, ↓IfE_t, ↓IfE_f, ↓AndT_t, ↓AndT_f, ↓OrT_t, ↓OrT_f, ↓AndV_t, ↓AndV_f, ↓OrV_t, ↓OrV_f, IfS_t, IfS_f, IfE_t, IfE_f, AndT_t, AndT_f, OrT_t, OrT_f, AndV_t, AndV_f, OrV_t, OrV_f, ↓eThen, ↓ePass, ↓eBreak, ↓eCont, ↓eExpr, ↓eRet, ↓eRetN, ↓eIfS, ↓eSet, ↓eOwn, ↓eAsg, ↓eSetIx, ↓eGSetIx, ↓eAug, ↓eIadd, ↓eIaddL, ↓eFrz, ↓eFor, ↓eWhile, ↓eNm, ↓eC, ↓eOp, ↓eB, ↓eTr, ↓eTrB, ↓eTrI, ↓eTrN, ↓eTrT, ↓eTrL, ↓eTrA, ↓eAnd, ↓eOr, ↓eNot, ↓eAndV, ↓eOrV, ↓eNotV, ↓eIf, ↓eNil, ↓eCons, ↓eTup, ↓eOfL, ↓eLstL, ↓eListL, ↓eCatL, ↓eLc, ↓eWipe0, ↓eWipe, ↓eSeq, ↓eRng1, ↓eRng2, ↓eCall, ↓eCallL, ↓eRetL, ↓eSrt, ↓eSrtU, ↓eCB, ↓eNeg, ↓eChain, ↓eAppend, ↓ePop, ↓eNo, ↓eSome, ↓eSl, ↓eAnyG, ↓eAllG, ↓eZip, ↓eZip3, ↓gIsC_, tyN_t, tyN_l, tyN_n, tyN_b, tyN_i, seqP_t, seqP_l, ↓eEn1, ↓eEn2, ↓eSeqA, ↓ePar, ↓gAnyL_, ↓gAllL_, ↓gSumL_, boolsD_map, intsD_map, ↓gSl_t, ↓gSl_l, ↓gSl_a, ↓gAdd_i, ↓gAdd_t, ↓gAdd_s, ↓gAdd_l, ↓gI0_i, ↓gI_i, ↓gMul_i, ↓gMul_t, ↓gEq_, ↓gNe_, ↓gIs_n, ↓gIs_b, ↓gIsNot_n, ↓gIsNot_b, ↓gIn_, ↓gNotIn_, ↓gIx_t, ↓gIx_l, ↓gIx_a, ↓gLen_, ↓gLen_l, ↓gLen_a, ↓gInt_, ↓gInt_b, ↓gTuple_, ↓gTuple_l, ↓gTuple_a, ↓gMax_, ↓gMin_, ↓gIsBool_b, ↓gIsBool_i, seqOf_t, seqOf_l, seqOf_a, lstOf_l, lstOf_a, rsv_i, rsv_b, rsv_s, rsv_n, rsv_t, rsv_l, dle_i, dle_b, dle_n, eqD_i, eqD_b, isNon, bNm_, bTup_, bCons_, bNil_, Option.bind_some, i40, i41, i42, i43, atI0, atI1, atI2, atI3, atI4, atI5, mset_same, true_and, beq_self_eq_true, Bool.false_eq_true, c0, c1, Int.cast_ofNat_Int, Int.reduceEq, Int.reduceLT, Int.reduceLE, Int.reduceAdd, Int.reduceSub, ↓reduceIte]
    refine ⟨by omega, ?_⟩
    refine lc_pick s1.2 (by rw [rngD_length]; have : sizeLine = 16777216 := rfl; omega) (fun d M' k _ hs hk => ?_) (fun d M' k _ hk => ?_) fun ys M' hys hs => ?_
    · try simp -dsimp only [bodyE, startD, List.map_cons, List.map_nil, List.length_cons, List.length_nil, List.replicate_succ, List.replicate_zero, List.cons_append, List.nil_append, Nat.reduceAdd, Nat.reduceSub, List.set_cons_zero, List.set_cons_succ, List.getElem?_cons_zero, List.getElem?_cons_succ, Bool.not_true, Bool.not_false, decide_true, decide_false, ↓IfS_t, ↓IfS_f, ↓IfE_t, ↓IfE_f, ↓AndT_t, ↓AndT_f, ↓OrT_t, ↓OrT_f, ↓AndV_t, ↓AndV_f, ↓OrV_t, ↓OrV_f, IfS_t, IfS_f, IfE_t, IfE_f, AndT_t, AndT_f, OrT_t, OrT_f, AndV_t, AndV_f, OrV_t, OrV_f, ↓eThen, ↓ePass, ↓eBreak, ↓eCont, ↓eExpr, ↓eRet, ↓eRetN, ↓eIfS, ↓eSet, ↓eOwn, ↓eAsg, ↓eSetIx, ↓eGSetIx, ↓eAug, ↓eIadd, ↓eIaddL, ↓eFrz, ↓eFor, ↓eWhile, ↓eNm, ↓eC, ↓eOp, ↓eB, ↓eTr, ↓eTrB, ↓eTrI, ↓eTrN, ↓eTrT, ↓eTrL, ↓eTrA, ↓eAnd, ↓eOr, ↓eNot, ↓eAndV, ↓eOrV, ↓eNotV, ↓eIf, ↓eNil, ↓eCons, ↓eTup, ↓eOfL, ↓eLstL, ↓eListL, ↓eCatL, ↓eLc, ↓eWipe0, ↓eWipe, ↓eSeq, ↓eRng1, ↓eRng2, ↓eCall, ↓eCallL, ↓eRetL, ↓eSrt, ↓eSrtU, ↓eCB, ↓eNeg, ↓eChain, ↓eAppend, ↓ePop, ↓eNo, ↓eSome, ↓eSl, ↓eAnyG, ↓eAllG, ↓eZip, ↓eZip3, ↓gIsC_, tyN_t, tyN_l, tyN_n, tyN_b, tyN_i, seqP_t, seqP_l, ↓eEn1, ↓eEn2, ↓eSeqA, ↓ePar, ↓gAnyL_, ↓gAllL_, ↓gSumL_, boolsD_map, intsD_map, ↓gSl_t, ↓gSl_l, ↓gSl_a, ↓gAdd_i, ↓gAdd_t, ↓gAdd_s, ↓gAdd_l, ↓gI0_i, ↓gI_i, ↓gMul_i, ↓gMul_t, ↓gEq_, ↓gNe_, ↓gIs_n, ↓gIs_b, ↓gIsNot_n, ↓gIsNot_b, ↓gIn_, ↓gNotIn_, ↓gIx_t, ↓gIx_l, ↓gIx_a, ↓gLen_, ↓gLen_l, ↓gLen_a, ↓gInt_, ↓gInt_b, ↓gTuple_, ↓gTuple_l, ↓gTuple_a, ↓gMax_, ↓gMin_, ↓gIsBool_b, ↓gIsBool_i, seqOf_t, seqOf_l, seqOf_a, lstOf_l, lstOf_a, rsv_i, rsv_b, rsv_s, rsv_n, rsv_t, rsv_l, dle_i, dle_b, dle_n, eqD_i, eqD_b, isNon, bNm_, bTup_, bCons_, bNil_, Option.bind_some, i40, i41, i42, i43, atI0, atI1, atI2, atI3, atI4, atI5, mset_same, true_and, beq_self_eq_true, Bool.false_eq_true, c0, c1, Int.cast_ofNat_Int, Int.reduceEq, Int.reduceLT, Int.reduceLE, Int.reduceAdd, Int.reduceSub, ↓reduceIte]
      exact draw_call hs.2 (by omega) (by omega) fun M2 j j0 j1 s2 => by try simp -dsimp only [bodyE, startD, List.map_cons, List.map_nil, List.length_cons, List.length_nil, List.replicate_succ, List.replicate_zero, List.cons_append, List.nil_append, Nat.reduceAdd, Nat.reduceSub, List.set_cons_zero, List.set_cons_succ, List.getElem?_cons_zero, List.getElem?_cons_succ, Bool.not_true, Bool.not_false, decide_true, decide_false, ↓IfS_t, ↓IfS_f, ↓IfE_t, ↓IfE_f, ↓AndT_t, ↓AndT_f, ↓OrT_t, ↓OrT_f, ↓AndV_t, ↓AndV_f, ↓OrV_t, ↓OrV_f, IfS_t, IfS_f, IfE_t, IfE_f, AndT_t, AndT_f, OrT_t, OrT_f, AndV_t, AndV_f, OrV_t, OrV_f, ↓eThen, ↓ePass, ↓eBreak, ↓eCont, ↓eExpr, ↓eRet, ↓eRetN, ↓eIfS, ↓eSet, ↓eOwn, ↓eAsg, ↓eSetIx, ↓eGSetIx, ↓eAug, ↓eIadd, ↓eIaddL, ↓eFrz, ↓eFor, ↓eWhile, ↓eNm, ↓eC, ↓eOp, ↓eB, ↓eTr, ↓eTrB, ↓eTrI, ↓eTrN, ↓eTrT, ↓eTrL, ↓eTrA, ↓eAnd, ↓eOr, ↓eNot, ↓eAndV, ↓eOrV, ↓eNotV, ↓eIf, ↓eNil, ↓eCons, ↓eTup, ↓eOfL, ↓eLstL, ↓eListL, ↓eCatL, ↓eLc, ↓eWipe0, ↓eWipe, ↓eSeq, ↓eRng1, ↓eRng2, ↓eCall, ↓eCallL, ↓eRetL, ↓eSrt, ↓eSrtU, ↓eCB, ↓eNeg, ↓eChain, ↓eAppend, ↓ePop, ↓eNo, ↓eSome, ↓eSl, ↓eAnyG, ↓eAllG, ↓eZip, ↓eZip3, ↓gIsC_, tyN_t, tyN_l, tyN_n, tyN_b, tyN_i, seqP_t, seqP_l, ↓eEn1, ↓eEn2, ↓eSeqA, ↓ePar, ↓gAnyL_, ↓gAllL_, ↓gSumL_, boolsD_map, intsD_map, ↓gSl_t, ↓gSl_l, ↓gSl_a, ↓gAdd_i, ↓gAdd_t, ↓gAdd_s, ↓gAdd_l, ↓gI0_i, ↓gI_i, ↓gMul_i, ↓gMul_t, ↓gEq_, ↓gNe_, ↓gIs_n, ↓gIs_b, ↓gIsNot_n, ↓gIsNot_b, ↓gIn_, ↓gNotIn_, ↓gIx_t, ↓gIx_l, ↓gIx_a, ↓gLen_, ↓gLen_l, ↓gLen_a, ↓gInt_, ↓gInt_b, ↓gTuple_, ↓gTuple_l, ↓gTuple_a, ↓gMax_, ↓gMin_, ↓gIsBool_b, ↓gIsBool_i, seqOf_t, seqOf_l, seqOf_a, lstOf_l, lstOf_a, rsv_i, rsv_b, rsv_s, rsv_n, rsv_t, rsv_l, dle_i, dle_b, dle_n, eqD_i, eqD_b, isNon, bNm_, bTup_, bCons_, bNil_, Option.bind_some, i40, i41, i42, i43, atI0, atI1, atI2, atI3, atI4, atI5, mset_same, true_and, beq_self_eq_true, Bool.false_eq_true, c0, c1, Int.cast_ofNat_Int, Int.reduceEq, Int.reduceLT, Int.reduceLE, Int.reduceAdd, Int.reduceSub, ↓reduceIte]; exact hk _ _ (hs.trans s2)
    · try simp -dsimp only [bodyE, startD, List.map_cons, List.map_nil, List.length_cons, List.length_nil, List.replicate_succ, List.replicate_zero, List.cons_append, List.nil_append, Nat.reduceAdd, Nat.reduceSub, List.set_cons_zero, List.set_cons_succ, List.getElem?_cons_zero, List.getElem?_cons_succ, Bool.not_true, Bool.not_false, decide_true, decide_false, ↓IfS_t, ↓IfS_f, ↓IfE_t, ↓IfE_f, ↓AndT_t, ↓AndT_f, ↓OrT_t, ↓OrT_f, ↓AndV_t, ↓AndV_f, ↓OrV_t, ↓OrV_f, IfS_t, IfS_f, IfE_t, IfE_f, AndT_t, AndT_f, OrT_t, OrT_f, AndV_t, AndV_f, OrV_t, OrV_f, ↓eThen, ↓ePass, ↓eBreak, ↓eCont, ↓eExpr, ↓eRet, ↓eRetN, ↓eIfS, ↓eSet, ↓eOwn, ↓eAsg, ↓eSetIx, ↓eGSetIx, ↓eAug, ↓eIadd, ↓eIaddL, ↓eFrz, ↓eFor, ↓eWhile, ↓eNm, ↓eC, ↓eOp, ↓eB, ↓eTr, ↓eTrB, ↓eTrI, ↓eTrN, ↓eTrT, ↓eTrL, ↓eTrA, ↓eAnd, ↓eOr, ↓eNot, ↓eAndV, ↓eOrV, ↓eNotV, ↓eIf, ↓eNil, ↓eCons, ↓eTup, ↓eOfL, ↓eLstL, ↓eListL, ↓eCatL, ↓eLc, ↓eWipe0, ↓eWipe, ↓eSeq, ↓eRng1, ↓eRng2, ↓eCall, ↓eCallL, ↓eRetL, ↓eSrt, ↓eSrtU, ↓eCB, ↓eNeg, ↓eChain, ↓eAppend, ↓ePop, ↓eNo, ↓eSome, ↓eSl, ↓eAnyG, ↓eAllG, ↓eZip, ↓eZip3, ↓gIsC_, tyN_t, tyN_l, tyN_n, tyN_b, tyN_i, seqP_t, seqP_l, ↓eEn1, ↓eEn2, ↓eSeqA, ↓ePar, ↓gAnyL_, ↓gAllL_, ↓gSumL_, boolsD_map, intsD_map, ↓gSl_t, ↓gSl_l, ↓gSl_a, ↓gAdd_i, ↓gAdd_t, ↓gAdd_s, ↓gAdd_l, ↓gI0_i, ↓gI_i, ↓gMul_i, ↓gMul_t, ↓gEq_, ↓gNe_, ↓gIs_n, ↓gIs_b, ↓gIsNot_n, ↓gIsNot_b, ↓gIn_, ↓gNotIn_, ↓gIx_t, ↓gIx_l, ↓gIx_a, ↓gLen_, ↓gLen_l, ↓gLen_a, ↓gInt_, ↓gInt_b, ↓gTuple_, ↓gTuple_l, ↓gTuple_a, ↓gMax_, ↓gMin_, ↓gIsBool_b, ↓gIsBool_i, seqOf_t, seqOf_l, seqOf_a, lstOf_l, lstOf_a, rsv_i, rsv_b, rsv_s, rsv_n, rsv_t, rsv_l, dle_i, dle_b, dle_n, eqD_i, eqD_b, isNon, bNm_, bTup_, bCons_, bNil_, Option.bind_some, i40, i41, i42, i43, atI0, atI1, atI2, atI3, atI4, atI5, mset_same, true_and, beq_self_eq_true, Bool.false_eq_true, c0, c1, Int.cast_ofNat_Int, Int.reduceEq, Int.reduceLT, Int.reduceLE, Int.reduceAdd, Int.reduceSub, ↓reduceIte]
      exact hk
    · obtain ⟨w, rfl, hw, hl, hp⟩ := sub_rng hys
      have hw2 : okW L w := fun x hx => by have := hw x hx; omega
      try simp -dsimp only [bodyE, startD, List.map_cons, List.map_nil, List.length_cons, List.length_nil, List.replicate_succ, List.replicate_zero, List.cons_append, List.nil_append, Nat.reduceAdd, Nat.reduceSub, List.set_cons_zero, List.set_cons_succ, List.getElem?_cons_zero, List.getElem?_cons_succ, Bool.not_true, Bool.not_false, decide_true, decide_false, ↓IfS_t, ↓IfS_f, ↓IfE_t, ↓IfE_f, ↓AndT_t, ↓AndT_f, ↓OrT_t, ↓OrT_f, ↓AndV_t, ↓AndV_f, ↓OrV_t, ↓OrV_f, IfS_t, IfS_f, IfE_t, IfE_f, AndT_t, AndT_f, OrT_t, OrT_f, AndV_t, AndV_f, OrV_t, OrV_f, ↓eThen, ↓ePass, ↓eBreak, ↓eCont, ↓eExpr, ↓eRet, ↓eRetN, ↓eIfS, ↓eSet, ↓eOwn, ↓eAsg, ↓eSetIx, ↓eGSetIx, ↓eAug, ↓eIadd, ↓eIaddL, ↓eFrz, ↓eFor, ↓eWhile, ↓eNm, ↓eC, ↓eOp, ↓eB, ↓eTr, ↓eTrB, ↓eTrI, ↓eTrN, ↓eTrT, ↓eTrL, ↓eTrA, ↓eAnd, ↓eOr, ↓eNot, ↓eAndV, ↓eOrV, ↓eNotV, ↓eIf, ↓eNil, ↓eCons, ↓eTup, ↓eOfL, ↓eLstL, ↓eListL, ↓eCatL, ↓eLc, ↓eWipe0, ↓eWipe, ↓eSeq, ↓eRng1, ↓eRng2, ↓eCall, ↓eCallL, ↓eRetL, ↓eSrt, ↓eSrtU, ↓eCB, ↓eNeg, ↓eChain, ↓eAppend, ↓ePop, ↓eNo, ↓eSome, ↓eSl, ↓eAnyG, ↓eAllG, ↓eZip, ↓eZip3, ↓gIsC_, tyN_t, tyN_l, tyN_n, tyN_b, tyN_i, seqP_t, seqP_l, ↓eEn1, ↓eEn2, ↓eSeqA, ↓ePar, ↓gAnyL_, ↓gAllL_, ↓gSumL_, boolsD_map, intsD_map, ↓gSl_t, ↓gSl_l, ↓gSl_a, ↓gAdd_i, ↓gAdd_t, ↓gAdd_s, ↓gAdd_l, ↓gI0_i, ↓gI_i, ↓gMul_i, ↓gMul_t, ↓gEq_, ↓gNe_, ↓gIs_n, ↓gIs_b, ↓gIsNot_n, ↓gIsNot_b, ↓gIn_, ↓gNotIn_, ↓gIx_t, ↓gIx_l, ↓gIx_a, ↓gLen_, ↓gLen_l, ↓gLen_a, ↓gInt_, ↓gInt_b, ↓gTuple_, ↓gTuple_l, ↓gTuple_a, ↓gMax_, ↓gMin_, ↓gIsBool_b, ↓gIsBool_i, seqOf_t, seqOf_l, seqOf_a, lstOf_l, lstOf_a, rsv_i, rsv_b, rsv_s, rsv_n, rsv_t, rsv_l, dle_i, dle_b, dle_n, eqD_i, eqD_b, isNon, bNm_, bTup_, bCons_, bNil_, Option.bind_some, i40, i41, i42, i43, atI0, atI1, atI2, atI3, atI4, atI5, mset_same, true_and, beq_self_eq_true, Bool.false_eq_true, c0, c1, Int.cast_ofNat_Int, Int.reduceEq, Int.reduceLT, Int.reduceLE, Int.reduceAdd, Int.reduceSub, ↓reduceIte]
      refine IfS_mk (fun h => ?_) fun h => ?_
      · try simp -dsimp only [bodyE, startD, List.map_cons, List.map_nil, List.length_cons, List.length_nil, List.replicate_succ, List.replicate_zero, List.cons_append, List.nil_append, Nat.reduceAdd, Nat.reduceSub, List.set_cons_zero, List.set_cons_succ, List.getElem?_cons_zero, List.getElem?_cons_succ, Bool.not_true, Bool.not_false, decide_true, decide_false, ↓IfS_t, ↓IfS_f, ↓IfE_t, ↓IfE_f, ↓AndT_t, ↓AndT_f, ↓OrT_t, ↓OrT_f, ↓AndV_t, ↓AndV_f, ↓OrV_t, ↓OrV_f, IfS_t, IfS_f, IfE_t, IfE_f, AndT_t, AndT_f, OrT_t, OrT_f, AndV_t, AndV_f, OrV_t, OrV_f, ↓eThen, ↓ePass, ↓eBreak, ↓eCont, ↓eExpr, ↓eRet, ↓eRetN, ↓eIfS, ↓eSet, ↓eOwn, ↓eAsg, ↓eSetIx, ↓eGSetIx, ↓eAug, ↓eIadd, ↓eIaddL, ↓eFrz, ↓eFor, ↓eWhile, ↓eNm, ↓eC, ↓eOp, ↓eB, ↓eTr, ↓eTrB, ↓eTrI, ↓eTrN, ↓eTrT, ↓eTrL, ↓eTrA, ↓eAnd, ↓eOr, ↓eNot, ↓eAndV, ↓eOrV, ↓eNotV, ↓eIf, ↓eNil, ↓eCons, ↓eTup, ↓eOfL, ↓eLstL, ↓eListL, ↓eCatL, ↓eLc, ↓eWipe0, ↓eWipe, ↓eSeq, ↓eRng1, ↓eRng2, ↓eCall, ↓eCallL, ↓eRetL, ↓eSrt, ↓eSrtU, ↓eCB, ↓eNeg, ↓eChain, ↓eAppend, ↓ePop, ↓eNo, ↓eSome, ↓eSl, ↓eAnyG, ↓eAllG, ↓eZip, ↓eZip3, ↓gIsC_, tyN_t, tyN_l, tyN_n, tyN_b, tyN_i, seqP_t, seqP_l, ↓eEn1, ↓eEn2, ↓eSeqA, ↓ePar, ↓gAnyL_, ↓gAllL_, ↓gSumL_, boolsD_map, intsD_map, ↓gSl_t, ↓gSl_l, ↓gSl_a, ↓gAdd_i, ↓gAdd_t, ↓gAdd_s, ↓gAdd_l, ↓gI0_i, ↓gI_i, ↓gMul_i, ↓gMul_t, ↓gEq_, ↓gNe_, ↓gIs_n, ↓gIs_b, ↓gIsNot_n, ↓gIsNot_b, ↓gIn_, ↓gNotIn_, ↓gIx_t, ↓gIx_l, ↓gIx_a, ↓gLen_, ↓gLen_l, ↓gLen_a, ↓gInt_, ↓gInt_b, ↓gTuple_, ↓gTuple_l, ↓gTuple_a, ↓gMax_, ↓gMin_, ↓gIsBool_b, ↓gIsBool_i, seqOf_t, seqOf_l, seqOf_a, lstOf_l, lstOf_a, rsv_i, rsv_b, rsv_s, rsv_n, rsv_t, rsv_l, dle_i, dle_b, dle_n, eqD_i, eqD_b, isNon, bNm_, bTup_, bCons_, bNil_, Option.bind_some, i40, i41, i42, i43, atI0, atI1, atI2, atI3, atI4, atI5, mset_same, true_and, beq_self_eq_true, Bool.false_eq_true, c0, c1, Int.cast_ofNat_Int, Int.reduceEq, Int.reduceLT, Int.reduceLE, Int.reduceAdd, Int.reduceSub, ↓reduceIte]
        refine draw_call hs.2 (by omega) (by omega) fun M2 j j0 j1 s2 => ?_
        try simp -dsimp only [bodyE, startD, List.map_cons, List.map_nil, List.length_cons, List.length_nil, List.replicate_succ, List.replicate_zero, List.cons_append, List.nil_append, Nat.reduceAdd, Nat.reduceSub, List.set_cons_zero, List.set_cons_succ, List.getElem?_cons_zero, List.getElem?_cons_succ, Bool.not_true, Bool.not_false, decide_true, decide_false, ↓IfS_t, ↓IfS_f, ↓IfE_t, ↓IfE_f, ↓AndT_t, ↓AndT_f, ↓OrT_t, ↓OrT_f, ↓AndV_t, ↓AndV_f, ↓OrV_t, ↓OrV_f, IfS_t, IfS_f, IfE_t, IfE_f, AndT_t, AndT_f, OrT_t, OrT_f, AndV_t, AndV_f, OrV_t, OrV_f, ↓eThen, ↓ePass, ↓eBreak, ↓eCont, ↓eExpr, ↓eRet, ↓eRetN, ↓eIfS, ↓eSet, ↓eOwn, ↓eAsg, ↓eSetIx, ↓eGSetIx, ↓eAug, ↓eIadd, ↓eIaddL, ↓eFrz, ↓eFor, ↓eWhile, ↓eNm, ↓eC, ↓eOp, ↓eB, ↓eTr, ↓eTrB, ↓eTrI, ↓eTrN, ↓eTrT, ↓eTrL, ↓eTrA, ↓eAnd, ↓eOr, ↓eNot, ↓eAndV, ↓eOrV, ↓eNotV, ↓eIf, ↓eNil, ↓eCons, ↓eTup, ↓eOfL, ↓eLstL, ↓eListL, ↓eCatL, ↓eLc, ↓eWipe0, ↓eWipe, ↓eSeq, ↓eRng1, ↓eRng2, ↓eCall, ↓eCallL, ↓eRetL, ↓eSrt, ↓eSrtU, ↓eCB, ↓eNeg, ↓eChain, ↓eAppend, ↓ePop, ↓eNo, ↓eSome, ↓eSl, ↓eAnyG, ↓eAllG, ↓eZip, ↓eZip3, ↓gIsC_, tyN_t, tyN_l, tyN_n, tyN_b, tyN_i, seqP_t, seqP_l, ↓eEn1, ↓eEn2, ↓eSeqA, ↓ePar, ↓gAnyL_, ↓gAllL_, ↓gSumL_, boolsD_map, intsD_map, ↓gSl_t, ↓gSl_l, ↓gSl_a, ↓gAdd_i, ↓gAdd_t, ↓gAdd_s, ↓gAdd_l, ↓gI0_i, ↓gI_i, ↓gMul_i, ↓gMul_t, ↓gEq_, ↓gNe_, ↓gIs_n, ↓gIs_b, ↓gIsNot_n, ↓gIsNot_b, ↓gIn_, ↓gNotIn_, ↓gIx_t, ↓gIx_l, ↓gIx_a, ↓gLen_, ↓gLen_l, ↓gLen_a, ↓gInt_, ↓gInt_b, ↓gTuple_, ↓gTuple_l, ↓gTuple_a, ↓gMax_, ↓gMin_, ↓gIsBool_b, ↓gIsBool_i, seqOf_t, seqOf_l, seqOf_a, lstOf_l, lstOf_a, rsv_i, rsv_b, rsv_s, rsv_n, rsv_t, rsv_l, dle_i, dle_b, dle_n, eqD_i, eqD_b, isNon, bNm_, bTup_, bCons_, bNil_, Option.bind_some, i40, i41, i42, i43, atI0, atI1, atI2, atI3, atI4, atI5, mset_same, true_and, beq_self_eq_true, Bool.false_eq_true, c0, c1, Int.cast_ofNat_Int, Int.reduceEq, Int.reduceLT, Int.reduceLE, Int.reduceAdd, Int.reduceSub, ↓reduceIte]
        refine ⟨by decide, by decide, post2 (.any [j]) _ ⟨by simp, fun x hx => ?_, ?_, by simp⟩ ((s1.trans hs).trans s2)⟩
        · rw [List.mem_singleton.mp hx]; exact ⟨j0, j1⟩
        · simp; omega
      · have hne := of_decide_eq_false h
        try simp -dsimp only [bodyE, startD, List.map_cons, List.map_nil, List.length_cons, List.length_nil, List.replicate_succ, List.replicate_zero, List.cons_append, List.nil_append, Nat.reduceAdd, Nat.reduceSub, List.set_cons_zero, List.set_cons_succ, List.getElem?_cons_zero, List.getElem?_cons_succ, Bool.not_true, Bool.not_false, decide_true, decide_false, ↓IfS_t, ↓IfS_f, ↓IfE_t, ↓IfE_f, ↓AndT_t, ↓AndT_f, ↓OrT_t, ↓OrT_f, ↓AndV_t, ↓AndV_f, ↓OrV_t, ↓OrV_f, IfS_t, IfS_f, IfE_t, IfE_f, AndT_t, AndT_f, OrT_t, OrT_f, AndV_t, AndV_f, OrV_t, OrV_f, ↓eThen, ↓ePass, ↓eBreak, ↓eCont, ↓eExpr, ↓eRet, ↓eRetN, ↓eIfS, ↓eSet, ↓eOwn, ↓eAsg, ↓eSetIx, ↓eGSetIx, ↓eAug, ↓eIadd, ↓eIaddL, ↓eFrz, ↓eFor, ↓eWhile, ↓eNm, ↓eC, ↓eOp, ↓eB, ↓eTr, ↓eTrB, ↓eTrI, ↓eTrN, ↓eTrT, ↓eTrL, ↓eTrA, ↓eAnd, ↓eOr, ↓eNot, ↓eAndV, ↓eOrV, ↓eNotV, ↓eIf, ↓eNil, ↓eCons, ↓eTup, ↓eOfL, ↓eLstL, ↓eListL, ↓eCatL, ↓eLc, ↓eWipe0, ↓eWipe, ↓eSeq, ↓eRng1, ↓eRng2, ↓eCall, ↓eCallL, ↓eRetL, ↓eSrt, ↓eSrtU, ↓eCB, ↓eNeg, ↓eChain, ↓eAppend, ↓ePop, ↓eNo, ↓eSome, ↓eSl, ↓eAnyG, ↓eAllG, ↓eZip, ↓eZip3, ↓gIsC_, tyN_t, tyN_l, tyN_n, tyN_b, tyN_i, seqP_t, seqP_l, ↓eEn1, ↓eEn2, ↓eSeqA, ↓ePar, ↓gAnyL_, ↓gAllL_, ↓gSumL_, boolsD_map, intsD_map, ↓gSl_t, ↓gSl_l, ↓gSl_a, ↓gAdd_i, ↓gAdd_t, ↓gAdd_s, ↓gAdd_l, ↓gI0_i, ↓gI_i, ↓gMul_i, ↓gMul_t, ↓gEq_, ↓gNe_, ↓gIs_n, ↓gIs_b, ↓gIsNot_n, ↓gIsNot_b, ↓gIn_, ↓gNotIn_, ↓gIx_t, ↓gIx_l, ↓gIx_a, ↓gLen_, ↓gLen_l, ↓gLen_a, ↓gInt_, ↓gInt_b, ↓gTuple_, ↓gTuple_l, ↓gTuple_a, ↓gMax_, ↓gMin_, ↓gIsBool_b, ↓gIsBool_i, seqOf_t, seqOf_l, seqOf_a, lstOf_l, lstOf_a, rsv_i, rsv_b, rsv_s, rsv_n, rsv_t, rsv_l, dle_i, dle_b, dle_n, eqD_i, eqD_b, isNon, bNm_, bTup_, bCons_, bNil_, Option.bind_some, i40, i41, i42, i43, atI0, atI1, atI2, atI3, atI4, atI5, mset_same, true_and, beq_self_eq_true, Bool.false_eq_true, c0, c1, Int.cast_ofNat_Int, Int.reduceEq, Int.reduceLT, Int.reduceLE, Int.reduceAdd, Int.reduceSub, ↓reduceIte]
        refine ⟨by decide, post2 (.any w) _ ⟨fun e => hne ?_, hw2, by omega, hp⟩ (s1.trans hs)⟩
        subst e; rfl
theorem b_lpattern (ds : List D) (M : Mu) (Q : D → Mu → Prop) (xw : XW) (h : S_lpattern ds M Q xw) : bodyE N_lpattern (f_lpattern S_ldraw S_latom) ds M Q xw := by
  obtain ⟨a, rest, rfl, ⟨L, m, rfl, L0, L1, m0, m1⟩, st, post⟩ := h
  have post2 : ∀ (p : List Atom) M', (p.length : Int) ≤ m → (∀ A ∈ p, okA L A) → Stp a M M' → Q (pD p) (mres M' M) := fun w M' h1 h2 h3 => post _ _ ⟨L, m, w, rfl, rfl, h1, h2⟩ (h3.res st)
  simp only [bodyE, bodyL, startD, N_lpattern, List.map_cons, List.map_nil, List.length_cons, List.length_nil, List.replicate_succ, List.replicate_zero, List.cons_append, List.nil_append, Nat.reduceAdd, Nat.reduceSub]
  unfold f_lpattern
  try simp -dsimp only [bodyE, startD, List.map_cons, List.map_nil, List.length_cons, List.length_nil, List.replicate_succ, List.replicate_zero, List.cons_append, List.nil_append, Nat.reduceAdd, Nat.reduceSub, List.set_cons_zero, List.set_cons_succ, List.getElem?_cons_zero, List.getElem?_cons_succ, Bool.not_true, Bool.not_false, decide_true, decide_false, ↓IfS_t, ↓IfS_f, ↓IfE_t, ↓IfE_f, ↓AndT_t, ↓AndT_f, ↓OrT_t, ↓OrT_f, ↓AndV_t, ↓AndV_f, ↓OrV_t, ↓OrV_f, IfS_t, IfS_f, IfE_t, IfE_f, AndT_t, AndT_f, OrT_t, OrT_f, AndV_t, AndV_f, OrV_t, OrV_f, ↓eThen, ↓ePass, ↓eBreak, ↓eCont, ↓eExpr, ↓eRet, ↓eRetN, ↓eIfS, ↓eSet, ↓eOwn, ↓eAsg, ↓eSetIx, ↓eGSetIx, ↓eAug, ↓eIadd, ↓eIaddL, ↓eFrz, ↓eFor, ↓eWhile, ↓eNm, ↓eC, ↓eOp, ↓eB, ↓eTr, ↓eTrB, ↓eTrI, ↓eTrN, ↓eTrT, ↓eTrL, ↓eTrA, ↓eAnd, ↓eOr, ↓eNot, ↓eAndV, ↓eOrV, ↓eNotV, ↓eIf, ↓eNil, ↓eCons, ↓eTup, ↓eOfL, ↓eLstL, ↓eListL, ↓eCatL, ↓eLc, ↓eWipe0, ↓eWipe, ↓eSeq, ↓eRng1, ↓eRng2, ↓eCall, ↓eCallL, ↓eRetL, ↓eSrt, ↓eSrtU, ↓eCB, ↓eNeg, ↓eChain, ↓eAppend, ↓ePop, ↓eNo, ↓eSome, ↓eSl, ↓eAnyG, ↓eAllG, ↓eZip, ↓eZip3, ↓gIsC_, tyN_t, tyN_l, tyN_n, tyN_b, tyN_i, seqP_t, seqP_l, ↓eEn1, ↓eEn2, ↓eSeqA, ↓ePar, ↓gAnyL_, ↓gAllL_, ↓gSumL_, boolsD_map, intsD_map, ↓gSl_t, ↓gSl_l, ↓gSl_a, ↓gAdd_i, ↓gAdd_t, ↓gAdd_s, ↓gAdd_l, ↓gI0_i, ↓gI_i, ↓gMul_i, ↓gMul_t, ↓gEq_, ↓gNe_, ↓gIs_n, ↓gIs_b, ↓gIsNot_n, ↓gIsNot_b, ↓gIn_, ↓gNotIn_, ↓gIx_t, ↓gIx_l, ↓gIx_a, ↓gLen_, ↓gLen_l, ↓gLen_a, ↓gInt_, ↓gInt_b, ↓gTuple_, ↓gTuple_l, ↓gTuple_a, ↓gMax_, ↓gMin_, ↓gIsBool_b, ↓gIsBool_i, seqOf_t, seqOf_l, seqOf_a, lstOf_l, lstOf_a, rsv_i, rsv_b, rsv_s, rsv_n, rsv_t, rsv_l, dle_i, dle_b, dle_n, eqD_i, eqD_b, isNon, bNm_, bTup_, bCons_, bNil_, Option.bind_some, i40, i41, i42, i43, atI0, atI1, atI2, atI3, atI4, atI5, mset_same, true_and, beq_self_eq_true, Bool.false_eq_true, c0, c1, Int.cast_ofNat_Int, Int.reduceEq, Int.reduceLT, Int.reduceLE, Int.reduceAdd, Int.reduceSub, ↓reduceIte]
  refine IfS_mk (fun h => ?_) fun h => ?_
  · try simp -dsimp only [bodyE, startD, List.map_cons, List.map_nil, List.length_cons, List.length_nil, List.replicate_succ, List.replicate_zero, List.cons_append, List.nil_append, Nat.reduceAdd, Nat.reduceSub, List.set_cons_zero, List.set_cons_succ, List.getElem?_cons_zero, List.getElem?_cons_succ, Bool.not_true, Bool.not_false, decide_true, decide_false, ↓IfS_t, ↓IfS_f, ↓IfE_t, ↓IfE_f, ↓AndT_t, ↓AndT_f, ↓OrT_t, ↓OrT_f, ↓AndV_t, ↓AndV_f, ↓OrV_t, ↓OrV_f, IfS_t, IfS_f, IfE_t, IfE_f, AndT_t, AndT_f, OrT_t, OrT_f, AndV_t, AndV_f, OrV_t, OrV_f, ↓eThen, ↓ePass, ↓eBreak, ↓eCont, ↓eExpr, ↓eRet, ↓eRetN, ↓eIfS, ↓eSet, ↓eOwn, ↓eAsg, ↓eSetIx, ↓eGSetIx, ↓eAug, ↓eIadd, ↓eIaddL, ↓eFrz, ↓eFor, ↓eWhile, ↓eNm, ↓eC, ↓eOp, ↓eB, ↓eTr, ↓eTrB, ↓eTrI, ↓eTrN, ↓eTrT, ↓eTrL, ↓eTrA, ↓eAnd, ↓eOr, ↓eNot, ↓eAndV, ↓eOrV, ↓eNotV, ↓eIf, ↓eNil, ↓eCons, ↓eTup, ↓eOfL, ↓eLstL, ↓eListL, ↓eCatL, ↓eLc, ↓eWipe0, ↓eWipe, ↓eSeq, ↓eRng1, ↓eRng2, ↓eCall, ↓eCallL, ↓eRetL, ↓eSrt, ↓eSrtU, ↓eCB, ↓eNeg, ↓eChain, ↓eAppend, ↓ePop, ↓eNo, ↓eSome, ↓eSl, ↓eAnyG, ↓eAllG, ↓eZip, ↓eZip3, ↓gIsC_, tyN_t, tyN_l, tyN_n, tyN_b, tyN_i, seqP_t, seqP_l, ↓eEn1, ↓eEn2, ↓eSeqA, ↓ePar, ↓gAnyL_, ↓gAllL_, ↓gSumL_, boolsD_map, intsD_map, ↓gSl_t, ↓gSl_l, ↓gSl_a, ↓gAdd_i, ↓gAdd_t, ↓gAdd_s, ↓gAdd_l, ↓gI0_i, ↓gI_i, ↓gMul_i, ↓gMul_t, ↓gEq_, ↓gNe_, ↓gIs_n, ↓gIs_b, ↓gIsNot_n, ↓gIsNot_b, ↓gIn_, ↓gNotIn_, ↓gIx_t, ↓gIx_l, ↓gIx_a, ↓gLen_, ↓gLen_l, ↓gLen_a, ↓gInt_, ↓gInt_b, ↓gTuple_, ↓gTuple_l, ↓gTuple_a, ↓gMax_, ↓gMin_, ↓gIsBool_b, ↓gIsBool_i, seqOf_t, seqOf_l, seqOf_a, lstOf_l, lstOf_a, rsv_i, rsv_b, rsv_s, rsv_n, rsv_t, rsv_l, dle_i, dle_b, dle_n, eqD_i, eqD_b, isNon, bNm_, bTup_, bCons_, bNil_, Option.bind_some, i40, i41, i42, i43, atI0, atI1, atI2, atI3, atI4, atI5, mset_same, true_and, beq_self_eq_true, Bool.false_eq_true, c0, c1, Int.cast_ofNat_Int, Int.reduceEq, Int.reduceLT, Int.reduceLE, Int.reduceAdd, Int.reduceSub, ↓reduceIte]
    exact ⟨by decide, post2 [] M (by simpa using m0) (fun _ h => (nomatch h)) (.refl st)⟩
  · have hL : L ≠ 0 := of_decide_eq_false h
    try simp -dsimp only [bodyE, startD, List.map_cons, List.map_nil, List.length_cons, List.length_nil, List.replicate_succ, List.replicate_zero, List.cons_append, List.nil_append, Nat.reduceAdd, Nat.reduceSub, List.set_cons_zero, List.set_cons_succ, List.getElem?_cons_zero, List.getElem?_cons_succ, Bool.not_true, Bool.not_false, decide_true, decide_false, ↓IfS_t, ↓IfS_f, ↓IfE_t, ↓IfE_f, ↓AndT_t, ↓AndT_f, ↓OrT_t, ↓OrT_f, ↓AndV_t, ↓AndV_f, ↓OrV_t, ↓OrV_f, IfS_t, IfS_f, IfE_t, IfE_f, AndT_t, AndT_f, OrT_t, OrT_f, AndV_t, AndV_f, OrV_t, OrV_f, ↓eThen, ↓ePass, ↓eBreak, ↓eCont, ↓eExpr, ↓eRet, ↓eRetN, ↓eIfS, ↓eSet, ↓eOwn, ↓eAsg, ↓eSetIx, ↓eGSetIx, ↓eAug, ↓eIadd, ↓eIaddL, ↓eFrz, ↓eFor, ↓eWhile, ↓eNm, ↓eC, ↓eOp, ↓eB, ↓eTr, ↓eTrB, ↓eTrI, ↓eTrN, ↓eTrT, ↓eTrL, ↓eTrA, ↓eAnd, ↓eOr, ↓eNot, ↓eAndV, ↓eOrV, ↓eNotV, ↓eIf, ↓eNil, ↓eCons, ↓eTup, ↓eOfL, ↓eLstL, ↓eListL, ↓eCatL, ↓eLc, ↓eWipe0, ↓eWipe, ↓eSeq, ↓eRng1, ↓eRng2, ↓eCall, ↓eCallL, ↓eRetL, ↓eSrt, ↓eSrtU, ↓eCB, ↓eNeg, ↓eChain, ↓eAppend, ↓ePop, ↓eNo, ↓eSome, ↓eSl, ↓eAnyG, ↓eAllG, ↓eZip, ↓eZip3, ↓gIsC_, tyN_t, tyN_l, tyN_n, tyN_b, tyN_i, seqP_t, seqP_l, ↓eEn1, ↓eEn2, ↓eSeqA, ↓ePar, ↓gAnyL_, ↓gAllL_, ↓gSumL_, boolsD_map, intsD_map, ↓gSl_t, ↓gSl_l, ↓gSl_a, ↓gAdd_i, ↓gAdd_t, ↓gAdd_s, ↓gAdd_l, ↓gI0_i, ↓gI_i, ↓gMul_i, ↓gMul_t, ↓gEq_, ↓gNe_, ↓gIs_n, ↓gIs_b, ↓gIsNot_n, ↓gIsNot_b, ↓gIn_, ↓gNotIn_, ↓gIx_t, ↓gIx_l, ↓gIx_a, ↓gLen_, ↓gLen_l, ↓gLen_a, ↓gInt_, ↓gInt_b, ↓gTuple_, ↓gTuple_l, ↓gTuple_a, ↓gMax_, ↓gMin_, ↓gIsBool_b, ↓gIsBool_i, seqOf_t, seqOf_l, seqOf_a, lstOf_l, lstOf_a, rsv_i, rsv_b, rsv_s, rsv_n, rsv_t, rsv_l, dle_i, dle_b, dle_n, eqD_i, eqD_b, isNon, bNm_, bTup_, bCons_, bNil_, Option.bind_some, i40, i41, i42, i43, atI0, atI1, atI2, atI3, atI4, atI5, mset_same, true_and, beq_self_eq_true, Bool.false_eq_true, c0, c1, Int.cast_ofNat_Int, Int.reduceEq, Int.reduceLT, Int.reduceLE, Int.reduceAdd, Int.reduceSub, ↓reduceIte]
    refine draw_call st (by omega) (by omega) fun M1 i i0 i1 s1 => ?_
    try simp -dsimp only [bodyE, startD, List.map_cons, List.map_nil, List.length_cons, List.length_nil, List.replicate_succ, List.replicate_zero, List.cons_append, List.nil_append, Nat.reduceAdd, Nat.reduceSub, List.set_cons_zero, List.set_cons_succ, List.getElem?_cons_zero, List.getElem?_cons_succ, Bool.not_true, Bool.not_false, decide_true, decide_false, ↓IfS_t, ↓IfS_f, ↓IfE_t, ↓IfE_f, ↓AndT_t, ↓AndT_f, ↓OrT_t, ↓OrT_f, ↓AndV_t, ↓AndV_f, ↓OrV_t, ↓OrV_f, IfS_t, IfS_f, IfE_t, IfE_f, AndT_t, AndT_f, OrT_t, OrT_f, AndV_t, AndV_f, OrV_t, OrV_f, ↓eThen, ↓ePass, ↓eBreak, ↓eCont, ↓eExpr, ↓eRet, ↓eRetN, ↓eIfS, ↓eSet, ↓eOwn, ↓eAsg, ↓eSetIx, ↓eGSetIx, ↓eAug, ↓eIadd, ↓eIaddL, ↓eFrz, ↓eFor, ↓eWhile, ↓eNm, ↓eC, ↓eOp, ↓eB, ↓eTr, ↓eTrB, ↓eTrI, ↓eTrN, ↓eTrT, ↓eTrL, ↓eTrA, ↓eAnd, ↓eOr, ↓eNot, ↓eAndV, ↓eOrV, ↓eNotV, ↓eIf, ↓eNil, ↓eCons, ↓eTup, ↓eOfL, ↓eLstL, ↓eListL, ↓eCatL, ↓eLc, ↓eWipe0, ↓eWipe, ↓eSeq, ↓eRng1, ↓eRng2, ↓eCall, ↓eCallL, ↓eRetL, ↓eSrt, ↓eSrtU, ↓eCB, ↓eNeg, ↓eChain, ↓eAppend, ↓ePop, ↓eNo, ↓eSome, ↓eSl, ↓eAnyG, ↓eAllG, ↓eZip, ↓eZip3, ↓gIsC_, tyN_t, tyN_l, tyN_n, tyN_b, tyN_i, seqP_t, seqP_l, ↓eEn1, ↓eEn2, ↓eSeqA, ↓ePar, ↓gAnyL_, ↓gAllL_, ↓gSumL_, boolsD_map, intsD_map, ↓gSl_t, ↓gSl_l, ↓gSl_a, ↓gAdd_i, ↓gAdd_t, ↓gAdd_s, ↓gAdd_l, ↓gI0_i, ↓gI_i, ↓gMul_i, ↓gMul_t, ↓gEq_, ↓gNe_, ↓gIs_n, ↓gIs_b, ↓gIsNot_n, ↓gIsNot_b, ↓gIn_, ↓gNotIn_, ↓gIx_t, ↓gIx_l, ↓gIx_a, ↓gLen_, ↓gLen_l, ↓gLen_a, ↓gInt_, ↓gInt_b, ↓gTuple_, ↓gTuple_l, ↓gTuple_a, ↓gMax_, ↓gMin_, ↓gIsBool_b, ↓gIsBool_i, seqOf_t, seqOf_l, seqOf_a, lstOf_l, lstOf_a, rsv_i, rsv_b, rsv_s, rsv_n, rsv_t, rsv_l, dle_i, dle_b, dle_n, eqD_i, eqD_b, isNon, bNm_, bTup_, bCons_, bNil_, Option.bind_some, i40, i41, i42, i43, atI0, atI1, atI2, atI3, atI4, atI5, mset_same, true_and, beq_self_eq_true, Bool.false_eq_true, c0, c1, Int.cast_ofNat_Int, Int.reduceEq, Int.reduceLT, Int.reduceLE, Int.reduceAdd, Int.reduceSub, ↓reduceIte]
    refine ⟨by omega, ?_⟩
    refine lc_gen (fun y => ∃ A : Atom, y = atD A ∧ okA L A) s1.2 (by rw [rngD_length]; have : sizeLine = 16777216 := rfl; omega) (fun d M' k _ hs hk => ?_) fun ys M' hl hy hs => ?_
    · try simp -dsimp only [bodyE, startD, List.map_cons, List.map_nil, List.length_cons, List.length_nil, List.replicate_succ, List.replicate_zero, List.cons_append, List.nil_append, Nat.reduceAdd, Nat.reduceSub, List.set_cons_zero, List.set_cons_succ, List.getElem?_cons_zero, List.getElem?_cons_succ, Bool.not_true, Bool.not_false, decide_true, decide_false, ↓IfS_t, ↓IfS_f, ↓IfE_t, ↓IfE_f, ↓AndT_t, ↓AndT_f, ↓OrT_t, ↓OrT_f, ↓AndV_t, ↓AndV_f, ↓OrV_t, ↓OrV_f, IfS_t, IfS_f, IfE_t, IfE_f, AndT_t, AndT_f, OrT_t, OrT_f, AndV_t, AndV_f, OrV_t, OrV_f, ↓eThen, ↓ePass, ↓eBreak, ↓eCont, ↓eExpr, ↓eRet, ↓eRetN, ↓eIfS, ↓eSet, ↓eOwn, ↓eAsg, ↓eSetIx, ↓eGSetIx, ↓eAug, ↓eIadd, ↓eIaddL, ↓eFrz, ↓eFor, ↓eWhile, ↓eNm, ↓eC, ↓eOp, ↓eB, ↓eTr, ↓eTrB, ↓eTrI, ↓eTrN, ↓eTrT, ↓eTrL, ↓eTrA, ↓eAnd, ↓eOr, ↓eNot, ↓eAndV, ↓eOrV, ↓eNotV, ↓eIf, ↓eNil, ↓eCons, ↓eTup, ↓eOfL, ↓eLstL, ↓eListL, ↓eCatL, ↓eLc, ↓eWipe0, ↓eWipe, ↓eSeq, ↓eRng1, ↓eRng2, ↓eCall, ↓eCallL, ↓eRetL, ↓eSrt, ↓eSrtU, ↓eCB, ↓eNeg, ↓eChain, ↓eAppend, ↓ePop, ↓eNo, ↓eSome, ↓eSl, ↓eAnyG, ↓eAllG, ↓eZip, ↓eZip3, ↓gIsC_, tyN_t, tyN_l, tyN_n, tyN_b, tyN_i, seqP_t, seqP_l, ↓eEn1, ↓eEn2, ↓eSeqA, ↓ePar, ↓gAnyL_, ↓gAllL_, ↓gSumL_, boolsD_map, intsD_map, ↓gSl_t, ↓gSl_l, ↓gSl_a, ↓gAdd_i, ↓gAdd_t, ↓gAdd_s, ↓gAdd_l, ↓gI0_i, ↓gI_i, ↓gMul_i, ↓gMul_t, ↓gEq_, ↓gNe_, ↓gIs_n, ↓gIs_b, ↓gIsNot_n, ↓gIsNot_b, ↓gIn_, ↓gNotIn_, ↓gIx_t, ↓gIx_l, ↓gIx_a, ↓gLen_, ↓gLen_l, ↓gLen_a, ↓gInt_, ↓gInt_b, ↓gTuple_, ↓gTuple_l, ↓gTuple_a, ↓gMax_, ↓gMin_, ↓gIsBool_b, ↓gIsBool_i, seqOf_t, seqOf_l, seqOf_a, lstOf_l, lstOf_a, rsv_i, rsv_b, rsv_s, rsv_n, rsv_t, rsv_l, dle_i, dle_b, dle_n, eqD_i, eqD_b, isNon, bNm_, bTup_, bCons_, bNil_, Option.bind_some, i40, i41, i42, i43, atI0, atI1, atI2, atI3, atI4, atI5, mset_same, true_and, beq_self_eq_true, Bool.false_eq_true, c0, c1, Int.cast_ofNat_Int, Int.reduceEq, Int.reduceLT, Int.reduceLE, Int.reduceAdd, Int.reduceSub, ↓reduceIte]
      refine drw_call hs.2 ⟨L, rfl, by omega, by omega⟩ fun M2 d' hd s2 => ?_
      obtain ⟨L', A, e, rfl, hA⟩ := hd
      cases e
      exact hk _ _ ⟨A, rfl, hA⟩ (hs.trans s2)
    · obtain ⟨p, rfl, hw⟩ := enc_of ys hy
      rw [rngD_length, List.length_map] at hl
      try simp -dsimp only [bodyE, startD, List.map_cons, List.map_nil, List.length_cons, List.length_nil, List.replicate_succ, List.replicate_zero, List.cons_append, List.nil_append, Nat.reduceAdd, Nat.reduceSub, List.set_cons_zero, List.set_cons_succ, List.getElem?_cons_zero, List.getElem?_cons_succ, Bool.not_true, Bool.not_false, decide_true, decide_false, ↓IfS_t, ↓IfS_f, ↓IfE_t, ↓IfE_f, ↓AndT_t, ↓AndT_f, ↓OrT_t, ↓OrT_f, ↓AndV_t, ↓AndV_f, ↓OrV_t, ↓OrV_f, IfS_t, IfS_f, IfE_t, IfE_f, AndT_t, AndT_f, OrT_t, OrT_f, AndV_t, AndV_f, OrV_t, OrV_f, ↓eThen, ↓ePass, ↓eBreak, ↓eCont, ↓eExpr, ↓eRet, ↓eRetN, ↓eIfS, ↓eSet, ↓eOwn, ↓eAsg, ↓eSetIx, ↓eGSetIx, ↓eAug, ↓eIadd, ↓eIaddL, ↓eFrz, ↓eFor, ↓eWhile, ↓eNm, ↓eC, ↓eOp, ↓eB, ↓eTr, ↓eTrB, ↓eTrI, ↓eTrN, ↓eTrT, ↓eTrL, ↓eTrA, ↓eAnd, ↓eOr, ↓eNot, ↓eAndV, ↓eOrV, ↓eNotV, ↓eIf, ↓eNil, ↓eCons, ↓eTup, ↓eOfL, ↓eLstL, ↓eListL, ↓eCatL, ↓eLc, ↓eWipe0, ↓eWipe, ↓eSeq, ↓eRng1, ↓eRng2, ↓eCall, ↓eCallL, ↓eRetL, ↓eSrt, ↓eSrtU, ↓eCB, ↓eNeg, ↓eChain, ↓eAppend, ↓ePop, ↓eNo, ↓eSome, ↓eSl, ↓eAnyG, ↓eAllG, ↓eZip, ↓eZip3, ↓gIsC_, tyN_t, tyN_l, tyN_n, tyN_b, tyN_i, seqP_t, seqP_l, ↓eEn1, ↓eEn2, ↓eSeqA, ↓ePar, ↓gAnyL_, ↓gAllL_, ↓gSumL_, boolsD_map, intsD_map, ↓gSl_t, ↓gSl_l, ↓gSl_a, ↓gAdd_i, ↓gAdd_t, ↓gAdd_s, ↓gAdd_l, ↓gI0_i, ↓gI_i, ↓gMul_i, ↓gMul_t, ↓gEq_, ↓gNe_, ↓gIs_n, ↓gIs_b, ↓gIsNot_n, ↓gIsNot_b, ↓gIn_, ↓gNotIn_, ↓gIx_t, ↓gIx_l, ↓gIx_a, ↓gLen_, ↓gLen_l, ↓gLen_a, ↓gInt_, ↓gInt_b, ↓gTuple_, ↓gTuple_l, ↓gTuple_a, ↓gMax_, ↓gMin_, ↓gIsBool_b, ↓gIsBool_i, seqOf_t, seqOf_l, seqOf_a, lstOf_l, lstOf_a, rsv_i, rsv_b, rsv_s, rsv_n, rsv_t, rsv_l, dle_i, dle_b, dle_n, eqD_i, eqD_b, isNon, bNm_, bTup_, bCons_, bNil_, Option.bind_some, i40, i41, i42, i43, atI0, atI1, atI2, atI3, atI4, atI5, mset_same, true_and, beq_self_eq_true, Bool.false_eq_true, c0, c1, Int.cast_ofNat_Int, Int.reduceEq, Int.reduceLT, Int.reduceLE, Int.reduceAdd, Int.reduceSub, ↓reduceIte]
      exact post2 p M' (by omega) hw (s1.trans hs)
end U

set_option Elab.async false
set_option linter.all false
set_option maxRecDepth 100000
set_option maxHeartbeats 1000000
/-! V5: states, below, above. -/
namespace U
open PySem PySem.Spec PyProof.Rows L2

/-! ### equality by data -/
mutual
theorem pd_refl : ∀ d : D, PyData.eqv d.pd d.pd = true
  | .non => rfl
  | .bl b => by show (b == b) = true; exact beq_self_eq_true b
  | .int i => by show (i == i) = true; exact beq_self_eq_true i
  | .str x => by show (x == x) = true; exact beq_self_eq_true x
  | .tup ds => pds_refl ds
  | .lst ds => pds_refl ds
  | .loc _ => rfl
  | .ty _ => rfl
theorem pds_refl : ∀ ds : List D, PyData.eqvAll (D.pds ds) (D.pds ds) = true
  | [] => rfl
  | d :: ds => by
    show (PyData.eqv d.pd d.pd && PyData.eqvAll (D.pds ds) (D.pds ds)) = true
    rw [pd_refl d, pds_refl ds]; rfl
end
theorem eqD_refl (d : D) : eqD d d = true := pd_refl d
theorem eqD_tup (a b : List D) : eqD (.tup a) (.tup b) = PyData.eqvAll (D.pds a) (D.pds b) := rfl
theorem eqD_lst (a b : List D) : eqD (.lst a) (.lst b) = PyData.eqvAll (D.pds a) (D.pds b) := rfl
theorem eqA_map {α : Type} [DecidableEq α] {enc : α → D} (h : ∀ x y, eqD (enc x) (enc y) = decide (x = y)) : ∀ a b : List α, PyData.eqvAll (D.pds (a.map enc)) (D.pds (b.map enc)) = decide (a = b)
  | [], [] => by simp [D.pds, PyData.eqvAll]
  | [], _ :: _ => by simp [D.pds, PyData.eqvAll]
  | _ :: _, [] => by simp [D.pds, PyData.eqvAll]
  | x :: a, y :: b => by
    show (eqD (enc x) (enc y) && PyData.eqvAll (D.pds (a.map enc)) (D.pds (b.map enc))) = _
    rw [h, eqA_map h a b, ← Bool.decide_and]
    simp
theorem eqD_w (a b : List Int) : eqD (wD a) (wD b) = decide (a = b) := eqA_map (fun _ _ => eqD_i) a b
theorem any_enc {α : Type} [DecidableEq α] {enc : α → D} (h : ∀ x y, eqD (enc x) (enc y) = decide (x = y)) (l : List α) (x : α) : ((l.map enc).any fun y => eqD y (enc x)) = decide (x ∈ l) := by
  induction l with
  | nil => simp
  | cons y l ih =>
    rw [List.map_cons, List.any_cons, ih, h]
    by_cases e : y = x
    · subst e; simp
    · have : ¬ x = y := fun z => e z.symm
      simp [e, this]
theorem all_enc {α : Type} {enc : α → D} {n : Nat} (h : ∀ x, dle n (enc x) = true) : ∀ l : List α, (l.map enc).all (dle n) = true
  | [] => rfl
  | x :: l => by rw [List.map_cons, List.all_cons, h, all_enc h l]; rfl
theorem dle_w {n : Nat} (w : List Int) : dle (n + 1) (wD w) = true := all_enc (fun _ => dle_i) w
theorem rsv_w {M : Mu} {w : List Int} : rsv M (wD w) = wD w := rfl

/-! ### states -/
structure Ste where
  m : Int
  n : List Int
  w : List (List Int)
  deriving DecidableEq
def stD (s : Ste) : D := .tup [.int s.m, .tup (s.n.map .int), .tup (s.w.map wD)]
theorem eqD_st (a b : Ste) : eqD (stD a) (stD b) = decide (a = b) := by
  obtain ⟨m, n, w⟩ := a
  obtain ⟨m', n', w'⟩ := b
  show (eqD (.int m) (.int m') && (eqD (.tup (n.map .int)) (.tup (n'.map .int)) && (eqD (.tup (w.map wD)) (.tup (w'.map wD)) && true))) = _
  rw [eqD_i, eqD_tup, eqD_tup, eqA_map (fun _ _ => eqD_i), eqA_map eqD_w, Bool.and_true, ← Bool.decide_and, ← Bool.decide_and]
  simp
theorem dle_st {n : Nat} (s : Ste) : dle (n + 3) (stD s) = true := by
  show (dle (n + 2) (.int s.m) && (dle (n + 2) (.tup (s.n.map .int)) && (dle (n + 2) (.tup (s.w.map wD)) && true))) = true
  rw [dle_i, dle_t, dle_t, all_enc (fun _ => dle_i), all_enc (fun _ => dle_w _)]
  rfl
def SubW : List Int → List Int → Bool
  | [], _ => true
  | _ :: _, [] => false
  | x :: v, y :: w => if y = x then SubW v w else SubW (x :: v) w
theorem sub_nil (w : List Int) : SubW [] w = true := by cases w <;> rfl
theorem sub_none (x : Int) (v : List Int) : SubW (x :: v) [] = false := rfl
theorem sub_cons (x y : Int) (v w : List Int) : SubW (x :: v) (y :: w) = if y = x then SubW v w else SubW (x :: v) w := rfl
theorem sub_iff : ∀ (w v : List Int), SubW v w = true ↔ v.Sublist w
  | [], [] => by simp [sub_nil]
  | [], x :: v => by simp [sub_none]
  | y :: w, [] => by simp [sub_nil]
  | y :: w, x :: v => by
    rw [sub_cons]
    by_cases e : y = x
    · subst e
      rw [if_pos rfl, sub_iff w v, List.cons_sublist_cons]
    · rw [if_neg e, sub_iff w (x :: v)]
      constructor
      · exact fun h => .cons _ h
      · intro h
        cases h with
        | cons _ h => exact h
        | cons_cons _ h => exact absurd rfl e
theorem sub_refl (w : List Int) : SubW w w = true := (sub_iff w w).mpr (.refl w)
theorem sub_trans {u v w : List Int} (h : SubW u v = true) (k : SubW v w = true) : SubW u w = true := (sub_iff w u).mpr (((sub_iff v u).mp h).trans ((sub_iff w v).mp k))
def leAll (a b : List Int) : Bool := (a.zip b).all fun p => decide (p.1 ≤ p.2)
def subAll (a b : List (List Int)) : Bool := (a.zip b).all fun p => SubW p.1 p.2
def Below (a b : Ste) : Bool := decide (a.m = b.m) && leAll a.n b.n && subAll a.w b.w
def Above (s : Ste) (f : List Ste) : Bool := f.any fun l => Below l s
theorem leAll_refl (a : List Int) : leAll a a = true := by
  unfold leAll
  induction a with
  | nil => rfl
  | cons x a ih => rw [List.zip_cons_cons, List.all_cons, ih]; simp
theorem subAll_refl (a : List (List Int)) : subAll a a = true := by
  unfold subAll
  induction a with
  | nil => rfl
  | cons x a ih => rw [List.zip_cons_cons, List.all_cons, ih, sub_refl]; rfl
theorem below_refl (a : Ste) : Below a a = true := by
  unfold Below
  rw [leAll_refl, subAll_refl]; simp

/-! ### helps -/
theorem zipD_map {α β : Type} {f : α → D} {g : β → D} (as : List α) (bs : List β) : ((as.map f).zip (bs.map g)).map (fun p => D.tup [p.1, p.2]) = (as.zip bs).map fun p => D.tup [f p.1, g p.2] := by
  rw [List.zip_map, List.map_map]; rfl
theorem genS_map {α : Type} {k : List Bool → Bool} {b : BD} {fe : FE} {ρ : Env'} {M : Mu} {Q : D → Mu → Prop} {enc : α → D} {xs : List α} (f : α → Bool) (h : ∀ x ∈ xs, ∃ ρ2, b (enc x) ρ = some ρ2 ∧ ∀ Q : D → Mu → Prop, Q (.bl (f x)) M → fe xF ρ2 M Q) (q : Q (.bl (k (xs.map f))) M) : GenS k b fe ρ (xs.map enc) M (.mk : Ky Q) :=
  ⟨_, GenO.map xs h, q⟩
theorem any_map_id {α : Type} (f : α → Bool) (l : List α) : (l.map f).any id = l.any f := by rw [List.any_map]; rfl
theorem all_map_id {α : Type} (f : α → Bool) (l : List α) : (l.map f).all id = l.all f := by rw [List.all_map]; rfl
theorem not_any_gt (a b : List Int) : ((a.zip b).any fun p => decide (p.2 < p.1)) = !leAll a b := by
  unfold leAll
  generalize a.zip b = l
  induction l with
  | nil => rfl
  | cons p l ih =>
    rw [List.any_cons, List.all_cons, ih]
    by_cases h : p.2 < p.1
    · have : ¬ p.1 ≤ p.2 := by omega
      simp [h, this]
    · have : p.1 ≤ p.2 := by omega
      simp [h, this]
theorem l_at {α : Type} {enc : α → D} {w : List α} {i : Int} (h0 : 0 ≤ i) (h1 : i < w.length) : ∃ x v, w.drop i.toNat = x :: v ∧ v = w.drop (i + 1).toNat ∧ w[i.toNat]? = some x ∧ atI (w.map enc) i = some (enc x) := by
  have hl : i.toNat < w.length := by omega
  refine ⟨w[i.toNat], w.drop (i.toNat + 1), List.drop_eq_getElem_cons hl, by congr 1; omega, List.getElem?_eq_getElem hl, ?_⟩
  rw [atI_nat h0 (by rw [List.length_map]; exact h1), List.getElem?_map, List.getElem?_eq_getElem hl]
  rfl

def N_is_subword : List Str := ["word", "other", "position", "letter"]
def f_is_subword : FS := fThen (fSet 2 (fC (.int 0))) (fThen (fFor (fSeq (fNm 1)) (bNm 3) (fIfS (fAnd (fB (fOp gLt (fNm 2) (fCB gLen (fCons (fNm 0) fNil)))) (fB (fOp gEq (fOp gIx (fNm 0) (fNm 2)) (fNm 3)))) (fAug 2 gIadd (fC (.int 1))) fPass)) (fRet (fOp gEq (fNm 2) (fCB gLen (fCons (fNm 0) fNil)))))
def N_is_below : List Str := ["state", "other", "one", "two"]
def f_is_below (S_is_subword : FSpec) : FS := fThen (fIfS (fOr (fB (fOp gNe (fOp gIx (fNm 0) (fC (.int 0))) (fOp gIx (fNm 1) (fC (.int 0))))) (fTr (fAnyG (fZip (fCons (fOp gIx (fNm 0) (fC (.int 1))) (fCons (fOp gIx (fNm 1) (fC (.int 1))) fNil))) (bTup 2 (bCons (bNm 2) (bCons (bNm 3) bNil))) (fOp gGt (fNm 2) (fNm 3)) [2, 3]))) (fRet (fC (.bl false))) fPass) (fRet (fAllG (fZip (fCons (fOp gIx (fNm 0) (fC (.int 2))) (fCons (fOp gIx (fNm 1) (fC (.int 2))) fNil))) (bTup 2 (bCons (bNm 2) (bCons (bNm 3) bNil))) (fCall S_is_subword (fCons (fNm 2) (fCons (fNm 3) fNil))) [2, 3]))
def N_is_above : List Str := ["state", "floor", "low"]
def f_is_above (S_is_below : FSpec) : FS := fRet (fAnyG (fSeqA (fNm 1)) (bNm 2) (fCall S_is_below (fCons (fNm 2) (fCons (fNm 0) fNil))) [2])

def S_is_subword : FSpec := fun ds M Q _ => ∃ v w : List Int, ds = [wD v, wD w] ∧ Q (.bl (SubW v w)) M
def S_is_below : FSpec := fun ds M Q _ => ∃ a b : Ste, ds = [stD a, stD b] ∧ Q (.bl (Below a b)) M
/-- a floor: a list, or one that is written -/
def S_is_above : FSpec := fun ds M Q _ => ∃ (s : Ste) (f : List Ste) (d : D), ds = [stD s, d] ∧ seqOf M d = some (f.map stD) ∧ Q (.bl (Above s f)) M
theorem b_is_subword (ds : List D) (M : Mu) (Q : D → Mu → Prop) (xw : XW) (h : S_is_subword ds M Q xw) : bodyE N_is_subword f_is_subword ds M Q xw := by
  obtain ⟨v, w, rfl, q⟩ := h
  have q : Q (.bl (SubW v w)) (mres M M) := by rw [mres_self]; exact q
  simp only [bodyE, bodyL, startD, N_is_subword, List.map_cons, List.map_nil, List.length_cons, List.length_nil, List.replicate_succ, List.replicate_zero, List.cons_append, List.nil_append, Nat.reduceAdd, Nat.reduceSub]
  unfold f_is_subword
  unfold wD
  try simp -dsimp only [bodyE, startD, List.map_cons, List.map_nil, List.length_cons, List.length_nil, List.replicate_succ, List.replicate_zero, List.cons_append, List.nil_append, Nat.reduceAdd, Nat.reduceSub, List.set_cons_zero, List.set_cons_succ, List.getElem?_cons_zero, List.getElem?_cons_succ, Bool.not_true, Bool.not_false, decide_true, decide_false, ↓IfS_t, ↓IfS_f, ↓IfE_t, ↓IfE_f, ↓AndT_t, ↓AndT_f, ↓OrT_t, ↓OrT_f, ↓AndV_t, ↓AndV_f, ↓OrV_t, ↓OrV_f, IfS_t, IfS_f, IfE_t, IfE_f, AndT_t, AndT_f, OrT_t, OrT_f, AndV_t, AndV_f, OrV_t, OrV_f, ↓eThen, ↓ePass, ↓eBreak, ↓eCont, ↓eExpr, ↓eRet, ↓eRetN, ↓eIfS, ↓eSet, ↓eOwn, ↓eAsg, ↓eSetIx, ↓eGSetIx, ↓eAug, ↓eIadd, ↓eIaddL, ↓eFrz, ↓eFor, ↓eWhile, ↓eNm, ↓eC, ↓eOp, ↓eB, ↓eTr, ↓eTrB, ↓eTrI, ↓eTrN, ↓eTrT, ↓eTrL, ↓eTrA, ↓eAnd, ↓eOr, ↓eNot, ↓eAndV, ↓eOrV, ↓eNotV, ↓eIf, ↓eNil, ↓eCons, ↓eTup, ↓eOfL, ↓eLstL, ↓eListL, ↓eCatL, ↓eLc, ↓eWipe0, ↓eWipe, ↓eSeq, ↓eRng1, ↓eRng2, ↓eCall, ↓eCallL, ↓eRetL, ↓eSrt, ↓eSrtU, ↓eCB, ↓eNeg, ↓eChain, ↓eAppend, ↓ePop, ↓eNo, ↓eSome, ↓eSl, ↓eAnyG, ↓eAllG, ↓eZip, ↓eZip3, ↓gIsC_, tyN_t, tyN_l, tyN_n, tyN_b, tyN_i, seqP_t, seqP_l, ↓eEn1, ↓eEn2, ↓eSeqA, ↓ePar, ↓gAnyL_, ↓gAllL_, ↓gSumL_, boolsD_map, intsD_map, ↓gSl_t, ↓gSl_l, ↓gSl_a, ↓gAdd_i, ↓gAdd_t, ↓gAdd_s, ↓gAdd_l, ↓gI0_i, ↓gI_i, ↓gMul_i, ↓gMul_t, ↓gEq_, ↓gNe_, ↓gIs_n, ↓gIs_b, ↓gIsNot_n, ↓gIsNot_b, ↓gIn_, ↓gNotIn_, ↓gIx_t, ↓gIx_l, ↓gIx_a, ↓gLen_, ↓gLen_l, ↓gLen_a, ↓gInt_, ↓gInt_b, ↓gTuple_, ↓gTuple_l, ↓gTuple_a, ↓gMax_, ↓gMin_, ↓gIsBool_b, ↓gIsBool_i, seqOf_t, seqOf_l, seqOf_a, lstOf_l, lstOf_a, rsv_i, rsv_b, rsv_s, rsv_n, rsv_t, rsv_l, dle_i, dle_b, dle_n, eqD_i, eqD_b, isNon, bNm_, bTup_, bCons_, bNil_, Option.bind_some, i40, i41, i42, i43, atI0, atI1, atI2, atI3, atI4, atI5, mset_same, true_and, beq_self_eq_true, Bool.false_eq_true, c0, c1, Int.cast_ofNat_Int, Int.reduceEq, Int.reduceLT, Int.reduceLE, Int.reduceAdd, Int.reduceSub, ↓reduceIte]
  refine forS_ind (fun rest ρ M' => M = M' ∧ ∃ (r : List Int) (i : Int) (o : Option D), rest = r.map D.int ∧ ρ = [some (.tup (v.map D.int)), some (.tup (w.map D.int)), some (.int i), o] ∧ 0 ≤ i ∧ i ≤ v.length ∧ SubW (v.drop i.toNat) r = SubW v w) ?_ ?_ _ _ _ ⟨rfl, w, 0, none, rfl, rfl, by omega, by omega, rfl⟩
  · rintro d rest ρ M' ⟨rfl, r, i, o, e1, rfl, i0, i1, hf⟩
    cases r with
    | nil => cases e1
    | cons y r =>
      rw [List.map_cons] at e1
      cases e1
      refine ⟨_, rfl, fun n c hn hc => ?_⟩
      try simp -dsimp only [bodyE, startD, List.map_cons, List.map_nil, List.length_cons, List.length_nil, List.replicate_succ, List.replicate_zero, List.cons_append, List.nil_append, Nat.reduceAdd, Nat.reduceSub, List.set_cons_zero, List.set_cons_succ, List.getElem?_cons_zero, List.getElem?_cons_succ, Bool.not_true, Bool.not_false, decide_true, decide_false, ↓IfS_t, ↓IfS_f, ↓IfE_t, ↓IfE_f, ↓AndT_t, ↓AndT_f, ↓OrT_t, ↓OrT_f, ↓AndV_t, ↓AndV_f, ↓OrV_t, ↓OrV_f, IfS_t, IfS_f, IfE_t, IfE_f, AndT_t, AndT_f, OrT_t, OrT_f, AndV_t, AndV_f, OrV_t, OrV_f, ↓eThen, ↓ePass, ↓eBreak, ↓eCont, ↓eExpr, ↓eRet, ↓eRetN, ↓eIfS, ↓eSet, ↓eOwn, ↓eAsg, ↓eSetIx, ↓eGSetIx, ↓eAug, ↓eIadd, ↓eIaddL, ↓eFrz, ↓eFor, ↓eWhile, ↓eNm, ↓eC, ↓eOp, ↓eB, ↓eTr, ↓eTrB, ↓eTrI, ↓eTrN, ↓eTrT, ↓eTrL, ↓eTrA, ↓eAnd, ↓eOr, ↓eNot, ↓eAndV, ↓eOrV, ↓eNotV, ↓eIf, ↓eNil, ↓eCons, ↓eTup, ↓eOfL, ↓eLstL, ↓eListL, ↓eCatL, ↓eLc, ↓eWipe0, ↓eWipe, ↓eSeq, ↓eRng1, ↓eRng2, ↓eCall, ↓eCallL, ↓eRetL, ↓eSrt, ↓eSrtU, ↓eCB, ↓eNeg, ↓eChain, ↓eAppend, ↓ePop, ↓eNo, ↓eSome, ↓eSl, ↓eAnyG, ↓eAllG, ↓eZip, ↓eZip3, ↓gIsC_, tyN_t, tyN_l, tyN_n, tyN_b, tyN_i, seqP_t, seqP_l, ↓eEn1, ↓eEn2, ↓eSeqA, ↓ePar, ↓gAnyL_, ↓gAllL_, ↓gSumL_, boolsD_map, intsD_map, ↓gSl_t, ↓gSl_l, ↓gSl_a, ↓gAdd_i, ↓gAdd_t, ↓gAdd_s, ↓gAdd_l, ↓gI0_i, ↓gI_i, ↓gMul_i, ↓gMul_t, ↓gEq_, ↓gNe_, ↓gIs_n, ↓gIs_b, ↓gIsNot_n, ↓gIsNot_b, ↓gIn_, ↓gNotIn_, ↓gIx_t, ↓gIx_l, ↓gIx_a, ↓gLen_, ↓gLen_l, ↓gLen_a, ↓gInt_, ↓gInt_b, ↓gTuple_, ↓gTuple_l, ↓gTuple_a, ↓gMax_, ↓gMin_, ↓gIsBool_b, ↓gIsBool_i, seqOf_t, seqOf_l, seqOf_a, lstOf_l, lstOf_a, rsv_i, rsv_b, rsv_s, rsv_n, rsv_t, rsv_l, dle_i, dle_b, dle_n, eqD_i, eqD_b, isNon, bNm_, bTup_, bCons_, bNil_, Option.bind_some, i40, i41, i42, i43, atI0, atI1, atI2, atI3, atI4, atI5, mset_same, true_and, beq_self_eq_true, Bool.false_eq_true, c0, c1, Int.cast_ofNat_Int, Int.reduceEq, Int.reduceLT, Int.reduceLE, Int.reduceAdd, Int.reduceSub, ↓reduceIte, List.length_map]
      by_cases hlt : i < v.length
      · obtain ⟨x, u, e2, e3, _, e4⟩ := l_at (enc := D.int) i0 hlt
        rw [decide_eq_true hlt]
        try simp -dsimp only [bodyE, startD, List.map_cons, List.map_nil, List.length_cons, List.length_nil, List.replicate_succ, List.replicate_zero, List.cons_append, List.nil_append, Nat.reduceAdd, Nat.reduceSub, List.set_cons_zero, List.set_cons_succ, List.getElem?_cons_zero, List.getElem?_cons_succ, Bool.not_true, Bool.not_false, decide_true, decide_false, ↓IfS_t, ↓IfS_f, ↓IfE_t, ↓IfE_f, ↓AndT_t, ↓AndT_f, ↓OrT_t, ↓OrT_f, ↓AndV_t, ↓AndV_f, ↓OrV_t, ↓OrV_f, IfS_t, IfS_f, IfE_t, IfE_f, AndT_t, AndT_f, OrT_t, OrT_f, AndV_t, AndV_f, OrV_t, OrV_f, ↓eThen, ↓ePass, ↓eBreak, ↓eCont, ↓eExpr, ↓eRet, ↓eRetN, ↓eIfS, ↓eSet, ↓eOwn, ↓eAsg, ↓eSetIx, ↓eGSetIx, ↓eAug, ↓eIadd, ↓eIaddL, ↓eFrz, ↓eFor, ↓eWhile, ↓eNm, ↓eC, ↓eOp, ↓eB, ↓eTr, ↓eTrB, ↓eTrI, ↓eTrN, ↓eTrT, ↓eTrL, ↓eTrA, ↓eAnd, ↓eOr, ↓eNot, ↓eAndV, ↓eOrV, ↓eNotV, ↓eIf, ↓eNil, ↓eCons, ↓eTup, ↓eOfL, ↓eLstL, ↓eListL, ↓eCatL, ↓eLc, ↓eWipe0, ↓eWipe, ↓eSeq, ↓eRng1, ↓eRng2, ↓eCall, ↓eCallL, ↓eRetL, ↓eSrt, ↓eSrtU, ↓eCB, ↓eNeg, ↓eChain, ↓eAppend, ↓ePop, ↓eNo, ↓eSome, ↓eSl, ↓eAnyG, ↓eAllG, ↓eZip, ↓eZip3, ↓gIsC_, tyN_t, tyN_l, tyN_n, tyN_b, tyN_i, seqP_t, seqP_l, ↓eEn1, ↓eEn2, ↓eSeqA, ↓ePar, ↓gAnyL_, ↓gAllL_, ↓gSumL_, boolsD_map, intsD_map, ↓gSl_t, ↓gSl_l, ↓gSl_a, ↓gAdd_i, ↓gAdd_t, ↓gAdd_s, ↓gAdd_l, ↓gI0_i, ↓gI_i, ↓gMul_i, ↓gMul_t, ↓gEq_, ↓gNe_, ↓gIs_n, ↓gIs_b, ↓gIsNot_n, ↓gIsNot_b, ↓gIn_, ↓gNotIn_, ↓gIx_t, ↓gIx_l, ↓gIx_a, ↓gLen_, ↓gLen_l, ↓gLen_a, ↓gInt_, ↓gInt_b, ↓gTuple_, ↓gTuple_l, ↓gTuple_a, ↓gMax_, ↓gMin_, ↓gIsBool_b, ↓gIsBool_i, seqOf_t, seqOf_l, seqOf_a, lstOf_l, lstOf_a, rsv_i, rsv_b, rsv_s, rsv_n, rsv_t, rsv_l, dle_i, dle_b, dle_n, eqD_i, eqD_b, isNon, bNm_, bTup_, bCons_, bNil_, Option.bind_some, i40, i41, i42, i43, atI0, atI1, atI2, atI3, atI4, atI5, mset_same, true_and, beq_self_eq_true, Bool.false_eq_true, c0, c1, Int.cast_ofNat_Int, Int.reduceEq, Int.reduceLT, Int.reduceLE, Int.reduceAdd, Int.reduceSub, ↓reduceIte, e4]
        rw [e2, sub_cons] at hf
        by_cases hx : x = y
        · subst hx
          rw [if_pos rfl] at hf
          rw [decide_eq_true rfl]
          try simp -dsimp only [bodyE, startD, List.map_cons, List.map_nil, List.length_cons, List.length_nil, List.replicate_succ, List.replicate_zero, List.cons_append, List.nil_append, Nat.reduceAdd, Nat.reduceSub, List.set_cons_zero, List.set_cons_succ, List.getElem?_cons_zero, List.getElem?_cons_succ, Bool.not_true, Bool.not_false, decide_true, decide_false, ↓IfS_t, ↓IfS_f, ↓IfE_t, ↓IfE_f, ↓AndT_t, ↓AndT_f, ↓OrT_t, ↓OrT_f, ↓AndV_t, ↓AndV_f, ↓OrV_t, ↓OrV_f, IfS_t, IfS_f, IfE_t, IfE_f, AndT_t, AndT_f, OrT_t, OrT_f, AndV_t, AndV_f, OrV_t, OrV_f, ↓eThen, ↓ePass, ↓eBreak, ↓eCont, ↓eExpr, ↓eRet, ↓eRetN, ↓eIfS, ↓eSet, ↓eOwn, ↓eAsg, ↓eSetIx, ↓eGSetIx, ↓eAug, ↓eIadd, ↓eIaddL, ↓eFrz, ↓eFor, ↓eWhile, ↓eNm, ↓eC, ↓eOp, ↓eB, ↓eTr, ↓eTrB, ↓eTrI, ↓eTrN, ↓eTrT, ↓eTrL, ↓eTrA, ↓eAnd, ↓eOr, ↓eNot, ↓eAndV, ↓eOrV, ↓eNotV, ↓eIf, ↓eNil, ↓eCons, ↓eTup, ↓eOfL, ↓eLstL, ↓eListL, ↓eCatL, ↓eLc, ↓eWipe0, ↓eWipe, ↓eSeq, ↓eRng1, ↓eRng2, ↓eCall, ↓eCallL, ↓eRetL, ↓eSrt, ↓eSrtU, ↓eCB, ↓eNeg, ↓eChain, ↓eAppend, ↓ePop, ↓eNo, ↓eSome, ↓eSl, ↓eAnyG, ↓eAllG, ↓eZip, ↓eZip3, ↓gIsC_, tyN_t, tyN_l, tyN_n, tyN_b, tyN_i, seqP_t, seqP_l, ↓eEn1, ↓eEn2, ↓eSeqA, ↓ePar, ↓gAnyL_, ↓gAllL_, ↓gSumL_, boolsD_map, intsD_map, ↓gSl_t, ↓gSl_l, ↓gSl_a, ↓gAdd_i, ↓gAdd_t, ↓gAdd_s, ↓gAdd_l, ↓gI0_i, ↓gI_i, ↓gMul_i, ↓gMul_t, ↓gEq_, ↓gNe_, ↓gIs_n, ↓gIs_b, ↓gIsNot_n, ↓gIsNot_b, ↓gIn_, ↓gNotIn_, ↓gIx_t, ↓gIx_l, ↓gIx_a, ↓gLen_, ↓gLen_l, ↓gLen_a, ↓gInt_, ↓gInt_b, ↓gTuple_, ↓gTuple_l, ↓gTuple_a, ↓gMax_, ↓gMin_, ↓gIsBool_b, ↓gIsBool_i, seqOf_t, seqOf_l, seqOf_a, lstOf_l, lstOf_a, rsv_i, rsv_b, rsv_s, rsv_n, rsv_t, rsv_l, dle_i, dle_b, dle_n, eqD_i, eqD_b, isNon, bNm_, bTup_, bCons_, bNil_, Option.bind_some, i40, i41, i42, i43, atI0, atI1, atI2, atI3, atI4, atI5, mset_same, true_and, beq_self_eq_true, Bool.false_eq_true, c0, c1, Int.cast_ofNat_Int, Int.reduceEq, Int.reduceLT, Int.reduceLE, Int.reduceAdd, Int.reduceSub, ↓reduceIte]
          exact hn _ _ ⟨rfl, r, _, _, rfl, rfl, by omega, by omega, by rw [← e3]; exact hf⟩
        · rw [if_neg (fun z => hx z.symm)] at hf
          rw [decide_eq_false hx]
          try simp -dsimp only [bodyE, startD, List.map_cons, List.map_nil, List.length_cons, List.length_nil, List.replicate_succ, List.replicate_zero, List.cons_append, List.nil_append, Nat.reduceAdd, Nat.reduceSub, List.set_cons_zero, List.set_cons_succ, List.getElem?_cons_zero, List.getElem?_cons_succ, Bool.not_true, Bool.not_false, decide_true, decide_false, ↓IfS_t, ↓IfS_f, ↓IfE_t, ↓IfE_f, ↓AndT_t, ↓AndT_f, ↓OrT_t, ↓OrT_f, ↓AndV_t, ↓AndV_f, ↓OrV_t, ↓OrV_f, IfS_t, IfS_f, IfE_t, IfE_f, AndT_t, AndT_f, OrT_t, OrT_f, AndV_t, AndV_f, OrV_t, OrV_f, ↓eThen, ↓ePass, ↓eBreak, ↓eCont, ↓eExpr, ↓eRet, ↓eRetN, ↓eIfS, ↓eSet, ↓eOwn, ↓eAsg, ↓eSetIx, ↓eGSetIx, ↓eAug, ↓eIadd, ↓eIaddL, ↓eFrz, ↓eFor, ↓eWhile, ↓eNm, ↓eC, ↓eOp, ↓eB, ↓eTr, ↓eTrB, ↓eTrI, ↓eTrN, ↓eTrT, ↓eTrL, ↓eTrA, ↓eAnd, ↓eOr, ↓eNot, ↓eAndV, ↓eOrV, ↓eNotV, ↓eIf, ↓eNil, ↓eCons, ↓eTup, ↓eOfL, ↓eLstL, ↓eListL, ↓eCatL, ↓eLc, ↓eWipe0, ↓eWipe, ↓eSeq, ↓eRng1, ↓eRng2, ↓eCall, ↓eCallL, ↓eRetL, ↓eSrt, ↓eSrtU, ↓eCB, ↓eNeg, ↓eChain, ↓eAppend, ↓ePop, ↓eNo, ↓eSome, ↓eSl, ↓eAnyG, ↓eAllG, ↓eZip, ↓eZip3, ↓gIsC_, tyN_t, tyN_l, tyN_n, tyN_b, tyN_i, seqP_t, seqP_l, ↓eEn1, ↓eEn2, ↓eSeqA, ↓ePar, ↓gAnyL_, ↓gAllL_, ↓gSumL_, boolsD_map, intsD_map, ↓gSl_t, ↓gSl_l, ↓gSl_a, ↓gAdd_i, ↓gAdd_t, ↓gAdd_s, ↓gAdd_l, ↓gI0_i, ↓gI_i, ↓gMul_i, ↓gMul_t, ↓gEq_, ↓gNe_, ↓gIs_n, ↓gIs_b, ↓gIsNot_n, ↓gIsNot_b, ↓gIn_, ↓gNotIn_, ↓gIx_t, ↓gIx_l, ↓gIx_a, ↓gLen_, ↓gLen_l, ↓gLen_a, ↓gInt_, ↓gInt_b, ↓gTuple_, ↓gTuple_l, ↓gTuple_a, ↓gMax_, ↓gMin_, ↓gIsBool_b, ↓gIsBool_i, seqOf_t, seqOf_l, seqOf_a, lstOf_l, lstOf_a, rsv_i, rsv_b, rsv_s, rsv_n, rsv_t, rsv_l, dle_i, dle_b, dle_n, eqD_i, eqD_b, isNon, bNm_, bTup_, bCons_, bNil_, Option.bind_some, i40, i41, i42, i43, atI0, atI1, atI2, atI3, atI4, atI5, mset_same, true_and, beq_self_eq_true, Bool.false_eq_true, c0, c1, Int.cast_ofNat_Int, Int.reduceEq, Int.reduceLT, Int.reduceLE, Int.reduceAdd, Int.reduceSub, ↓reduceIte]
          exact hn _ _ ⟨rfl, r, i, _, rfl, rfl, i0, i1, by rw [e2]; exact hf⟩
      · rw [decide_eq_false hlt]
        try simp -dsimp only [bodyE, startD, List.map_cons, List.map_nil, List.length_cons, List.length_nil, List.replicate_succ, List.replicate_zero, List.cons_append, List.nil_append, Nat.reduceAdd, Nat.reduceSub, List.set_cons_zero, List.set_cons_succ, List.getElem?_cons_zero, List.getElem?_cons_succ, Bool.not_true, Bool.not_false, decide_true, decide_false, ↓IfS_t, ↓IfS_f, ↓IfE_t, ↓IfE_f, ↓AndT_t, ↓AndT_f, ↓OrT_t, ↓OrT_f, ↓AndV_t, ↓AndV_f, ↓OrV_t, ↓OrV_f, IfS_t, IfS_f, IfE_t, IfE_f, AndT_t, AndT_f, OrT_t, OrT_f, AndV_t, AndV_f, OrV_t, OrV_f, ↓eThen, ↓ePass, ↓eBreak, ↓eCont, ↓eExpr, ↓eRet, ↓eRetN, ↓eIfS, ↓eSet, ↓eOwn, ↓eAsg, ↓eSetIx, ↓eGSetIx, ↓eAug, ↓eIadd, ↓eIaddL, ↓eFrz, ↓eFor, ↓eWhile, ↓eNm, ↓eC, ↓eOp, ↓eB, ↓eTr, ↓eTrB, ↓eTrI, ↓eTrN, ↓eTrT, ↓eTrL, ↓eTrA, ↓eAnd, ↓eOr, ↓eNot, ↓eAndV, ↓eOrV, ↓eNotV, ↓eIf, ↓eNil, ↓eCons, ↓eTup, ↓eOfL, ↓eLstL, ↓eListL, ↓eCatL, ↓eLc, ↓eWipe0, ↓eWipe, ↓eSeq, ↓eRng1, ↓eRng2, ↓eCall, ↓eCallL, ↓eRetL, ↓eSrt, ↓eSrtU, ↓eCB, ↓eNeg, ↓eChain, ↓eAppend, ↓ePop, ↓eNo, ↓eSome, ↓eSl, ↓eAnyG, ↓eAllG, ↓eZip, ↓eZip3, ↓gIsC_, tyN_t, tyN_l, tyN_n, tyN_b, tyN_i, seqP_t, seqP_l, ↓eEn1, ↓eEn2, ↓eSeqA, ↓ePar, ↓gAnyL_, ↓gAllL_, ↓gSumL_, boolsD_map, intsD_map, ↓gSl_t, ↓gSl_l, ↓gSl_a, ↓gAdd_i, ↓gAdd_t, ↓gAdd_s, ↓gAdd_l, ↓gI0_i, ↓gI_i, ↓gMul_i, ↓gMul_t, ↓gEq_, ↓gNe_, ↓gIs_n, ↓gIs_b, ↓gIsNot_n, ↓gIsNot_b, ↓gIn_, ↓gNotIn_, ↓gIx_t, ↓gIx_l, ↓gIx_a, ↓gLen_, ↓gLen_l, ↓gLen_a, ↓gInt_, ↓gInt_b, ↓gTuple_, ↓gTuple_l, ↓gTuple_a, ↓gMax_, ↓gMin_, ↓gIsBool_b, ↓gIsBool_i, seqOf_t, seqOf_l, seqOf_a, lstOf_l, lstOf_a, rsv_i, rsv_b, rsv_s, rsv_n, rsv_t, rsv_l, dle_i, dle_b, dle_n, eqD_i, eqD_b, isNon, bNm_, bTup_, bCons_, bNil_, Option.bind_some, i40, i41, i42, i43, atI0, atI1, atI2, atI3, atI4, atI5, mset_same, true_and, beq_self_eq_true, Bool.false_eq_true, c0, c1, Int.cast_ofNat_Int, Int.reduceEq, Int.reduceLT, Int.reduceLE, Int.reduceAdd, Int.reduceSub, ↓reduceIte]
        have e5 : v.drop i.toNat = [] := List.drop_eq_nil_of_le (by omega)
        rw [e5, sub_nil] at hf
        exact hn _ _ ⟨rfl, r, i, _, rfl, rfl, i0, i1, by rw [e5, sub_nil]; exact hf⟩
  · rintro ρ M' ⟨rfl, r, i, o, e1, rfl, i0, i1, hf⟩
    cases r with
    | cons A r => cases e1
    | nil =>
      try simp -dsimp only [bodyE, startD, List.map_cons, List.map_nil, List.length_cons, List.length_nil, List.replicate_succ, List.replicate_zero, List.cons_append, List.nil_append, Nat.reduceAdd, Nat.reduceSub, List.set_cons_zero, List.set_cons_succ, List.getElem?_cons_zero, List.getElem?_cons_succ, Bool.not_true, Bool.not_false, decide_true, decide_false, ↓IfS_t, ↓IfS_f, ↓IfE_t, ↓IfE_f, ↓AndT_t, ↓AndT_f, ↓OrT_t, ↓OrT_f, ↓AndV_t, ↓AndV_f, ↓OrV_t, ↓OrV_f, IfS_t, IfS_f, IfE_t, IfE_f, AndT_t, AndT_f, OrT_t, OrT_f, AndV_t, AndV_f, OrV_t, OrV_f, ↓eThen, ↓ePass, ↓eBreak, ↓eCont, ↓eExpr, ↓eRet, ↓eRetN, ↓eIfS, ↓eSet, ↓eOwn, ↓eAsg, ↓eSetIx, ↓eGSetIx, ↓eAug, ↓eIadd, ↓eIaddL, ↓eFrz, ↓eFor, ↓eWhile, ↓eNm, ↓eC, ↓eOp, ↓eB, ↓eTr, ↓eTrB, ↓eTrI, ↓eTrN, ↓eTrT, ↓eTrL, ↓eTrA, ↓eAnd, ↓eOr, ↓eNot, ↓eAndV, ↓eOrV, ↓eNotV, ↓eIf, ↓eNil, ↓eCons, ↓eTup, ↓eOfL, ↓eLstL, ↓eListL, ↓eCatL, ↓eLc, ↓eWipe0, ↓eWipe, ↓eSeq, ↓eRng1, ↓eRng2, ↓eCall, ↓eCallL, ↓eRetL, ↓eSrt, ↓eSrtU, ↓eCB, ↓eNeg, ↓eChain, ↓eAppend, ↓ePop, ↓eNo, ↓eSome, ↓eSl, ↓eAnyG, ↓eAllG, ↓eZip, ↓eZip3, ↓gIsC_, tyN_t, tyN_l, tyN_n, tyN_b, tyN_i, seqP_t, seqP_l, ↓eEn1, ↓eEn2, ↓eSeqA, ↓ePar, ↓gAnyL_, ↓gAllL_, ↓gSumL_, boolsD_map, intsD_map, ↓gSl_t, ↓gSl_l, ↓gSl_a, ↓gAdd_i, ↓gAdd_t, ↓gAdd_s, ↓gAdd_l, ↓gI0_i, ↓gI_i, ↓gMul_i, ↓gMul_t, ↓gEq_, ↓gNe_, ↓gIs_n, ↓gIs_b, ↓gIsNot_n, ↓gIsNot_b, ↓gIn_, ↓gNotIn_, ↓gIx_t, ↓gIx_l, ↓gIx_a, ↓gLen_, ↓gLen_l, ↓gLen_a, ↓gInt_, ↓gInt_b, ↓gTuple_, ↓gTuple_l, ↓gTuple_a, ↓gMax_, ↓gMin_, ↓gIsBool_b, ↓gIsBool_i, seqOf_t, seqOf_l, seqOf_a, lstOf_l, lstOf_a, rsv_i, rsv_b, rsv_s, rsv_n, rsv_t, rsv_l, dle_i, dle_b, dle_n, eqD_i, eqD_b, isNon, bNm_, bTup_, bCons_, bNil_, Option.bind_some, i40, i41, i42, i43, atI0, atI1, atI2, atI3, atI4, atI5, mset_same, true_and, beq_self_eq_true, Bool.false_eq_true, c0, c1, Int.cast_ofNat_Int, Int.reduceEq, Int.reduceLT, Int.reduceLE, Int.reduceAdd, Int.reduceSub, ↓reduceIte, List.length_map]
      have e : decide (i = (v.length : Int)) = SubW v w := by
        rw [← hf]
        by_cases h : i = v.length
        · have e5 : v.drop i.toNat = [] := List.drop_eq_nil_of_le (by omega)
          rw [decide_eq_true h, e5, sub_nil]
        · obtain ⟨x, u, e2, _⟩ := l_at (enc := D.int) (w := v) i0 (by omega)
          rw [decide_eq_false h, e2, sub_none]
      rw [e]
      exact q
theorem b_is_below (ds : List D) (M : Mu) (Q : D → Mu → Prop) (xw : XW) (h : S_is_below ds M Q xw) : bodyE N_is_below (f_is_below S_is_subword) ds M Q xw := by
  obtain ⟨a, b, rfl, q⟩ := h
  have q : Q (.bl (Below a b)) (mres M M) := by rw [mres_self]; exact q
  obtain ⟨m, n, w⟩ := a
  obtain ⟨m', n', w'⟩ := b
  simp only [bodyE, bodyL, startD, N_is_below, List.map_cons, List.map_nil, List.length_cons, List.length_nil, List.replicate_succ, List.replicate_zero, List.cons_append, List.nil_append, Nat.reduceAdd, Nat.reduceSub]
  unfold f_is_below
  unfold stD
  try simp -dsimp only [bodyE, startD, List.map_cons, List.map_nil, List.length_cons, List.length_nil, List.replicate_succ, List.replicate_zero, List.cons_append, List.nil_append, Nat.reduceAdd, Nat.reduceSub, List.set_cons_zero, List.set_cons_succ, List.getElem?_cons_zero, List.getElem?_cons_succ, Bool.not_true, Bool.not_false, decide_true, decide_false, ↓IfS_t, ↓IfS_f, ↓IfE_t, ↓IfE_f, ↓AndT_t, ↓AndT_f, ↓OrT_t, ↓OrT_f, ↓AndV_t, ↓AndV_f, ↓OrV_t, ↓OrV_f, IfS_t, IfS_f, IfE_t, IfE_f, AndT_t, AndT_f, OrT_t, OrT_f, AndV_t, AndV_f, OrV_t, OrV_f, ↓eThen, ↓ePass, ↓eBreak, ↓eCont, ↓eExpr, ↓eRet, ↓eRetN, ↓eIfS, ↓eSet, ↓eOwn, ↓eAsg, ↓eSetIx, ↓eGSetIx, ↓eAug, ↓eIadd, ↓eIaddL, ↓eFrz, ↓eFor, ↓eWhile, ↓eNm, ↓eC, ↓eOp, ↓eB, ↓eTr, ↓eTrB, ↓eTrI, ↓eTrN, ↓eTrT, ↓eTrL, ↓eTrA, ↓eAnd, ↓eOr, ↓eNot, ↓eAndV, ↓eOrV, ↓eNotV, ↓eIf, ↓eNil, ↓eCons, ↓eTup, ↓eOfL, ↓eLstL, ↓eListL, ↓eCatL, ↓eLc, ↓eWipe0, ↓eWipe, ↓eSeq, ↓eRng1, ↓eRng2, ↓eCall, ↓eCallL, ↓eRetL, ↓eSrt, ↓eSrtU, ↓eCB, ↓eNeg, ↓eChain, ↓eAppend, ↓ePop, ↓eNo, ↓eSome, ↓eSl, ↓eAnyG, ↓eAllG, ↓eZip, ↓eZip3, ↓gIsC_, tyN_t, tyN_l, tyN_n, tyN_b, tyN_i, seqP_t, seqP_l, ↓eEn1, ↓eEn2, ↓eSeqA, ↓ePar, ↓gAnyL_, ↓gAllL_, ↓gSumL_, boolsD_map, intsD_map, ↓gSl_t, ↓gSl_l, ↓gSl_a, ↓gAdd_i, ↓gAdd_t, ↓gAdd_s, ↓gAdd_l, ↓gI0_i, ↓gI_i, ↓gMul_i, ↓gMul_t, ↓gEq_, ↓gNe_, ↓gIs_n, ↓gIs_b, ↓gIsNot_n, ↓gIsNot_b, ↓gIn_, ↓gNotIn_, ↓gIx_t, ↓gIx_l, ↓gIx_a, ↓gLen_, ↓gLen_l, ↓gLen_a, ↓gInt_, ↓gInt_b, ↓gTuple_, ↓gTuple_l, ↓gTuple_a, ↓gMax_, ↓gMin_, ↓gIsBool_b, ↓gIsBool_i, seqOf_t, seqOf_l, seqOf_a, lstOf_l, lstOf_a, rsv_i, rsv_b, rsv_s, rsv_n, rsv_t, rsv_l, dle_i, dle_b, dle_n, eqD_i, eqD_b, isNon, bNm_, bTup_, bCons_, bNil_, Option.bind_some, i40, i41, i42, i43, atI0, atI1, atI2, atI3, atI4, atI5, mset_same, true_and, beq_self_eq_true, Bool.false_eq_true, c0, c1, Int.cast_ofNat_Int, Int.reduceEq, Int.reduceLT, Int.reduceLE, Int.reduceAdd, Int.reduceSub, ↓reduceIte]
  have fin : leAll n n' = true → m = m' → IfS false (fRet (fC (.bl false))) fPass (.mk : Ky { nx := fRet (fAllG (fZip (fCons (fOp gIx (fNm 0) (fC (.int 2))) (fCons (fOp gIx (fNm 1) (fC (.int 2))) fNil))) (bTup 2 (bCons (bNm 2) (bCons (bNm 3) bNil))) (fCall S_is_subword (fCons (fNm 2) (fCons (fNm 3) fNil))) [2, 3]) { nx := fun _ M' => Q .non (mres M' M), rt := fun d M' => Q d (mres M' M), xw := fun xd _ M' => xw xd (mres M' M) }, rt := fun d M' => Q d (mres M' M), xw := fun xd _ M' => xw xd (mres M' M) }) [some (.tup [.int m, .tup (n.map .int), .tup (w.map wD)]), some (.tup [.int m', .tup (n'.map .int), .tup (w'.map wD)]), none, none] M := by
    intro h1 h2
    try simp -dsimp only [bodyE, startD, List.map_cons, List.map_nil, List.length_cons, List.length_nil, List.replicate_succ, List.replicate_zero, List.cons_append, List.nil_append, Nat.reduceAdd, Nat.reduceSub, List.set_cons_zero, List.set_cons_succ, List.getElem?_cons_zero, List.getElem?_cons_succ, Bool.not_true, Bool.not_false, decide_true, decide_false, ↓IfS_t, ↓IfS_f, ↓IfE_t, ↓IfE_f, ↓AndT_t, ↓AndT_f, ↓OrT_t, ↓OrT_f, ↓AndV_t, ↓AndV_f, ↓OrV_t, ↓OrV_f, IfS_t, IfS_f, IfE_t, IfE_f, AndT_t, AndT_f, OrT_t, OrT_f, AndV_t, AndV_f, OrV_t, OrV_f, ↓eThen, ↓ePass, ↓eBreak, ↓eCont, ↓eExpr, ↓eRet, ↓eRetN, ↓eIfS, ↓eSet, ↓eOwn, ↓eAsg, ↓eSetIx, ↓eGSetIx, ↓eAug, ↓eIadd, ↓eIaddL, ↓eFrz, ↓eFor, ↓eWhile, ↓eNm, ↓eC, ↓eOp, ↓eB, ↓eTr, ↓eTrB, ↓eTrI, ↓eTrN, ↓eTrT, ↓eTrL, ↓eTrA, ↓eAnd, ↓eOr, ↓eNot, ↓eAndV, ↓eOrV, ↓eNotV, ↓eIf, ↓eNil, ↓eCons, ↓eTup, ↓eOfL, ↓eLstL, ↓eListL, ↓eCatL, ↓eLc, ↓eWipe0, ↓eWipe, ↓eSeq, ↓eRng1, ↓eRng2, ↓eCall, ↓eCallL, ↓eRetL, ↓eSrt, ↓eSrtU, ↓eCB, ↓eNeg, ↓eChain, ↓eAppend, ↓ePop, ↓eNo, ↓eSome, ↓eSl, ↓eAnyG, ↓eAllG, ↓eZip, ↓eZip3, ↓gIsC_, tyN_t, tyN_l, tyN_n, tyN_b, tyN_i, seqP_t, seqP_l, ↓eEn1, ↓eEn2, ↓eSeqA, ↓ePar, ↓gAnyL_, ↓gAllL_, ↓gSumL_, boolsD_map, intsD_map, ↓gSl_t, ↓gSl_l, ↓gSl_a, ↓gAdd_i, ↓gAdd_t, ↓gAdd_s, ↓gAdd_l, ↓gI0_i, ↓gI_i, ↓gMul_i, ↓gMul_t, ↓gEq_, ↓gNe_, ↓gIs_n, ↓gIs_b, ↓gIsNot_n, ↓gIsNot_b, ↓gIn_, ↓gNotIn_, ↓gIx_t, ↓gIx_l, ↓gIx_a, ↓gLen_, ↓gLen_l, ↓gLen_a, ↓gInt_, ↓gInt_b, ↓gTuple_, ↓gTuple_l, ↓gTuple_a, ↓gMax_, ↓gMin_, ↓gIsBool_b, ↓gIsBool_i, seqOf_t, seqOf_l, seqOf_a, lstOf_l, lstOf_a, rsv_i, rsv_b, rsv_s, rsv_n, rsv_t, rsv_l, dle_i, dle_b, dle_n, eqD_i, eqD_b, isNon, bNm_, bTup_, bCons_, bNil_, Option.bind_some, i40, i41, i42, i43, atI0, atI1, atI2, atI3, atI4, atI5, mset_same, true_and, beq_self_eq_true, Bool.false_eq_true, c0, c1, Int.cast_ofNat_Int, Int.reduceEq, Int.reduceLT, Int.reduceLE, Int.reduceAdd, Int.reduceSub, ↓reduceIte, zipD_map]
    refine genS_map (fun p : List Int × List Int => SubW p.1 p.2) (fun p _ => ⟨_, rfl, fun Q hq => ?_⟩) ?_
    · try simp -dsimp only [bodyE, startD, List.map_cons, List.map_nil, List.length_cons, List.length_nil, List.replicate_succ, List.replicate_zero, List.cons_append, List.nil_append, Nat.reduceAdd, Nat.reduceSub, List.set_cons_zero, List.set_cons_succ, List.getElem?_cons_zero, List.getElem?_cons_succ, Bool.not_true, Bool.not_false, decide_true, decide_false, ↓IfS_t, ↓IfS_f, ↓IfE_t, ↓IfE_f, ↓AndT_t, ↓AndT_f, ↓OrT_t, ↓OrT_f, ↓AndV_t, ↓AndV_f, ↓OrV_t, ↓OrV_f, IfS_t, IfS_f, IfE_t, IfE_f, AndT_t, AndT_f, OrT_t, OrT_f, AndV_t, AndV_f, OrV_t, OrV_f, ↓eThen, ↓ePass, ↓eBreak, ↓eCont, ↓eExpr, ↓eRet, ↓eRetN, ↓eIfS, ↓eSet, ↓eOwn, ↓eAsg, ↓eSetIx, ↓eGSetIx, ↓eAug, ↓eIadd, ↓eIaddL, ↓eFrz, ↓eFor, ↓eWhile, ↓eNm, ↓eC, ↓eOp, ↓eB, ↓eTr, ↓eTrB, ↓eTrI, ↓eTrN, ↓eTrT, ↓eTrL, ↓eTrA, ↓eAnd, ↓eOr, ↓eNot, ↓eAndV, ↓eOrV, ↓eNotV, ↓eIf, ↓eNil, ↓eCons, ↓eTup, ↓eOfL, ↓eLstL, ↓eListL, ↓eCatL, ↓eLc, ↓eWipe0, ↓eWipe, ↓eSeq, ↓eRng1, ↓eRng2, ↓eCall, ↓eCallL, ↓eRetL, ↓eSrt, ↓eSrtU, ↓eCB, ↓eNeg, ↓eChain, ↓eAppend, ↓ePop, ↓eNo, ↓eSome, ↓eSl, ↓eAnyG, ↓eAllG, ↓eZip, ↓eZip3, ↓gIsC_, tyN_t, tyN_l, tyN_n, tyN_b, tyN_i, seqP_t, seqP_l, ↓eEn1, ↓eEn2, ↓eSeqA, ↓ePar, ↓gAnyL_, ↓gAllL_, ↓gSumL_, boolsD_map, intsD_map, ↓gSl_t, ↓gSl_l, ↓gSl_a, ↓gAdd_i, ↓gAdd_t, ↓gAdd_s, ↓gAdd_l, ↓gI0_i, ↓gI_i, ↓gMul_i, ↓gMul_t, ↓gEq_, ↓gNe_, ↓gIs_n, ↓gIs_b, ↓gIsNot_n, ↓gIsNot_b, ↓gIn_, ↓gNotIn_, ↓gIx_t, ↓gIx_l, ↓gIx_a, ↓gLen_, ↓gLen_l, ↓gLen_a, ↓gInt_, ↓gInt_b, ↓gTuple_, ↓gTuple_l, ↓gTuple_a, ↓gMax_, ↓gMin_, ↓gIsBool_b, ↓gIsBool_i, seqOf_t, seqOf_l, seqOf_a, lstOf_l, lstOf_a, rsv_i, rsv_b, rsv_s, rsv_n, rsv_t, rsv_l, dle_i, dle_b, dle_n, eqD_i, eqD_b, isNon, bNm_, bTup_, bCons_, bNil_, Option.bind_some, i40, i41, i42, i43, atI0, atI1, atI2, atI3, atI4, atI5, mset_same, true_and, beq_self_eq_true, Bool.false_eq_true, c0, c1, Int.cast_ofNat_Int, Int.reduceEq, Int.reduceLT, Int.reduceLE, Int.reduceAdd, Int.reduceSub, ↓reduceIte]
      exact ⟨p.1, p.2, rfl, hq⟩
    · rw [all_map_id]
      unfold Below at q
      rw [h1, decide_eq_true h2] at q
      exact q
  by_cases hm : m = m'
  · rw [decide_eq_true hm]
    try simp -dsimp only [bodyE, startD, List.map_cons, List.map_nil, List.length_cons, List.length_nil, List.replicate_succ, List.replicate_zero, List.cons_append, List.nil_append, Nat.reduceAdd, Nat.reduceSub, List.set_cons_zero, List.set_cons_succ, List.getElem?_cons_zero, List.getElem?_cons_succ, Bool.not_true, Bool.not_false, decide_true, decide_false, ↓IfS_t, ↓IfS_f, ↓IfE_t, ↓IfE_f, ↓AndT_t, ↓AndT_f, ↓OrT_t, ↓OrT_f, ↓AndV_t, ↓AndV_f, ↓OrV_t, ↓OrV_f, IfS_t, IfS_f, IfE_t, IfE_f, AndT_t, AndT_f, OrT_t, OrT_f, AndV_t, AndV_f, OrV_t, OrV_f, ↓eThen, ↓ePass, ↓eBreak, ↓eCont, ↓eExpr, ↓eRet, ↓eRetN, ↓eIfS, ↓eSet, ↓eOwn, ↓eAsg, ↓eSetIx, ↓eGSetIx, ↓eAug, ↓eIadd, ↓eIaddL, ↓eFrz, ↓eFor, ↓eWhile, ↓eNm, ↓eC, ↓eOp, ↓eB, ↓eTr, ↓eTrB, ↓eTrI, ↓eTrN, ↓eTrT, ↓eTrL, ↓eTrA, ↓eAnd, ↓eOr, ↓eNot, ↓eAndV, ↓eOrV, ↓eNotV, ↓eIf, ↓eNil, ↓eCons, ↓eTup, ↓eOfL, ↓eLstL, ↓eListL, ↓eCatL, ↓eLc, ↓eWipe0, ↓eWipe, ↓eSeq, ↓eRng1, ↓eRng2, ↓eCall, ↓eCallL, ↓eRetL, ↓eSrt, ↓eSrtU, ↓eCB, ↓eNeg, ↓eChain, ↓eAppend, ↓ePop, ↓eNo, ↓eSome, ↓eSl, ↓eAnyG, ↓eAllG, ↓eZip, ↓eZip3, ↓gIsC_, tyN_t, tyN_l, tyN_n, tyN_b, tyN_i, seqP_t, seqP_l, ↓eEn1, ↓eEn2, ↓eSeqA, ↓ePar, ↓gAnyL_, ↓gAllL_, ↓gSumL_, boolsD_map, intsD_map, ↓gSl_t, ↓gSl_l, ↓gSl_a, ↓gAdd_i, ↓gAdd_t, ↓gAdd_s, ↓gAdd_l, ↓gI0_i, ↓gI_i, ↓gMul_i, ↓gMul_t, ↓gEq_, ↓gNe_, ↓gIs_n, ↓gIs_b, ↓gIsNot_n, ↓gIsNot_b, ↓gIn_, ↓gNotIn_, ↓gIx_t, ↓gIx_l, ↓gIx_a, ↓gLen_, ↓gLen_l, ↓gLen_a, ↓gInt_, ↓gInt_b, ↓gTuple_, ↓gTuple_l, ↓gTuple_a, ↓gMax_, ↓gMin_, ↓gIsBool_b, ↓gIsBool_i, seqOf_t, seqOf_l, seqOf_a, lstOf_l, lstOf_a, rsv_i, rsv_b, rsv_s, rsv_n, rsv_t, rsv_l, dle_i, dle_b, dle_n, eqD_i, eqD_b, isNon, bNm_, bTup_, bCons_, bNil_, Option.bind_some, i40, i41, i42, i43, atI0, atI1, atI2, atI3, atI4, atI5, mset_same, true_and, beq_self_eq_true, Bool.false_eq_true, c0, c1, Int.cast_ofNat_Int, Int.reduceEq, Int.reduceLT, Int.reduceLE, Int.reduceAdd, Int.reduceSub, ↓reduceIte, zipD_map]
    refine genS_map (fun p : Int × Int => decide (p.2 < p.1)) (fun p _ => ⟨_, rfl, fun Q hq => ?_⟩) ?_
    · try simp -dsimp only [bodyE, startD, List.map_cons, List.map_nil, List.length_cons, List.length_nil, List.replicate_succ, List.replicate_zero, List.cons_append, List.nil_append, Nat.reduceAdd, Nat.reduceSub, List.set_cons_zero, List.set_cons_succ, List.getElem?_cons_zero, List.getElem?_cons_succ, Bool.not_true, Bool.not_false, decide_true, decide_false, ↓IfS_t, ↓IfS_f, ↓IfE_t, ↓IfE_f, ↓AndT_t, ↓AndT_f, ↓OrT_t, ↓OrT_f, ↓AndV_t, ↓AndV_f, ↓OrV_t, ↓OrV_f, IfS_t, IfS_f, IfE_t, IfE_f, AndT_t, AndT_f, OrT_t, OrT_f, AndV_t, AndV_f, OrV_t, OrV_f, ↓eThen, ↓ePass, ↓eBreak, ↓eCont, ↓eExpr, ↓eRet, ↓eRetN, ↓eIfS, ↓eSet, ↓eOwn, ↓eAsg, ↓eSetIx, ↓eGSetIx, ↓eAug, ↓eIadd, ↓eIaddL, ↓eFrz, ↓eFor, ↓eWhile, ↓eNm, ↓eC, ↓eOp, ↓eB, ↓eTr, ↓eTrB, ↓eTrI, ↓eTrN, ↓eTrT, ↓eTrL, ↓eTrA, ↓eAnd, ↓eOr, ↓eNot, ↓eAndV, ↓eOrV, ↓eNotV, ↓eIf, ↓eNil, ↓eCons, ↓eTup, ↓eOfL, ↓eLstL, ↓eListL, ↓eCatL, ↓eLc, ↓eWipe0, ↓eWipe, ↓eSeq, ↓eRng1, ↓eRng2, ↓eCall, ↓eCallL, ↓eRetL, ↓eSrt, ↓eSrtU, ↓eCB, ↓eNeg, ↓eChain, ↓eAppend, ↓ePop, ↓eNo, ↓eSome, ↓eSl, ↓eAnyG, ↓eAllG, ↓eZip, ↓eZip3, ↓gIsC_, tyN_t, tyN_l, tyN_n, tyN_b, tyN_i, seqP_t, seqP_l, ↓eEn1, ↓eEn2, ↓eSeqA, ↓ePar, ↓gAnyL_, ↓gAllL_, ↓gSumL_, boolsD_map, intsD_map, ↓gSl_t, ↓gSl_l, ↓gSl_a, ↓gAdd_i, ↓gAdd_t, ↓gAdd_s, ↓gAdd_l, ↓gI0_i, ↓gI_i, ↓gMul_i, ↓gMul_t, ↓gEq_, ↓gNe_, ↓gIs_n, ↓gIs_b, ↓gIsNot_n, ↓gIsNot_b, ↓gIn_, ↓gNotIn_, ↓gIx_t, ↓gIx_l, ↓gIx_a, ↓gLen_, ↓gLen_l, ↓gLen_a, ↓gInt_, ↓gInt_b, ↓gTuple_, ↓gTuple_l, ↓gTuple_a, ↓gMax_, ↓gMin_, ↓gIsBool_b, ↓gIsBool_i, seqOf_t, seqOf_l, seqOf_a, lstOf_l, lstOf_a, rsv_i, rsv_b, rsv_s, rsv_n, rsv_t, rsv_l, dle_i, dle_b, dle_n, eqD_i, eqD_b, isNon, bNm_, bTup_, bCons_, bNil_, Option.bind_some, i40, i41, i42, i43, atI0, atI1, atI2, atI3, atI4, atI5, mset_same, true_and, beq_self_eq_true, Bool.false_eq_true, c0, c1, Int.cast_ofNat_Int, Int.reduceEq, Int.reduceLT, Int.reduceLE, Int.reduceAdd, Int.reduceSub, ↓reduceIte]
      exact hq
    · rw [any_map_id, not_any_gt]
      try simp -dsimp only [bodyE, startD, List.map_cons, List.map_nil, List.length_cons, List.length_nil, List.replicate_succ, List.replicate_zero, List.cons_append, List.nil_append, Nat.reduceAdd, Nat.reduceSub, List.set_cons_zero, List.set_cons_succ, List.getElem?_cons_zero, List.getElem?_cons_succ, Bool.not_true, Bool.not_false, decide_true, decide_false, ↓IfS_t, ↓IfS_f, ↓IfE_t, ↓IfE_f, ↓AndT_t, ↓AndT_f, ↓OrT_t, ↓OrT_f, ↓AndV_t, ↓AndV_f, ↓OrV_t, ↓OrV_f, IfS_t, IfS_f, IfE_t, IfE_f, AndT_t, AndT_f, OrT_t, OrT_f, AndV_t, AndV_f, OrV_t, OrV_f, ↓eThen, ↓ePass, ↓eBreak, ↓eCont, ↓eExpr, ↓eRet, ↓eRetN, ↓eIfS, ↓eSet, ↓eOwn, ↓eAsg, ↓eSetIx, ↓eGSetIx, ↓eAug, ↓eIadd, ↓eIaddL, ↓eFrz, ↓eFor, ↓eWhile, ↓eNm, ↓eC, ↓eOp, ↓eB, ↓eTr, ↓eTrB, ↓eTrI, ↓eTrN, ↓eTrT, ↓eTrL, ↓eTrA, ↓eAnd, ↓eOr, ↓eNot, ↓eAndV, ↓eOrV, ↓eNotV, ↓eIf, ↓eNil, ↓eCons, ↓eTup, ↓eOfL, ↓eLstL, ↓eListL, ↓eCatL, ↓eLc, ↓eWipe0, ↓eWipe, ↓eSeq, ↓eRng1, ↓eRng2, ↓eCall, ↓eCallL, ↓eRetL, ↓eSrt, ↓eSrtU, ↓eCB, ↓eNeg, ↓eChain, ↓eAppend, ↓ePop, ↓eNo, ↓eSome, ↓eSl, ↓eAnyG, ↓eAllG, ↓eZip, ↓eZip3, ↓gIsC_, tyN_t, tyN_l, tyN_n, tyN_b, tyN_i, seqP_t, seqP_l, ↓eEn1, ↓eEn2, ↓eSeqA, ↓ePar, ↓gAnyL_, ↓gAllL_, ↓gSumL_, boolsD_map, intsD_map, ↓gSl_t, ↓gSl_l, ↓gSl_a, ↓gAdd_i, ↓gAdd_t, ↓gAdd_s, ↓gAdd_l, ↓gI0_i, ↓gI_i, ↓gMul_i, ↓gMul_t, ↓gEq_, ↓gNe_, ↓gIs_n, ↓gIs_b, ↓gIsNot_n, ↓gIsNot_b, ↓gIn_, ↓gNotIn_, ↓gIx_t, ↓gIx_l, ↓gIx_a, ↓gLen_, ↓gLen_l, ↓gLen_a, ↓gInt_, ↓gInt_b, ↓gTuple_, ↓gTuple_l, ↓gTuple_a, ↓gMax_, ↓gMin_, ↓gIsBool_b, ↓gIsBool_i, seqOf_t, seqOf_l, seqOf_a, lstOf_l, lstOf_a, rsv_i, rsv_b, rsv_s, rsv_n, rsv_t, rsv_l, dle_i, dle_b, dle_n, eqD_i, eqD_b, isNon, bNm_, bTup_, bCons_, bNil_, Option.bind_some, i40, i41, i42, i43, atI0, atI1, atI2, atI3, atI4, atI5, mset_same, true_and, beq_self_eq_true, Bool.false_eq_true, c0, c1, Int.cast_ofNat_Int, Int.reduceEq, Int.reduceLT, Int.reduceLE, Int.reduceAdd, Int.reduceSub, ↓reduceIte]
      cases hle : leAll n n' with
      | true => exact fin hle hm
      | false =>
        try simp -dsimp only [bodyE, startD, List.map_cons, List.map_nil, List.length_cons, List.length_nil, List.replicate_succ, List.replicate_zero, List.cons_append, List.nil_append, Nat.reduceAdd, Nat.reduceSub, List.set_cons_zero, List.set_cons_succ, List.getElem?_cons_zero, List.getElem?_cons_succ, Bool.not_true, Bool.not_false, decide_true, decide_false, ↓IfS_t, ↓IfS_f, ↓IfE_t, ↓IfE_f, ↓AndT_t, ↓AndT_f, ↓OrT_t, ↓OrT_f, ↓AndV_t, ↓AndV_f, ↓OrV_t, ↓OrV_f, IfS_t, IfS_f, IfE_t, IfE_f, AndT_t, AndT_f, OrT_t, OrT_f, AndV_t, AndV_f, OrV_t, OrV_f, ↓eThen, ↓ePass, ↓eBreak, ↓eCont, ↓eExpr, ↓eRet, ↓eRetN, ↓eIfS, ↓eSet, ↓eOwn, ↓eAsg, ↓eSetIx, ↓eGSetIx, ↓eAug, ↓eIadd, ↓eIaddL, ↓eFrz, ↓eFor, ↓eWhile, ↓eNm, ↓eC, ↓eOp, ↓eB, ↓eTr, ↓eTrB, ↓eTrI, ↓eTrN, ↓eTrT, ↓eTrL, ↓eTrA, ↓eAnd, ↓eOr, ↓eNot, ↓eAndV, ↓eOrV, ↓eNotV, ↓eIf, ↓eNil, ↓eCons, ↓eTup, ↓eOfL, ↓eLstL, ↓eListL, ↓eCatL, ↓eLc, ↓eWipe0, ↓eWipe, ↓eSeq, ↓eRng1, ↓eRng2, ↓eCall, ↓eCallL, ↓eRetL, ↓eSrt, ↓eSrtU, ↓eCB, ↓eNeg, ↓eChain, ↓eAppend, ↓ePop, ↓eNo, ↓eSome, ↓eSl, ↓eAnyG, ↓eAllG, ↓eZip, ↓eZip3, ↓gIsC_, tyN_t, tyN_l, tyN_n, tyN_b, tyN_i, seqP_t, seqP_l, ↓eEn1, ↓eEn2, ↓eSeqA, ↓ePar, ↓gAnyL_, ↓gAllL_, ↓gSumL_, boolsD_map, intsD_map, ↓gSl_t, ↓gSl_l, ↓gSl_a, ↓gAdd_i, ↓gAdd_t, ↓gAdd_s, ↓gAdd_l, ↓gI0_i, ↓gI_i, ↓gMul_i, ↓gMul_t, ↓gEq_, ↓gNe_, ↓gIs_n, ↓gIs_b, ↓gIsNot_n, ↓gIsNot_b, ↓gIn_, ↓gNotIn_, ↓gIx_t, ↓gIx_l, ↓gIx_a, ↓gLen_, ↓gLen_l, ↓gLen_a, ↓gInt_, ↓gInt_b, ↓gTuple_, ↓gTuple_l, ↓gTuple_a, ↓gMax_, ↓gMin_, ↓gIsBool_b, ↓gIsBool_i, seqOf_t, seqOf_l, seqOf_a, lstOf_l, lstOf_a, rsv_i, rsv_b, rsv_s, rsv_n, rsv_t, rsv_l, dle_i, dle_b, dle_n, eqD_i, eqD_b, isNon, bNm_, bTup_, bCons_, bNil_, Option.bind_some, i40, i41, i42, i43, atI0, atI1, atI2, atI3, atI4, atI5, mset_same, true_and, beq_self_eq_true, Bool.false_eq_true, c0, c1, Int.cast_ofNat_Int, Int.reduceEq, Int.reduceLT, Int.reduceLE, Int.reduceAdd, Int.reduceSub, ↓reduceIte]
        unfold Below at q
        rw [hle, Bool.and_false, Bool.false_and] at q
        exact q
  · rw [decide_eq_false hm]
    try simp -dsimp only [bodyE, startD, List.map_cons, List.map_nil, List.length_cons, List.length_nil, List.replicate_succ, List.replicate_zero, List.cons_append, List.nil_append, Nat.reduceAdd, Nat.reduceSub, List.set_cons_zero, List.set_cons_succ, List.getElem?_cons_zero, List.getElem?_cons_succ, Bool.not_true, Bool.not_false, decide_true, decide_false, ↓IfS_t, ↓IfS_f, ↓IfE_t, ↓IfE_f, ↓AndT_t, ↓AndT_f, ↓OrT_t, ↓OrT_f, ↓AndV_t, ↓AndV_f, ↓OrV_t, ↓OrV_f, IfS_t, IfS_f, IfE_t, IfE_f, AndT_t, AndT_f, OrT_t, OrT_f, AndV_t, AndV_f, OrV_t, OrV_f, ↓eThen, ↓ePass, ↓eBreak, ↓eCont, ↓eExpr, ↓eRet, ↓eRetN, ↓eIfS, ↓eSet, ↓eOwn, ↓eAsg, ↓eSetIx, ↓eGSetIx, ↓eAug, ↓eIadd, ↓eIaddL, ↓eFrz, ↓eFor, ↓eWhile, ↓eNm, ↓eC, ↓eOp, ↓eB, ↓eTr, ↓eTrB, ↓eTrI, ↓eTrN, ↓eTrT, ↓eTrL, ↓eTrA, ↓eAnd, ↓eOr, ↓eNot, ↓eAndV, ↓eOrV, ↓eNotV, ↓eIf, ↓eNil, ↓eCons, ↓eTup, ↓eOfL, ↓eLstL, ↓eListL, ↓eCatL, ↓eLc, ↓eWipe0, ↓eWipe, ↓eSeq, ↓eRng1, ↓eRng2, ↓eCall, ↓eCallL, ↓eRetL, ↓eSrt, ↓eSrtU, ↓eCB, ↓eNeg, ↓eChain, ↓eAppend, ↓ePop, ↓eNo, ↓eSome, ↓eSl, ↓eAnyG, ↓eAllG, ↓eZip, ↓eZip3, ↓gIsC_, tyN_t, tyN_l, tyN_n, tyN_b, tyN_i, seqP_t, seqP_l, ↓eEn1, ↓eEn2, ↓eSeqA, ↓ePar, ↓gAnyL_, ↓gAllL_, ↓gSumL_, boolsD_map, intsD_map, ↓gSl_t, ↓gSl_l, ↓gSl_a, ↓gAdd_i, ↓gAdd_t, ↓gAdd_s, ↓gAdd_l, ↓gI0_i, ↓gI_i, ↓gMul_i, ↓gMul_t, ↓gEq_, ↓gNe_, ↓gIs_n, ↓gIs_b, ↓gIsNot_n, ↓gIsNot_b, ↓gIn_, ↓gNotIn_, ↓gIx_t, ↓gIx_l, ↓gIx_a, ↓gLen_, ↓gLen_l, ↓gLen_a, ↓gInt_, ↓gInt_b, ↓gTuple_, ↓gTuple_l, ↓gTuple_a, ↓gMax_, ↓gMin_, ↓gIsBool_b, ↓gIsBool_i, seqOf_t, seqOf_l, seqOf_a, lstOf_l, lstOf_a, rsv_i, rsv_b, rsv_s, rsv_n, rsv_t, rsv_l, dle_i, dle_b, dle_n, eqD_i, eqD_b, isNon, bNm_, bTup_, bCons_, bNil_, Option.bind_some, i40, i41, i42, i43, atI0, atI1, atI2, atI3, atI4, atI5, mset_same, true_and, beq_self_eq_true, Bool.false_eq_true, c0, c1, Int.cast_ofNat_Int, Int.reduceEq, Int.reduceLT, Int.reduceLE, Int.reduceAdd, Int.reduceSub, ↓reduceIte]
    unfold Below at q
    rw [decide_eq_false hm, Bool.false_and, Bool.false_and] at q
    exact q
theorem b_is_above (ds : List D) (M : Mu) (Q : D → Mu → Prop) (xw : XW) (h : S_is_above ds M Q xw) : bodyE N_is_above (f_is_above S_is_below) ds M Q xw := by
  obtain ⟨s, f, d, rfl, hd, q⟩ := h
  have q : Q (.bl (Above s f)) (mres M M) := by rw [mres_self]; exact q
  simp only [bodyE, bodyL, startD, N_is_above, List.map_cons, List.map_nil, List.length_cons, List.length_nil, List.replicate_succ, List.replicate_zero, List.cons_append, List.nil_append, Nat.reduceAdd, Nat.reduceSub]
  unfold f_is_above
  try simp -dsimp only [bodyE, startD, List.map_cons, List.map_nil, List.length_cons, List.length_nil, List.replicate_succ, List.replicate_zero, List.cons_append, List.nil_append, Nat.reduceAdd, Nat.reduceSub, List.set_cons_zero, List.set_cons_succ, List.getElem?_cons_zero, List.getElem?_cons_succ, Bool.not_true, Bool.not_false, decide_true, decide_false, ↓IfS_t, ↓IfS_f, ↓IfE_t, ↓IfE_f, ↓AndT_t, ↓AndT_f, ↓OrT_t, ↓OrT_f, ↓AndV_t, ↓AndV_f, ↓OrV_t, ↓OrV_f, IfS_t, IfS_f, IfE_t, IfE_f, AndT_t, AndT_f, OrT_t, OrT_f, AndV_t, AndV_f, OrV_t, OrV_f, ↓eThen, ↓ePass, ↓eBreak, ↓eCont, ↓eExpr, ↓eRet, ↓eRetN, ↓eIfS, ↓eSet, ↓eOwn, ↓eAsg, ↓eSetIx, ↓eGSetIx, ↓eAug, ↓eIadd, ↓eIaddL, ↓eFrz, ↓eFor, ↓eWhile, ↓eNm, ↓eC, ↓eOp, ↓eB, ↓eTr, ↓eTrB, ↓eTrI, ↓eTrN, ↓eTrT, ↓eTrL, ↓eTrA, ↓eAnd, ↓eOr, ↓eNot, ↓eAndV, ↓eOrV, ↓eNotV, ↓eIf, ↓eNil, ↓eCons, ↓eTup, ↓eOfL, ↓eLstL, ↓eListL, ↓eCatL, ↓eLc, ↓eWipe0, ↓eWipe, ↓eSeq, ↓eRng1, ↓eRng2, ↓eCall, ↓eCallL, ↓eRetL, ↓eSrt, ↓eSrtU, ↓eCB, ↓eNeg, ↓eChain, ↓eAppend, ↓ePop, ↓eNo, ↓eSome, ↓eSl, ↓eAnyG, ↓eAllG, ↓eZip, ↓eZip3, ↓gIsC_, tyN_t, tyN_l, tyN_n, tyN_b, tyN_i, seqP_t, seqP_l, ↓eEn1, ↓eEn2, ↓eSeqA, ↓ePar, ↓gAnyL_, ↓gAllL_, ↓gSumL_, boolsD_map, intsD_map, ↓gSl_t, ↓gSl_l, ↓gSl_a, ↓gAdd_i, ↓gAdd_t, ↓gAdd_s, ↓gAdd_l, ↓gI0_i, ↓gI_i, ↓gMul_i, ↓gMul_t, ↓gEq_, ↓gNe_, ↓gIs_n, ↓gIs_b, ↓gIsNot_n, ↓gIsNot_b, ↓gIn_, ↓gNotIn_, ↓gIx_t, ↓gIx_l, ↓gIx_a, ↓gLen_, ↓gLen_l, ↓gLen_a, ↓gInt_, ↓gInt_b, ↓gTuple_, ↓gTuple_l, ↓gTuple_a, ↓gMax_, ↓gMin_, ↓gIsBool_b, ↓gIsBool_i, seqOf_t, seqOf_l, seqOf_a, lstOf_l, lstOf_a, rsv_i, rsv_b, rsv_s, rsv_n, rsv_t, rsv_l, dle_i, dle_b, dle_n, eqD_i, eqD_b, isNon, bNm_, bTup_, bCons_, bNil_, Option.bind_some, i40, i41, i42, i43, atI0, atI1, atI2, atI3, atI4, atI5, mset_same, true_and, beq_self_eq_true, Bool.false_eq_true, c0, c1, Int.cast_ofNat_Int, Int.reduceEq, Int.reduceLT, Int.reduceLE, Int.reduceAdd, Int.reduceSub, ↓reduceIte, hd]
  refine genS_map (fun l : Ste => Below l s) (fun p _ => ⟨_, rfl, fun Q hq => ?_⟩) ?_
  · try simp -dsimp only [bodyE, startD, List.map_cons, List.map_nil, List.length_cons, List.length_nil, List.replicate_succ, List.replicate_zero, List.cons_append, List.nil_append, Nat.reduceAdd, Nat.reduceSub, List.set_cons_zero, List.set_cons_succ, List.getElem?_cons_zero, List.getElem?_cons_succ, Bool.not_true, Bool.not_false, decide_true, decide_false, ↓IfS_t, ↓IfS_f, ↓IfE_t, ↓IfE_f, ↓AndT_t, ↓AndT_f, ↓OrT_t, ↓OrT_f, ↓AndV_t, ↓AndV_f, ↓OrV_t, ↓OrV_f, IfS_t, IfS_f, IfE_t, IfE_f, AndT_t, AndT_f, OrT_t, OrT_f, AndV_t, AndV_f, OrV_t, OrV_f, ↓eThen, ↓ePass, ↓eBreak, ↓eCont, ↓eExpr, ↓eRet, ↓eRetN, ↓eIfS, ↓eSet, ↓eOwn, ↓eAsg, ↓eSetIx, ↓eGSetIx, ↓eAug, ↓eIadd, ↓eIaddL, ↓eFrz, ↓eFor, ↓eWhile, ↓eNm, ↓eC, ↓eOp, ↓eB, ↓eTr, ↓eTrB, ↓eTrI, ↓eTrN, ↓eTrT, ↓eTrL, ↓eTrA, ↓eAnd, ↓eOr, ↓eNot, ↓eAndV, ↓eOrV, ↓eNotV, ↓eIf, ↓eNil, ↓eCons, ↓eTup, ↓eOfL, ↓eLstL, ↓eListL, ↓eCatL, ↓eLc, ↓eWipe0, ↓eWipe, ↓eSeq, ↓eRng1, ↓eRng2, ↓eCall, ↓eCallL, ↓eRetL, ↓eSrt, ↓eSrtU, ↓eCB, ↓eNeg, ↓eChain, ↓eAppend, ↓ePop, ↓eNo, ↓eSome, ↓eSl, ↓eAnyG, ↓eAllG, ↓eZip, ↓eZip3, ↓gIsC_, tyN_t, tyN_l, tyN_n, tyN_b, tyN_i, seqP_t, seqP_l, ↓eEn1, ↓eEn2, ↓eSeqA, ↓ePar, ↓gAnyL_, ↓gAllL_, ↓gSumL_, boolsD_map, intsD_map, ↓gSl_t, ↓gSl_l, ↓gSl_a, ↓gAdd_i, ↓gAdd_t, ↓gAdd_s, ↓gAdd_l, ↓gI0_i, ↓gI_i, ↓gMul_i, ↓gMul_t, ↓gEq_, ↓gNe_, ↓gIs_n, ↓gIs_b, ↓gIsNot_n, ↓gIsNot_b, ↓gIn_, ↓gNotIn_, ↓gIx_t, ↓gIx_l, ↓gIx_a, ↓gLen_, ↓gLen_l, ↓gLen_a, ↓gInt_, ↓gInt_b, ↓gTuple_, ↓gTuple_l, ↓gTuple_a, ↓gMax_, ↓gMin_, ↓gIsBool_b, ↓gIsBool_i, seqOf_t, seqOf_l, seqOf_a, lstOf_l, lstOf_a, rsv_i, rsv_b, rsv_s, rsv_n, rsv_t, rsv_l, dle_i, dle_b, dle_n, eqD_i, eqD_b, isNon, bNm_, bTup_, bCons_, bNil_, Option.bind_some, i40, i41, i42, i43, atI0, atI1, atI2, atI3, atI4, atI5, mset_same, true_and, beq_self_eq_true, Bool.false_eq_true, c0, c1, Int.cast_ofNat_Int, Int.reduceEq, Int.reduceLT, Int.reduceLE, Int.reduceAdd, Int.reduceSub, ↓reduceIte]
    exact ⟨p, s, rfl, hq⟩
  · rw [any_map_id]
    exact q
end U

set_option Elab.async false
set_option linter.all false
set_option maxRecDepth 100000
set_option maxHeartbeats 1000000
/-! V6: the laws' own helpers about states. -/
namespace U
open PySem PySem.Spec PyProof.Rows L2

/-! ### loops over a range; pure comprehensions -/
theorem rngD_drop {lo : Int} {n k : Nat} (h : k < n) : (rngD lo n).drop k = .int (lo + (k : Nat)) :: (rngD lo n).drop (k + 1) := by
  unfold rngD
  rw [List.drop_eq_getElem_cons (by simpa using h), List.getElem_map, List.getElem_range]
theorem forS_rng {i0 : Nat} {f : FS} {E : FEnds} {lo : Int} {n : Nat} {ρ : Env'} {M : Mu} (I : Nat → Env' → Mu → Prop) (h0 : I 0 ρ M)
    (step : ∀ k ρ M, k < n → I k ρ M → ∀ nn cc : Env' → Mu → Prop, (∀ ρ M, I (k + 1) ρ M → nn ρ M) → (∀ ρ M, I (k + 1) ρ M → cc ρ M) → f { nx := nn, rt := E.rt, bk := E.nx, ct := cc, xw := E.xw } (ρ.set i0 (some (.int (lo + (k : Nat))))) M)
    (done : ∀ ρ M, I n ρ M → E.nx ρ M) : ForS (bNm i0) f (rngD lo n) (.mk : Ky E) ρ M := by
  refine forS_ind (fun rest ρ M => ∃ k, k ≤ n ∧ rest = (rngD lo n).drop k ∧ I k ρ M) ?_ ?_ _ _ _ ⟨0, Nat.zero_le _, rfl, h0⟩
  · rintro d rest ρ M ⟨k, hk, e, hI⟩
    have hlt : k < n := by
      rcases Nat.lt_or_ge k n with h | h
      · exact h
      · rw [List.drop_of_length_le (by rw [rngD_length]; exact h)] at e; cases e
    rw [rngD_drop hlt] at e
    cases e
    exact ⟨_, rfl, fun nn cc h1 h2 => step k ρ M hlt hI nn cc (fun ρ M h => h1 _ _ ⟨k + 1, hlt, rfl, h⟩) (fun ρ M h => h2 _ _ ⟨k + 1, hlt, rfl, h⟩)⟩
  · rintro ρ M ⟨k, hk, e, hI⟩
    have : k = n := by
      rcases Nat.lt_or_ge k n with h | h
      · rw [rngD_drop h] at e; cases e
      · omega
    subst this
    exact done ρ M hI
theorem lc_map {α : Type} {i : Nat} {fe : FE} {ρ : Env'} {M : Mu} {QL : List D → Mu → Prop} {enc : α → D} {xs : List α} (G : α → D) (hl : xs.length ≤ sizeLine)
    (he : ∀ x ∈ xs, ∀ k : D → Mu → Prop, k (G x) M → fe xF (ρ.set i (some (enc x))) M k) (q : QL (xs.map G) M) : LcS (bNm i) fYes fe ρ (xs.map enc) M (.mk : Ky QL) := by
  refine lcS_ind (fun rest acc M' => M = M' ∧ ∃ pre suf, pre ++ suf = xs ∧ rest = suf.map enc ∧ acc = pre.map G) ⟨rfl, [], xs, rfl, rfl, rfl⟩ ?_ ?_
  · rintro d rest acc M' ⟨rfl, pre, suf, h1, h2, rfl⟩
    cases suf with
    | nil => cases h2
    | cons x suf =>
      cases h2
      refine ⟨_, rfl, fun k hk => ?_⟩
      have hx : x ∈ xs := by rw [← h1]; simp
      have hlen : (pre.map G).length < sizeLine := by
        have := congrArg List.length h1
        rw [List.length_append, List.length_cons] at this
        rw [List.length_map]; omega
      show fe xF (ρ.set i (some (enc x))) M _
      exact he x hx _ ⟨hlen, hk _ _ ⟨rfl, pre ++ [x], suf, by rw [List.append_assoc]; exact h1, rfl, by rw [List.map_append]; rfl⟩⟩
  · rintro acc M' ⟨rfl, pre, suf, h1, h2, rfl⟩
    cases suf with
    | cons => cases h2
    | nil =>
      rw [List.append_nil] at h1
      rw [h1]; exact q
theorem rngD_enc {lo : Int} {n : Nat} : rngD lo n = (List.range n).map fun k : Nat => D.int (lo + (k : Nat)) := rfl
theorem all_zip {α β : Type} (p : α → β → Bool) (x : α) (y : β) : ∀ (a : List α) (b : List β), a.length = b.length → (List.range a.length).all (fun k => p (a.getD k x) (b.getD k y)) = (a.zip b).all fun q => p q.1 q.2
  | [], [], _ => rfl
  | u :: a, v :: b, h => by
    have ih := all_zip p x y a b (by simpa using h)
    rw [List.length_cons, List.range_succ_eq_map, List.all_cons, List.all_map, List.zip_cons_cons, List.all_cons, ← ih]
    rfl
theorem wD_getD {w : List (List Int)} {k : Nat} (h : k < w.length) : atI (w.map wD) (0 + (k : Nat)) = some (wD (w.getD k [])) := by
  rw [Int.zero_add, atI_nat' k (by rw [List.length_map]; exact h), List.getElem?_map, List.getD_eq_getElem?_getD, List.getElem?_eq_getElem h]
  rfl
theorem int_getD {w : List Int} {k : Nat} (h : k < w.length) : atI (w.map D.int) (0 + (k : Nat)) = some (.int (w.getD k 0)) := by
  rw [Int.zero_add, atI_nat' k (by rw [List.length_map]; exact h), List.getElem?_map, List.getD_eq_getElem?_getD, List.getElem?_eq_getElem h]
  rfl
theorem cut1 {d : D} {ds : List D} : cutD (d :: ds) (some 1) none = ds := by
  unfold cutD
  have h : HT.sIx (d :: ds).length 0 (some 1) = 1 := by
    show min (1 : Int).toNat (d :: ds).length = 1
    rw [List.length_cons]
    show min 1 _ = 1
    omega
  rw [h]
  show ((d :: ds).drop 1).take ((d :: ds).length - 1) = ds
  simp
theorem cut_to {l : List D} {i : Int} (h0 : 0 ≤ i) : cutD l none (some i) = l.take i.toNat := by
  unfold cutD
  have h : HT.sIx l.length l.length (some i) = min i.toNat l.length := by
    show (if i < 0 then _ else min i.toNat l.length) = _
    rw [if_neg (by omega)]
  have h2 : HT.sIx l.length 0 none = 0 := rfl
  rw [h, h2, List.drop_zero, Nat.sub_zero, Nat.min_def]
  split
  · rfl
  · rw [List.take_of_length_le (Nat.le_refl _), List.take_of_length_le (by omega)]
theorem cut_from {l : List D} {i : Int} (h0 : 0 ≤ i) : cutD l (some i) none = l.drop i.toNat := by
  unfold cutD
  have h : HT.sIx l.length 0 (some i) = min i.toNat l.length := by
    show (if i < 0 then _ else min i.toNat l.length) = _
    rw [if_neg (by omega)]
  have h2 : HT.sIx l.length l.length none = l.length := rfl
  rw [h, h2]
  by_cases e : i.toNat ≤ l.length
  · rw [Nat.min_eq_left e]
    rw [List.take_of_length_le (by rw [List.length_drop]; omega)]
  · rw [Nat.min_eq_right (by omega), List.drop_eq_nil_of_le (Nat.le_refl _), List.drop_eq_nil_of_le (by omega)]
    simp
def N_lsub : List Str := ["_law_word_here", "_law_other", "_law_k"]
def f_lsub (S_lsub : FSpec) : FS := fThen (fIfS (fB (fOp gEq (fCB gLen (fCons (fNm 0) fNil)) (fC (.int 0)))) (fRet (fC (.bl true))) fPass) (fThen (fFor (fRng1 (fCons (fCB gLen (fCons (fNm 1) fNil)) fNil)) (bNm 2) (fIfS (fB (fOp gEq (fOp gIx (fNm 1) (fNm 2)) (fOp gIx (fNm 0) (fC (.int 0))))) (fRet (fCall S_lsub (fCons (fSl' (fNm 0) (fSome (fC (.int 1))) fNo) (fCons (fSl' (fNm 1) (fSome (fOp gAdd (fNm 2) (fC (.int 1)))) fNo) fNil)))) fPass)) (fRet (fC (.bl false))))
def N_lbelow : List Str := ["_law_one", "_law_two", "_law_k"]
def f_lbelow (S_lsub : FSpec) : FS := fThen (fIfS (fB (fOp gNe (fOp gIx (fNm 0) (fC (.int 0))) (fOp gIx (fNm 1) (fC (.int 0))))) (fRet (fC (.bl false))) fPass) (fThen (fFor (fRng1 (fCons (fCB gLen (fCons (fOp gIx (fNm 0) (fC (.int 1))) fNil)) fNil)) (bNm 2) (fIfS (fB (fOp gGt (fOp gIx (fOp gIx (fNm 0) (fC (.int 1))) (fNm 2)) (fOp gIx (fOp gIx (fNm 1) (fC (.int 1))) (fNm 2)))) (fRet (fC (.bl false))) fPass)) (fRet (fCB gAllL (fCons (fOfL (fLc (fRng1 (fCons (fCB gLen (fCons (fOp gIx (fNm 0) (fC (.int 2))) fNil)) fNil)) (bNm 2) fYes (fCall S_lsub (fCons (fOp gIx (fOp gIx (fNm 0) (fC (.int 2))) (fNm 2)) (fCons (fOp gIx (fOp gIx (fNm 1) (fC (.int 2))) (fNm 2)) fNil))) [2])) fNil))))
def N_labove : List Str := ["_law_one", "_law_floor", "_law_low"]
def f_labove (S_lbelow : FSpec) : FS := fRet (fCB gAnyL (fCons (fOfL (fLc (fSeq (fNm 1)) (bNm 2) fYes (fCall S_lbelow (fCons (fNm 2) (fCons (fNm 0) fNil))) [2])) fNil))
def N_lshape : List Str := ["_law_state_here", "_law_shapes"]
def f_lshape (S_ldraw : FSpec) : FS := fThen (fSet 1 (fOfL (fLstL (fCons (fTup (fCons (fC (.int 1)) (fCons (fC (.int 2)) (fCons (fC (.int 0)) (fCons (fC (.int 0)) fNil))))) (fCons (fTup (fCons (fC (.int 2)) (fCons (fC (.int 1)) (fCons (fC (.int 1)) (fCons (fC (.int 2)) fNil))))) (fCons (fTup (fCons (fC (.int 1)) (fCons (fC (.int 1)) (fCons (fC (.int 1)) (fCons (fC (.int 2)) fNil))))) (fCons (fTup (fCons (fC (.int 2)) (fCons (fC (.int 2)) (fCons (fC (.int 0)) (fCons (fC (.int 1)) fNil))))) (fCons (fTup (fCons (fC (.int 1)) (fCons (fC (.int 0)) (fCons (fC (.int 2)) (fCons (fC (.int 2)) fNil))))) (fCons (fTup (fCons (fC (.int 1)) (fCons (fC (.int 3)) (fCons (fC (.int 0)) (fCons (fC (.int 0)) fNil))))) (fCons (fTup (fCons (fC (.int 2)) (fCons (fC (.int 2)) (fCons (fC (.int 1)) (fCons (fC (.int 2)) fNil))))) (fCons (fTup (fCons (fC (.int 3)) (fCons (fC (.int 0)) (fCons (fC (.int 1)) (fCons (fC (.int 2)) fNil))))) (fCons (fTup (fCons (fC (.int 1)) (fCons (fC (.int 0)) (fCons (fC (.int 1)) (fCons (fC (.int 3)) fNil))))) (fCons (fTup (fCons (fC (.int 1)) (fCons (fC (.int 1)) (fCons (fC (.int 1)) (fCons (fC (.int 1)) fNil))))) (fCons (fTup (fCons (fC (.int 2)) (fCons (fC (.int 1)) (fCons (fC (.int 1)) (fCons (fC (.int 0)) fNil))))) (fCons (fTup (fCons (fC (.int 4)) (fCons (fC (.int 1)) (fCons (fC (.int 0)) (fCons (fC (.int 0)) fNil))))) (fCons (fTup (fCons (fC (.int 3)) (fCons (fC (.int 0)) (fCons (fC (.int 0)) (fCons (fC (.int 0)) fNil))))) (fCons (fTup (fCons (fC (.int 2)) (fCons (fC (.int 1)) (fCons (fC (.int 2)) (fCons (fC (.int 2)) fNil))))) (fCons (fTup (fCons (fC (.int 1)) (fCons (fC (.int 4)) (fCons (fC (.int 0)) (fCons (fC (.int 0)) fNil))))) (fCons (fTup (fCons (fC (.int 6)) (fCons (fC (.int 1)) (fCons (fC (.int 0)) (fCons (fC (.int 0)) fNil))))) fNil))))))))))))))))))) (fRet (fOp gIx (fNm 1) (fCall S_ldraw (fCons (fNm 0) (fCons (fC (.int 16)) fNil)))))
def N_lstate : List Str := ["_law_state_here", "_law_shape_here", "_law_most", "_law_numbers", "_law_words", "_law_k"]
def f_lstate (S_ldraw : FSpec) (S_lword : FSpec) : FS := fThen (fSet 3 (fCB gTuple (fCons (fOfL (fLc (fRng1 (fCons (fOp gIx (fNm 1) (fC (.int 1))) fNil)) (bNm 5) fYes (fCall S_ldraw (fCons (fNm 0) (fCons (fOp gAdd (fNm 2) (fC (.int 1))) fNil))) [5])) fNil))) (fThen (fSet 4 (fCB gTuple (fCons (fOfL (fLc (fRng1 (fCons (fOp gIx (fNm 1) (fC (.int 2))) fNil)) (bNm 5) fYes (fCall S_lword (fCons (fNm 0) (fCons (fOp gIx (fNm 1) (fC (.int 3))) (fCons (fNm 2) fNil)))) [5])) fNil))) (fRet (fTup (fCons (fCall S_ldraw (fCons (fNm 0) (fCons (fOp gIx (fNm 1) (fC (.int 0))) fNil))) (fCons (fNm 3) (fCons (fNm 4) fNil))))))
def N_lstates : List Str := ["_law_state_here", "_law_shape_here", "_law_count", "_law_most", "_law_k"]
def f_lstates (S_ldraw : FSpec) (S_lstate : FSpec) : FS := fRet (fOfL (fLc (fRng1 (fCons (fCall S_ldraw (fCons (fNm 0) (fCons (fOp gAdd (fNm 2) (fC (.int 1))) fNil))) fNil)) (bNm 4) fYes (fCall S_lstate (fCons (fNm 0) (fCons (fNm 1) (fCons (fNm 3) fNil)))) [4]))

def S_lsub (n : Nat) : FSpec := fun ds M Q _ => ∃ v w : List Int, ds = [wD v, wD w] ∧ v.length < n ∧ w.length ≤ 10000 ∧ Q (.bl (SubW v w)) M
theorem z_lsub (ds : List D) (M : Mu) (Q : D → Mu → Prop) (xw : XW) : ¬ S_lsub 0 ds M Q xw := fun ⟨_, _, _, h, _⟩ => absurd h (Nat.not_lt_zero _)
/-- states of one shape -/
def Like (a b : Ste) : Prop := a.n.length = b.n.length ∧ a.w.length = b.w.length ∧ a.n.length ≤ 1000 ∧ a.w.length ≤ 1000 ∧ (∀ v ∈ a.w, v.length < 50) ∧ ∀ v ∈ b.w, v.length ≤ 10000
def S_lbelow : FSpec := fun ds M Q _ => ∃ a b : Ste, ds = [stD a, stD b] ∧ Like a b ∧ Q (.bl (Below a b)) M
def S_labove : FSpec := fun ds M Q _ => ∃ (s : Ste) (f : List Ste), ds = [stD s, .lst (f.map stD)] ∧ f.length ≤ 10000 ∧ (∀ l ∈ f, Like l s) ∧ Q (.bl (Above s f)) M
theorem sub_first {x : Int} {v : List Int} : ∀ {w : List Int} {k : Nat}, (∀ j, j < k → w.getD j 0 ≠ x) → k ≤ w.length → SubW (x :: v) w = SubW (x :: v) (w.drop k)
  | w, 0, _, _ => by rw [List.drop_zero]
  | [], k + 1, _, h => by simp at h
  | y :: w, k + 1, h, hk => by
    have h0 : y ≠ x := by simpa using h 0 (by omega)
    rw [sub_cons, if_neg h0, List.drop_succ_cons]
    exact sub_first (fun j hj => by simpa using h (j + 1) (by omega)) (by simpa using hk)
theorem b_lsub (n : Nat) (ds : List D) (M : Mu) (Q : D → Mu → Prop) (xw : XW) (h : S_lsub (n + 1) ds M Q xw) : bodyE N_lsub (f_lsub (S_lsub n)) ds M Q xw := by
  obtain ⟨v, w, rfl, hn, hw, q⟩ := h
  have q : Q (.bl (SubW v w)) (mres M M) := by rw [mres_self]; exact q
  simp only [bodyE, bodyL, startD, N_lsub, List.map_cons, List.map_nil, List.length_cons, List.length_nil, List.replicate_succ, List.replicate_zero, List.cons_append, List.nil_append, Nat.reduceAdd, Nat.reduceSub]
  unfold f_lsub
  unfold wD
  cases v with
  | nil =>
    try simp -dsimp only [bodyE, startD, List.map_cons, List.map_nil, List.length_cons, List.length_nil, List.replicate_succ, List.replicate_zero, List.cons_append, List.nil_append, Nat.reduceAdd, Nat.reduceSub, List.set_cons_zero, List.set_cons_succ, List.getElem?_cons_zero, List.getElem?_cons_succ, Bool.not_true, Bool.not_false, decide_true, decide_false, ↓IfS_t, ↓IfS_f, ↓IfE_t, ↓IfE_f, ↓AndT_t, ↓AndT_f, ↓OrT_t, ↓OrT_f, ↓AndV_t, ↓AndV_f, ↓OrV_t, ↓OrV_f, IfS_t, IfS_f, IfE_t, IfE_f, AndT_t, AndT_f, OrT_t, OrT_f, AndV_t, AndV_f, OrV_t, OrV_f, ↓eThen, ↓ePass, ↓eBreak, ↓eCont, ↓eExpr, ↓eRet, ↓eRetN, ↓eIfS, ↓eSet, ↓eOwn, ↓eAsg, ↓eSetIx, ↓eGSetIx, ↓eAug, ↓eIadd, ↓eIaddL, ↓eFrz, ↓eFor, ↓eWhile, ↓eNm, ↓eC, ↓eOp, ↓eB, ↓eTr, ↓eTrB, ↓eTrI, ↓eTrN, ↓eTrT, ↓eTrL, ↓eTrA, ↓eAnd, ↓eOr, ↓eNot, ↓eAndV, ↓eOrV, ↓eNotV, ↓eIf, ↓eNil, ↓eCons, ↓eTup, ↓eOfL, ↓eLstL, ↓eListL, ↓eCatL, ↓eLc, ↓eWipe0, ↓eWipe, ↓eSeq, ↓eRng1, ↓eRng2, ↓eCall, ↓eCallL, ↓eRetL, ↓eSrt, ↓eSrtU, ↓eCB, ↓eNeg, ↓eChain, ↓eAppend, ↓ePop, ↓eNo, ↓eSome, ↓eSl, ↓eAnyG, ↓eAllG, ↓eZip, ↓eZip3, ↓gIsC_, tyN_t, tyN_l, tyN_n, tyN_b, tyN_i, seqP_t, seqP_l, ↓eEn1, ↓eEn2, ↓eSeqA, ↓ePar, ↓gAnyL_, ↓gAllL_, ↓gSumL_, boolsD_map, intsD_map, ↓gSl_t, ↓gSl_l, ↓gSl_a, ↓gAdd_i, ↓gAdd_t, ↓gAdd_s, ↓gAdd_l, ↓gI0_i, ↓gI_i, ↓gMul_i, ↓gMul_t, ↓gEq_, ↓gNe_, ↓gIs_n, ↓gIs_b, ↓gIsNot_n, ↓gIsNot_b, ↓gIn_, ↓gNotIn_, ↓gIx_t, ↓gIx_l, ↓gIx_a, ↓gLen_, ↓gLen_l, ↓gLen_a, ↓gInt_, ↓gInt_b, ↓gTuple_, ↓gTuple_l, ↓gTuple_a, ↓gMax_, ↓gMin_, ↓gIsBool_b, ↓gIsBool_i, seqOf_t, seqOf_l, seqOf_a, lstOf_l, lstOf_a, rsv_i, rsv_b, rsv_s, rsv_n, rsv_t, rsv_l, dle_i, dle_b, dle_n, eqD_i, eqD_b, isNon, bNm_, bTup_, bCons_, bNil_, Option.bind_some, i40, i41, i42, i43, atI0, atI1, atI2, atI3, atI4, atI5, mset_same, true_and, beq_self_eq_true, Bool.false_eq_true, c0, c1, Int.cast_ofNat_Int, Int.reduceEq, Int.reduceLT, Int.reduceLE, Int.reduceAdd, Int.reduceSub, ↓reduceIte]
    rw [sub_nil] at q
    exact q
  | cons x v =>
    have z1 : decide (((v.length + 1 : Nat) : Int) = 0) = false := decide_eq_false (by omega)
    try simp -dsimp only [bodyE, startD, List.map_cons, List.map_nil, List.length_cons, List.length_nil, List.replicate_succ, List.replicate_zero, List.cons_append, List.nil_append, Nat.reduceAdd, Nat.reduceSub, List.set_cons_zero, List.set_cons_succ, List.getElem?_cons_zero, List.getElem?_cons_succ, Bool.not_true, Bool.not_false, decide_true, decide_false, ↓IfS_t, ↓IfS_f, ↓IfE_t, ↓IfE_f, ↓AndT_t, ↓AndT_f, ↓OrT_t, ↓OrT_f, ↓AndV_t, ↓AndV_f, ↓OrV_t, ↓OrV_f, IfS_t, IfS_f, IfE_t, IfE_f, AndT_t, AndT_f, OrT_t, OrT_f, AndV_t, AndV_f, OrV_t, OrV_f, ↓eThen, ↓ePass, ↓eBreak, ↓eCont, ↓eExpr, ↓eRet, ↓eRetN, ↓eIfS, ↓eSet, ↓eOwn, ↓eAsg, ↓eSetIx, ↓eGSetIx, ↓eAug, ↓eIadd, ↓eIaddL, ↓eFrz, ↓eFor, ↓eWhile, ↓eNm, ↓eC, ↓eOp, ↓eB, ↓eTr, ↓eTrB, ↓eTrI, ↓eTrN, ↓eTrT, ↓eTrL, ↓eTrA, ↓eAnd, ↓eOr, ↓eNot, ↓eAndV, ↓eOrV, ↓eNotV, ↓eIf, ↓eNil, ↓eCons, ↓eTup, ↓eOfL, ↓eLstL, ↓eListL, ↓eCatL, ↓eLc, ↓eWipe0, ↓eWipe, ↓eSeq, ↓eRng1, ↓eRng2, ↓eCall, ↓eCallL, ↓eRetL, ↓eSrt, ↓eSrtU, ↓eCB, ↓eNeg, ↓eChain, ↓eAppend, ↓ePop, ↓eNo, ↓eSome, ↓eSl, ↓eAnyG, ↓eAllG, ↓eZip, ↓eZip3, ↓gIsC_, tyN_t, tyN_l, tyN_n, tyN_b, tyN_i, seqP_t, seqP_l, ↓eEn1, ↓eEn2, ↓eSeqA, ↓ePar, ↓gAnyL_, ↓gAllL_, ↓gSumL_, boolsD_map, intsD_map, ↓gSl_t, ↓gSl_l, ↓gSl_a, ↓gAdd_i, ↓gAdd_t, ↓gAdd_s, ↓gAdd_l, ↓gI0_i, ↓gI_i, ↓gMul_i, ↓gMul_t, ↓gEq_, ↓gNe_, ↓gIs_n, ↓gIs_b, ↓gIsNot_n, ↓gIsNot_b, ↓gIn_, ↓gNotIn_, ↓gIx_t, ↓gIx_l, ↓gIx_a, ↓gLen_, ↓gLen_l, ↓gLen_a, ↓gInt_, ↓gInt_b, ↓gTuple_, ↓gTuple_l, ↓gTuple_a, ↓gMax_, ↓gMin_, ↓gIsBool_b, ↓gIsBool_i, seqOf_t, seqOf_l, seqOf_a, lstOf_l, lstOf_a, rsv_i, rsv_b, rsv_s, rsv_n, rsv_t, rsv_l, dle_i, dle_b, dle_n, eqD_i, eqD_b, isNon, bNm_, bTup_, bCons_, bNil_, Option.bind_some, i40, i41, i42, i43, atI0, atI1, atI2, atI3, atI4, atI5, mset_same, true_and, beq_self_eq_true, Bool.false_eq_true, c0, c1, Int.cast_ofNat_Int, Int.reduceEq, Int.reduceLT, Int.reduceLE, Int.reduceAdd, Int.reduceSub, ↓reduceIte, List.length_map, z1]
    refine ⟨by omega, forS_rng (fun k ρ M' => M = M' ∧ (∃ o, ρ = [some (.tup (.int x :: v.map D.int)), some (.tup (w.map D.int)), o]) ∧ ∀ j, j < k → w.getD j 0 ≠ x) ⟨rfl, ⟨_, rfl⟩, fun j hj => absurd hj (Nat.not_lt_zero _)⟩ ?_ ?_⟩
    · rintro k ρ M' hk ⟨rfl, ⟨o, rfl⟩, hf⟩ nn cc hn1 hc1
      have hk : k < w.length := by omega
      try simp -dsimp only [bodyE, startD, List.map_cons, List.map_nil, List.length_cons, List.length_nil, List.replicate_succ, List.replicate_zero, List.cons_append, List.nil_append, Nat.reduceAdd, Nat.reduceSub, List.set_cons_zero, List.set_cons_succ, List.getElem?_cons_zero, List.getElem?_cons_succ, Bool.not_true, Bool.not_false, decide_true, decide_false, ↓IfS_t, ↓IfS_f, ↓IfE_t, ↓IfE_f, ↓AndT_t, ↓AndT_f, ↓OrT_t, ↓OrT_f, ↓AndV_t, ↓AndV_f, ↓OrV_t, ↓OrV_f, IfS_t, IfS_f, IfE_t, IfE_f, AndT_t, AndT_f, OrT_t, OrT_f, AndV_t, AndV_f, OrV_t, OrV_f, ↓eThen, ↓ePass, ↓eBreak, ↓eCont, ↓eExpr, ↓eRet, ↓eRetN, ↓eIfS, ↓eSet, ↓eOwn, ↓eAsg, ↓eSetIx, ↓eGSetIx, ↓eAug, ↓eIadd, ↓eIaddL, ↓eFrz, ↓eFor, ↓eWhile, ↓eNm, ↓eC, ↓eOp, ↓eB, ↓eTr, ↓eTrB, ↓eTrI, ↓eTrN, ↓eTrT, ↓eTrL, ↓eTrA, ↓eAnd, ↓eOr, ↓eNot, ↓eAndV, ↓eOrV, ↓eNotV, ↓eIf, ↓eNil, ↓eCons, ↓eTup, ↓eOfL, ↓eLstL, ↓eListL, ↓eCatL, ↓eLc, ↓eWipe0, ↓eWipe, ↓eSeq, ↓eRng1, ↓eRng2, ↓eCall, ↓eCallL, ↓eRetL, ↓eSrt, ↓eSrtU, ↓eCB, ↓eNeg, ↓eChain, ↓eAppend, ↓ePop, ↓eNo, ↓eSome, ↓eSl, ↓eAnyG, ↓eAllG, ↓eZip, ↓eZip3, ↓gIsC_, tyN_t, tyN_l, tyN_n, tyN_b, tyN_i, seqP_t, seqP_l, ↓eEn1, ↓eEn2, ↓eSeqA, ↓ePar, ↓gAnyL_, ↓gAllL_, ↓gSumL_, boolsD_map, intsD_map, ↓gSl_t, ↓gSl_l, ↓gSl_a, ↓gAdd_i, ↓gAdd_t, ↓gAdd_s, ↓gAdd_l, ↓gI0_i, ↓gI_i, ↓gMul_i, ↓gMul_t, ↓gEq_, ↓gNe_, ↓gIs_n, ↓gIs_b, ↓gIsNot_n, ↓gIsNot_b, ↓gIn_, ↓gNotIn_, ↓gIx_t, ↓gIx_l, ↓gIx_a, ↓gLen_, ↓gLen_l, ↓gLen_a, ↓gInt_, ↓gInt_b, ↓gTuple_, ↓gTuple_l, ↓gTuple_a, ↓gMax_, ↓gMin_, ↓gIsBool_b, ↓gIsBool_i, seqOf_t, seqOf_l, seqOf_a, lstOf_l, lstOf_a, rsv_i, rsv_b, rsv_s, rsv_n, rsv_t, rsv_l, dle_i, dle_b, dle_n, eqD_i, eqD_b, isNon, bNm_, bTup_, bCons_, bNil_, Option.bind_some, i40, i41, i42, i43, atI0, atI1, atI2, atI3, atI4, atI5, mset_same, true_and, beq_self_eq_true, Bool.false_eq_true, c0, c1, Int.cast_ofNat_Int, Int.reduceEq, Int.reduceLT, Int.reduceLE, Int.reduceAdd, Int.reduceSub, ↓reduceIte, int_getD hk]
      by_cases hx : w.getD k 0 = x
      · rw [decide_eq_true hx]
        try simp -dsimp only [bodyE, startD, List.map_cons, List.map_nil, List.length_cons, List.length_nil, List.replicate_succ, List.replicate_zero, List.cons_append, List.nil_append, Nat.reduceAdd, Nat.reduceSub, List.set_cons_zero, List.set_cons_succ, List.getElem?_cons_zero, List.getElem?_cons_succ, Bool.not_true, Bool.not_false, decide_true, decide_false, ↓IfS_t, ↓IfS_f, ↓IfE_t, ↓IfE_f, ↓AndT_t, ↓AndT_f, ↓OrT_t, ↓OrT_f, ↓AndV_t, ↓AndV_f, ↓OrV_t, ↓OrV_f, IfS_t, IfS_f, IfE_t, IfE_f, AndT_t, AndT_f, OrT_t, OrT_f, AndV_t, AndV_f, OrV_t, OrV_f, ↓eThen, ↓ePass, ↓eBreak, ↓eCont, ↓eExpr, ↓eRet, ↓eRetN, ↓eIfS, ↓eSet, ↓eOwn, ↓eAsg, ↓eSetIx, ↓eGSetIx, ↓eAug, ↓eIadd, ↓eIaddL, ↓eFrz, ↓eFor, ↓eWhile, ↓eNm, ↓eC, ↓eOp, ↓eB, ↓eTr, ↓eTrB, ↓eTrI, ↓eTrN, ↓eTrT, ↓eTrL, ↓eTrA, ↓eAnd, ↓eOr, ↓eNot, ↓eAndV, ↓eOrV, ↓eNotV, ↓eIf, ↓eNil, ↓eCons, ↓eTup, ↓eOfL, ↓eLstL, ↓eListL, ↓eCatL, ↓eLc, ↓eWipe0, ↓eWipe, ↓eSeq, ↓eRng1, ↓eRng2, ↓eCall, ↓eCallL, ↓eRetL, ↓eSrt, ↓eSrtU, ↓eCB, ↓eNeg, ↓eChain, ↓eAppend, ↓ePop, ↓eNo, ↓eSome, ↓eSl, ↓eAnyG, ↓eAllG, ↓eZip, ↓eZip3, ↓gIsC_, tyN_t, tyN_l, tyN_n, tyN_b, tyN_i, seqP_t, seqP_l, ↓eEn1, ↓eEn2, ↓eSeqA, ↓ePar, ↓gAnyL_, ↓gAllL_, ↓gSumL_, boolsD_map, intsD_map, ↓gSl_t, ↓gSl_l, ↓gSl_a, ↓gAdd_i, ↓gAdd_t, ↓gAdd_s, ↓gAdd_l, ↓gI0_i, ↓gI_i, ↓gMul_i, ↓gMul_t, ↓gEq_, ↓gNe_, ↓gIs_n, ↓gIs_b, ↓gIsNot_n, ↓gIsNot_b, ↓gIn_, ↓gNotIn_, ↓gIx_t, ↓gIx_l, ↓gIx_a, ↓gLen_, ↓gLen_l, ↓gLen_a, ↓gInt_, ↓gInt_b, ↓gTuple_, ↓gTuple_l, ↓gTuple_a, ↓gMax_, ↓gMin_, ↓gIsBool_b, ↓gIsBool_i, seqOf_t, seqOf_l, seqOf_a, lstOf_l, lstOf_a, rsv_i, rsv_b, rsv_s, rsv_n, rsv_t, rsv_l, dle_i, dle_b, dle_n, eqD_i, eqD_b, isNon, bNm_, bTup_, bCons_, bNil_, Option.bind_some, i40, i41, i42, i43, atI0, atI1, atI2, atI3, atI4, atI5, mset_same, true_and, beq_self_eq_true, Bool.false_eq_true, c0, c1, Int.cast_ofNat_Int, Int.reduceEq, Int.reduceLT, Int.reduceLE, Int.reduceAdd, Int.reduceSub, ↓reduceIte, cut1]
        have e1 : SubW (x :: v) w = SubW v (w.drop (k + 1)) := by
          rw [sub_first hf (Nat.le_of_lt hk), List.drop_eq_getElem_cons hk, sub_cons]
          have : w[k] = x := by rw [List.getD_eq_getElem?_getD, List.getElem?_eq_getElem hk] at hx; exact hx
          rw [if_pos this]
        rw [cut_from (by omega), ← List.map_drop]
        have e2 : (0 + (k : Int) + 1).toNat = k + 1 := by omega
        rw [e2]
        rw [e1] at q
        exact ⟨v, w.drop (k + 1), rfl, by simpa using hn, by rw [List.length_drop]; omega, q⟩
      · rw [decide_eq_false hx]
        try simp -dsimp only [bodyE, startD, List.map_cons, List.map_nil, List.length_cons, List.length_nil, List.replicate_succ, List.replicate_zero, List.cons_append, List.nil_append, Nat.reduceAdd, Nat.reduceSub, List.set_cons_zero, List.set_cons_succ, List.getElem?_cons_zero, List.getElem?_cons_succ, Bool.not_true, Bool.not_false, decide_true, decide_false, ↓IfS_t, ↓IfS_f, ↓IfE_t, ↓IfE_f, ↓AndT_t, ↓AndT_f, ↓OrT_t, ↓OrT_f, ↓AndV_t, ↓AndV_f, ↓OrV_t, ↓OrV_f, IfS_t, IfS_f, IfE_t, IfE_f, AndT_t, AndT_f, OrT_t, OrT_f, AndV_t, AndV_f, OrV_t, OrV_f, ↓eThen, ↓ePass, ↓eBreak, ↓eCont, ↓eExpr, ↓eRet, ↓eRetN, ↓eIfS, ↓eSet, ↓eOwn, ↓eAsg, ↓eSetIx, ↓eGSetIx, ↓eAug, ↓eIadd, ↓eIaddL, ↓eFrz, ↓eFor, ↓eWhile, ↓eNm, ↓eC, ↓eOp, ↓eB, ↓eTr, ↓eTrB, ↓eTrI, ↓eTrN, ↓eTrT, ↓eTrL, ↓eTrA, ↓eAnd, ↓eOr, ↓eNot, ↓eAndV, ↓eOrV, ↓eNotV, ↓eIf, ↓eNil, ↓eCons, ↓eTup, ↓eOfL, ↓eLstL, ↓eListL, ↓eCatL, ↓eLc, ↓eWipe0, ↓eWipe, ↓eSeq, ↓eRng1, ↓eRng2, ↓eCall, ↓eCallL, ↓eRetL, ↓eSrt, ↓eSrtU, ↓eCB, ↓eNeg, ↓eChain, ↓eAppend, ↓ePop, ↓eNo, ↓eSome, ↓eSl, ↓eAnyG, ↓eAllG, ↓eZip, ↓eZip3, ↓gIsC_, tyN_t, tyN_l, tyN_n, tyN_b, tyN_i, seqP_t, seqP_l, ↓eEn1, ↓eEn2, ↓eSeqA, ↓ePar, ↓gAnyL_, ↓gAllL_, ↓gSumL_, boolsD_map, intsD_map, ↓gSl_t, ↓gSl_l, ↓gSl_a, ↓gAdd_i, ↓gAdd_t, ↓gAdd_s, ↓gAdd_l, ↓gI0_i, ↓gI_i, ↓gMul_i, ↓gMul_t, ↓gEq_, ↓gNe_, ↓gIs_n, ↓gIs_b, ↓gIsNot_n, ↓gIsNot_b, ↓gIn_, ↓gNotIn_, ↓gIx_t, ↓gIx_l, ↓gIx_a, ↓gLen_, ↓gLen_l, ↓gLen_a, ↓gInt_, ↓gInt_b, ↓gTuple_, ↓gTuple_l, ↓gTuple_a, ↓gMax_, ↓gMin_, ↓gIsBool_b, ↓gIsBool_i, seqOf_t, seqOf_l, seqOf_a, lstOf_l, lstOf_a, rsv_i, rsv_b, rsv_s, rsv_n, rsv_t, rsv_l, dle_i, dle_b, dle_n, eqD_i, eqD_b, isNon, bNm_, bTup_, bCons_, bNil_, Option.bind_some, i40, i41, i42, i43, atI0, atI1, atI2, atI3, atI4, atI5, mset_same, true_and, beq_self_eq_true, Bool.false_eq_true, c0, c1, Int.cast_ofNat_Int, Int.reduceEq, Int.reduceLT, Int.reduceLE, Int.reduceAdd, Int.reduceSub, ↓reduceIte]
        refine hn1 _ _ ⟨rfl, ⟨_, rfl⟩, fun j hj => ?_⟩
        by_cases e : j = k
        · rw [e]; exact hx
        · exact hf j (by omega)
    · rintro ρ M' ⟨rfl, ⟨o, rfl⟩, hf⟩
      try simp -dsimp only [bodyE, startD, List.map_cons, List.map_nil, List.length_cons, List.length_nil, List.replicate_succ, List.replicate_zero, List.cons_append, List.nil_append, Nat.reduceAdd, Nat.reduceSub, List.set_cons_zero, List.set_cons_succ, List.getElem?_cons_zero, List.getElem?_cons_succ, Bool.not_true, Bool.not_false, decide_true, decide_false, ↓IfS_t, ↓IfS_f, ↓IfE_t, ↓IfE_f, ↓AndT_t, ↓AndT_f, ↓OrT_t, ↓OrT_f, ↓AndV_t, ↓AndV_f, ↓OrV_t, ↓OrV_f, IfS_t, IfS_f, IfE_t, IfE_f, AndT_t, AndT_f, OrT_t, OrT_f, AndV_t, AndV_f, OrV_t, OrV_f, ↓eThen, ↓ePass, ↓eBreak, ↓eCont, ↓eExpr, ↓eRet, ↓eRetN, ↓eIfS, ↓eSet, ↓eOwn, ↓eAsg, ↓eSetIx, ↓eGSetIx, ↓eAug, ↓eIadd, ↓eIaddL, ↓eFrz, ↓eFor, ↓eWhile, ↓eNm, ↓eC, ↓eOp, ↓eB, ↓eTr, ↓eTrB, ↓eTrI, ↓eTrN, ↓eTrT, ↓eTrL, ↓eTrA, ↓eAnd, ↓eOr, ↓eNot, ↓eAndV, ↓eOrV, ↓eNotV, ↓eIf, ↓eNil, ↓eCons, ↓eTup, ↓eOfL, ↓eLstL, ↓eListL, ↓eCatL, ↓eLc, ↓eWipe0, ↓eWipe, ↓eSeq, ↓eRng1, ↓eRng2, ↓eCall, ↓eCallL, ↓eRetL, ↓eSrt, ↓eSrtU, ↓eCB, ↓eNeg, ↓eChain, ↓eAppend, ↓ePop, ↓eNo, ↓eSome, ↓eSl, ↓eAnyG, ↓eAllG, ↓eZip, ↓eZip3, ↓gIsC_, tyN_t, tyN_l, tyN_n, tyN_b, tyN_i, seqP_t, seqP_l, ↓eEn1, ↓eEn2, ↓eSeqA, ↓ePar, ↓gAnyL_, ↓gAllL_, ↓gSumL_, boolsD_map, intsD_map, ↓gSl_t, ↓gSl_l, ↓gSl_a, ↓gAdd_i, ↓gAdd_t, ↓gAdd_s, ↓gAdd_l, ↓gI0_i, ↓gI_i, ↓gMul_i, ↓gMul_t, ↓gEq_, ↓gNe_, ↓gIs_n, ↓gIs_b, ↓gIsNot_n, ↓gIsNot_b, ↓gIn_, ↓gNotIn_, ↓gIx_t, ↓gIx_l, ↓gIx_a, ↓gLen_, ↓gLen_l, ↓gLen_a, ↓gInt_, ↓gInt_b, ↓gTuple_, ↓gTuple_l, ↓gTuple_a, ↓gMax_, ↓gMin_, ↓gIsBool_b, ↓gIsBool_i, seqOf_t, seqOf_l, seqOf_a, lstOf_l, lstOf_a, rsv_i, rsv_b, rsv_s, rsv_n, rsv_t, rsv_l, dle_i, dle_b, dle_n, eqD_i, eqD_b, isNon, bNm_, bTup_, bCons_, bNil_, Option.bind_some, i40, i41, i42, i43, atI0, atI1, atI2, atI3, atI4, atI5, mset_same, true_and, beq_self_eq_true, Bool.false_eq_true, c0, c1, Int.cast_ofNat_Int, Int.reduceEq, Int.reduceLT, Int.reduceLE, Int.reduceAdd, Int.reduceSub, ↓reduceIte]
      have e1 : SubW (x :: v) w = false := by
        have hf' : ∀ j, j < w.length → w.getD j 0 ≠ x := fun j hj => hf j (by omega)
        rw [sub_first hf' (Nat.le_refl _), List.drop_of_length_le (Nat.le_refl _), sub_none]
      rw [e1] at q
      exact q
theorem b_lbelow (ds : List D) (M : Mu) (Q : D → Mu → Prop) (xw : XW) (h : S_lbelow ds M Q xw) : bodyE N_lbelow (f_lbelow (S_lsub 50)) ds M Q xw := by
  obtain ⟨a, b, rfl, hl, q⟩ := h
  have q : Q (.bl (Below a b)) (mres M M) := by rw [mres_self]; exact q
  obtain ⟨m, n, w⟩ := a
  obtain ⟨m', n', w'⟩ := b
  obtain ⟨l1, l2, l3, l4, l5, l6⟩ := hl
  dsimp only at l1 l2 l3 l4 l5 l6
  simp only [bodyE, bodyL, startD, N_lbelow, List.map_cons, List.map_nil, List.length_cons, List.length_nil, List.replicate_succ, List.replicate_zero, List.cons_append, List.nil_append, Nat.reduceAdd, Nat.reduceSub]
  unfold f_lbelow
  unfold stD
  try simp -dsimp only [bodyE, startD, List.map_cons, List.map_nil, List.length_cons, List.length_nil, List.replicate_succ, List.replicate_zero, List.cons_append, List.nil_append, Nat.reduceAdd, Nat.reduceSub, List.set_cons_zero, List.set_cons_succ, List.getElem?_cons_zero, List.getElem?_cons_succ, Bool.not_true, Bool.not_false, decide_true, decide_false, ↓IfS_t, ↓IfS_f, ↓IfE_t, ↓IfE_f, ↓AndT_t, ↓AndT_f, ↓OrT_t, ↓OrT_f, ↓AndV_t, ↓AndV_f, ↓OrV_t, ↓OrV_f, IfS_t, IfS_f, IfE_t, IfE_f, AndT_t, AndT_f, OrT_t, OrT_f, AndV_t, AndV_f, OrV_t, OrV_f, ↓eThen, ↓ePass, ↓eBreak, ↓eCont, ↓eExpr, ↓eRet, ↓eRetN, ↓eIfS, ↓eSet, ↓eOwn, ↓eAsg, ↓eSetIx, ↓eGSetIx, ↓eAug, ↓eIadd, ↓eIaddL, ↓eFrz, ↓eFor, ↓eWhile, ↓eNm, ↓eC, ↓eOp, ↓eB, ↓eTr, ↓eTrB, ↓eTrI, ↓eTrN, ↓eTrT, ↓eTrL, ↓eTrA, ↓eAnd, ↓eOr, ↓eNot, ↓eAndV, ↓eOrV, ↓eNotV, ↓eIf, ↓eNil, ↓eCons, ↓eTup, ↓eOfL, ↓eLstL, ↓eListL, ↓eCatL, ↓eLc, ↓eWipe0, ↓eWipe, ↓eSeq, ↓eRng1, ↓eRng2, ↓eCall, ↓eCallL, ↓eRetL, ↓eSrt, ↓eSrtU, ↓eCB, ↓eNeg, ↓eChain, ↓eAppend, ↓ePop, ↓eNo, ↓eSome, ↓eSl, ↓eAnyG, ↓eAllG, ↓eZip, ↓eZip3, ↓gIsC_, tyN_t, tyN_l, tyN_n, tyN_b, tyN_i, seqP_t, seqP_l, ↓eEn1, ↓eEn2, ↓eSeqA, ↓ePar, ↓gAnyL_, ↓gAllL_, ↓gSumL_, boolsD_map, intsD_map, ↓gSl_t, ↓gSl_l, ↓gSl_a, ↓gAdd_i, ↓gAdd_t, ↓gAdd_s, ↓gAdd_l, ↓gI0_i, ↓gI_i, ↓gMul_i, ↓gMul_t, ↓gEq_, ↓gNe_, ↓gIs_n, ↓gIs_b, ↓gIsNot_n, ↓gIsNot_b, ↓gIn_, ↓gNotIn_, ↓gIx_t, ↓gIx_l, ↓gIx_a, ↓gLen_, ↓gLen_l, ↓gLen_a, ↓gInt_, ↓gInt_b, ↓gTuple_, ↓gTuple_l, ↓gTuple_a, ↓gMax_, ↓gMin_, ↓gIsBool_b, ↓gIsBool_i, seqOf_t, seqOf_l, seqOf_a, lstOf_l, lstOf_a, rsv_i, rsv_b, rsv_s, rsv_n, rsv_t, rsv_l, dle_i, dle_b, dle_n, eqD_i, eqD_b, isNon, bNm_, bTup_, bCons_, bNil_, Option.bind_some, i40, i41, i42, i43, atI0, atI1, atI2, atI3, atI4, atI5, mset_same, true_and, beq_self_eq_true, Bool.false_eq_true, c0, c1, Int.cast_ofNat_Int, Int.reduceEq, Int.reduceLT, Int.reduceLE, Int.reduceAdd, Int.reduceSub, ↓reduceIte]
  by_cases hm : m = m'
  · rw [decide_eq_true hm]
    try simp -dsimp only [bodyE, startD, List.map_cons, List.map_nil, List.length_cons, List.length_nil, List.replicate_succ, List.replicate_zero, List.cons_append, List.nil_append, Nat.reduceAdd, Nat.reduceSub, List.set_cons_zero, List.set_cons_succ, List.getElem?_cons_zero, List.getElem?_cons_succ, Bool.not_true, Bool.not_false, decide_true, decide_false, ↓IfS_t, ↓IfS_f, ↓IfE_t, ↓IfE_f, ↓AndT_t, ↓AndT_f, ↓OrT_t, ↓OrT_f, ↓AndV_t, ↓AndV_f, ↓OrV_t, ↓OrV_f, IfS_t, IfS_f, IfE_t, IfE_f, AndT_t, AndT_f, OrT_t, OrT_f, AndV_t, AndV_f, OrV_t, OrV_f, ↓eThen, ↓ePass, ↓eBreak, ↓eCont, ↓eExpr, ↓eRet, ↓eRetN, ↓eIfS, ↓eSet, ↓eOwn, ↓eAsg, ↓eSetIx, ↓eGSetIx, ↓eAug, ↓eIadd, ↓eIaddL, ↓eFrz, ↓eFor, ↓eWhile, ↓eNm, ↓eC, ↓eOp, ↓eB, ↓eTr, ↓eTrB, ↓eTrI, ↓eTrN, ↓eTrT, ↓eTrL, ↓eTrA, ↓eAnd, ↓eOr, ↓eNot, ↓eAndV, ↓eOrV, ↓eNotV, ↓eIf, ↓eNil, ↓eCons, ↓eTup, ↓eOfL, ↓eLstL, ↓eListL, ↓eCatL, ↓eLc, ↓eWipe0, ↓eWipe, ↓eSeq, ↓eRng1, ↓eRng2, ↓eCall, ↓eCallL, ↓eRetL, ↓eSrt, ↓eSrtU, ↓eCB, ↓eNeg, ↓eChain, ↓eAppend, ↓ePop, ↓eNo, ↓eSome, ↓eSl, ↓eAnyG, ↓eAllG, ↓eZip, ↓eZip3, ↓gIsC_, tyN_t, tyN_l, tyN_n, tyN_b, tyN_i, seqP_t, seqP_l, ↓eEn1, ↓eEn2, ↓eSeqA, ↓ePar, ↓gAnyL_, ↓gAllL_, ↓gSumL_, boolsD_map, intsD_map, ↓gSl_t, ↓gSl_l, ↓gSl_a, ↓gAdd_i, ↓gAdd_t, ↓gAdd_s, ↓gAdd_l, ↓gI0_i, ↓gI_i, ↓gMul_i, ↓gMul_t, ↓gEq_, ↓gNe_, ↓gIs_n, ↓gIs_b, ↓gIsNot_n, ↓gIsNot_b, ↓gIn_, ↓gNotIn_, ↓gIx_t, ↓gIx_l, ↓gIx_a, ↓gLen_, ↓gLen_l, ↓gLen_a, ↓gInt_, ↓gInt_b, ↓gTuple_, ↓gTuple_l, ↓gTuple_a, ↓gMax_, ↓gMin_, ↓gIsBool_b, ↓gIsBool_i, seqOf_t, seqOf_l, seqOf_a, lstOf_l, lstOf_a, rsv_i, rsv_b, rsv_s, rsv_n, rsv_t, rsv_l, dle_i, dle_b, dle_n, eqD_i, eqD_b, isNon, bNm_, bTup_, bCons_, bNil_, Option.bind_some, i40, i41, i42, i43, atI0, atI1, atI2, atI3, atI4, atI5, mset_same, true_and, beq_self_eq_true, Bool.false_eq_true, c0, c1, Int.cast_ofNat_Int, Int.reduceEq, Int.reduceLT, Int.reduceLE, Int.reduceAdd, Int.reduceSub, ↓reduceIte, List.length_map]
    refine ⟨by omega, forS_rng (fun k ρ M' => M = M' ∧ (∃ o, ρ = [some (.tup [.int m, .tup (n.map .int), .tup (w.map wD)]), some (.tup [.int m', .tup (n'.map .int), .tup (w'.map wD)]), o]) ∧ ∀ j, j < k → n.getD j 0 ≤ n'.getD j 0) ⟨rfl, ⟨_, rfl⟩, fun j hj => absurd hj (Nat.not_lt_zero _)⟩ ?_ ?_⟩
    · rintro k ρ M' hk ⟨rfl, ⟨o, rfl⟩, hf⟩ nn cc hn1 hc1
      have hk : k < n.length := by omega
      have hk' : k < n'.length := by omega
      try simp -dsimp only [bodyE, startD, List.map_cons, List.map_nil, List.length_cons, List.length_nil, List.replicate_succ, List.replicate_zero, List.cons_append, List.nil_append, Nat.reduceAdd, Nat.reduceSub, List.set_cons_zero, List.set_cons_succ, List.getElem?_cons_zero, List.getElem?_cons_succ, Bool.not_true, Bool.not_false, decide_true, decide_false, ↓IfS_t, ↓IfS_f, ↓IfE_t, ↓IfE_f, ↓AndT_t, ↓AndT_f, ↓OrT_t, ↓OrT_f, ↓AndV_t, ↓AndV_f, ↓OrV_t, ↓OrV_f, IfS_t, IfS_f, IfE_t, IfE_f, AndT_t, AndT_f, OrT_t, OrT_f, AndV_t, AndV_f, OrV_t, OrV_f, ↓eThen, ↓ePass, ↓eBreak, ↓eCont, ↓eExpr, ↓eRet, ↓eRetN, ↓eIfS, ↓eSet, ↓eOwn, ↓eAsg, ↓eSetIx, ↓eGSetIx, ↓eAug, ↓eIadd, ↓eIaddL, ↓eFrz, ↓eFor, ↓eWhile, ↓eNm, ↓eC, ↓eOp, ↓eB, ↓eTr, ↓eTrB, ↓eTrI, ↓eTrN, ↓eTrT, ↓eTrL, ↓eTrA, ↓eAnd, ↓eOr, ↓eNot, ↓eAndV, ↓eOrV, ↓eNotV, ↓eIf, ↓eNil, ↓eCons, ↓eTup, ↓eOfL, ↓eLstL, ↓eListL, ↓eCatL, ↓eLc, ↓eWipe0, ↓eWipe, ↓eSeq, ↓eRng1, ↓eRng2, ↓eCall, ↓eCallL, ↓eRetL, ↓eSrt, ↓eSrtU, ↓eCB, ↓eNeg, ↓eChain, ↓eAppend, ↓ePop, ↓eNo, ↓eSome, ↓eSl, ↓eAnyG, ↓eAllG, ↓eZip, ↓eZip3, ↓gIsC_, tyN_t, tyN_l, tyN_n, tyN_b, tyN_i, seqP_t, seqP_l, ↓eEn1, ↓eEn2, ↓eSeqA, ↓ePar, ↓gAnyL_, ↓gAllL_, ↓gSumL_, boolsD_map, intsD_map, ↓gSl_t, ↓gSl_l, ↓gSl_a, ↓gAdd_i, ↓gAdd_t, ↓gAdd_s, ↓gAdd_l, ↓gI0_i, ↓gI_i, ↓gMul_i, ↓gMul_t, ↓gEq_, ↓gNe_, ↓gIs_n, ↓gIs_b, ↓gIsNot_n, ↓gIsNot_b, ↓gIn_, ↓gNotIn_, ↓gIx_t, ↓gIx_l, ↓gIx_a, ↓gLen_, ↓gLen_l, ↓gLen_a, ↓gInt_, ↓gInt_b, ↓gTuple_, ↓gTuple_l, ↓gTuple_a, ↓gMax_, ↓gMin_, ↓gIsBool_b, ↓gIsBool_i, seqOf_t, seqOf_l, seqOf_a, lstOf_l, lstOf_a, rsv_i, rsv_b, rsv_s, rsv_n, rsv_t, rsv_l, dle_i, dle_b, dle_n, eqD_i, eqD_b, isNon, bNm_, bTup_, bCons_, bNil_, Option.bind_some, i40, i41, i42, i43, atI0, atI1, atI2, atI3, atI4, atI5, mset_same, true_and, beq_self_eq_true, Bool.false_eq_true, c0, c1, Int.cast_ofNat_Int, Int.reduceEq, Int.reduceLT, Int.reduceLE, Int.reduceAdd, Int.reduceSub, ↓reduceIte, int_getD hk, int_getD hk']
      by_cases hx : n'.getD k 0 < n.getD k 0
      · rw [decide_eq_true hx]
        try simp -dsimp only [bodyE, startD, List.map_cons, List.map_nil, List.length_cons, List.length_nil, List.replicate_succ, List.replicate_zero, List.cons_append, List.nil_append, Nat.reduceAdd, Nat.reduceSub, List.set_cons_zero, List.set_cons_succ, List.getElem?_cons_zero, List.getElem?_cons_succ, Bool.not_true, Bool.not_false, decide_true, decide_false, ↓IfS_t, ↓IfS_f, ↓IfE_t, ↓IfE_f, ↓AndT_t, ↓AndT_f, ↓OrT_t, ↓OrT_f, ↓AndV_t, ↓AndV_f, ↓OrV_t, ↓OrV_f, IfS_t, IfS_f, IfE_t, IfE_f, AndT_t, AndT_f, OrT_t, OrT_f, AndV_t, AndV_f, OrV_t, OrV_f, ↓eThen, ↓ePass, ↓eBreak, ↓eCont, ↓eExpr, ↓eRet, ↓eRetN, ↓eIfS, ↓eSet, ↓eOwn, ↓eAsg, ↓eSetIx, ↓eGSetIx, ↓eAug, ↓eIadd, ↓eIaddL, ↓eFrz, ↓eFor, ↓eWhile, ↓eNm, ↓eC, ↓eOp, ↓eB, ↓eTr, ↓eTrB, ↓eTrI, ↓eTrN, ↓eTrT, ↓eTrL, ↓eTrA, ↓eAnd, ↓eOr, ↓eNot, ↓eAndV, ↓eOrV, ↓eNotV, ↓eIf, ↓eNil, ↓eCons, ↓eTup, ↓eOfL, ↓eLstL, ↓eListL, ↓eCatL, ↓eLc, ↓eWipe0, ↓eWipe, ↓eSeq, ↓eRng1, ↓eRng2, ↓eCall, ↓eCallL, ↓eRetL, ↓eSrt, ↓eSrtU, ↓eCB, ↓eNeg, ↓eChain, ↓eAppend, ↓ePop, ↓eNo, ↓eSome, ↓eSl, ↓eAnyG, ↓eAllG, ↓eZip, ↓eZip3, ↓gIsC_, tyN_t, tyN_l, tyN_n, tyN_b, tyN_i, seqP_t, seqP_l, ↓eEn1, ↓eEn2, ↓eSeqA, ↓ePar, ↓gAnyL_, ↓gAllL_, ↓gSumL_, boolsD_map, intsD_map, ↓gSl_t, ↓gSl_l, ↓gSl_a, ↓gAdd_i, ↓gAdd_t, ↓gAdd_s, ↓gAdd_l, ↓gI0_i, ↓gI_i, ↓gMul_i, ↓gMul_t, ↓gEq_, ↓gNe_, ↓gIs_n, ↓gIs_b, ↓gIsNot_n, ↓gIsNot_b, ↓gIn_, ↓gNotIn_, ↓gIx_t, ↓gIx_l, ↓gIx_a, ↓gLen_, ↓gLen_l, ↓gLen_a, ↓gInt_, ↓gInt_b, ↓gTuple_, ↓gTuple_l, ↓gTuple_a, ↓gMax_, ↓gMin_, ↓gIsBool_b, ↓gIsBool_i, seqOf_t, seqOf_l, seqOf_a, lstOf_l, lstOf_a, rsv_i, rsv_b, rsv_s, rsv_n, rsv_t, rsv_l, dle_i, dle_b, dle_n, eqD_i, eqD_b, isNon, bNm_, bTup_, bCons_, bNil_, Option.bind_some, i40, i41, i42, i43, atI0, atI1, atI2, atI3, atI4, atI5, mset_same, true_and, beq_self_eq_true, Bool.false_eq_true, c0, c1, Int.cast_ofNat_Int, Int.reduceEq, Int.reduceLT, Int.reduceLE, Int.reduceAdd, Int.reduceSub, ↓reduceIte]
        have e1 : leAll n n' = false := by
          unfold leAll
          rw [← all_zip (fun x y => decide (x ≤ y)) 0 0 n n' l1, List.all_eq_false]
          exact ⟨k, List.mem_range.mpr hk, fun z => absurd (of_decide_eq_true z) (by omega)⟩
        unfold Below at q
        rw [e1, Bool.and_false, Bool.false_and] at q
        exact q
      · rw [decide_eq_false hx]
        try simp -dsimp only [bodyE, startD, List.map_cons, List.map_nil, List.length_cons, List.length_nil, List.replicate_succ, List.replicate_zero, List.cons_append, List.nil_append, Nat.reduceAdd, Nat.reduceSub, List.set_cons_zero, List.set_cons_succ, List.getElem?_cons_zero, List.getElem?_cons_succ, Bool.not_true, Bool.not_false, decide_true, decide_false, ↓IfS_t, ↓IfS_f, ↓IfE_t, ↓IfE_f, ↓AndT_t, ↓AndT_f, ↓OrT_t, ↓OrT_f, ↓AndV_t, ↓AndV_f, ↓OrV_t, ↓OrV_f, IfS_t, IfS_f, IfE_t, IfE_f, AndT_t, AndT_f, OrT_t, OrT_f, AndV_t, AndV_f, OrV_t, OrV_f, ↓eThen, ↓ePass, ↓eBreak, ↓eCont, ↓eExpr, ↓eRet, ↓eRetN, ↓eIfS, ↓eSet, ↓eOwn, ↓eAsg, ↓eSetIx, ↓eGSetIx, ↓eAug, ↓eIadd, ↓eIaddL, ↓eFrz, ↓eFor, ↓eWhile, ↓eNm, ↓eC, ↓eOp, ↓eB, ↓eTr, ↓eTrB, ↓eTrI, ↓eTrN, ↓eTrT, ↓eTrL, ↓eTrA, ↓eAnd, ↓eOr, ↓eNot, ↓eAndV, ↓eOrV, ↓eNotV, ↓eIf, ↓eNil, ↓eCons, ↓eTup, ↓eOfL, ↓eLstL, ↓eListL, ↓eCatL, ↓eLc, ↓eWipe0, ↓eWipe, ↓eSeq, ↓eRng1, ↓eRng2, ↓eCall, ↓eCallL, ↓eRetL, ↓eSrt, ↓eSrtU, ↓eCB, ↓eNeg, ↓eChain, ↓eAppend, ↓ePop, ↓eNo, ↓eSome, ↓eSl, ↓eAnyG, ↓eAllG, ↓eZip, ↓eZip3, ↓gIsC_, tyN_t, tyN_l, tyN_n, tyN_b, tyN_i, seqP_t, seqP_l, ↓eEn1, ↓eEn2, ↓eSeqA, ↓ePar, ↓gAnyL_, ↓gAllL_, ↓gSumL_, boolsD_map, intsD_map, ↓gSl_t, ↓gSl_l, ↓gSl_a, ↓gAdd_i, ↓gAdd_t, ↓gAdd_s, ↓gAdd_l, ↓gI0_i, ↓gI_i, ↓gMul_i, ↓gMul_t, ↓gEq_, ↓gNe_, ↓gIs_n, ↓gIs_b, ↓gIsNot_n, ↓gIsNot_b, ↓gIn_, ↓gNotIn_, ↓gIx_t, ↓gIx_l, ↓gIx_a, ↓gLen_, ↓gLen_l, ↓gLen_a, ↓gInt_, ↓gInt_b, ↓gTuple_, ↓gTuple_l, ↓gTuple_a, ↓gMax_, ↓gMin_, ↓gIsBool_b, ↓gIsBool_i, seqOf_t, seqOf_l, seqOf_a, lstOf_l, lstOf_a, rsv_i, rsv_b, rsv_s, rsv_n, rsv_t, rsv_l, dle_i, dle_b, dle_n, eqD_i, eqD_b, isNon, bNm_, bTup_, bCons_, bNil_, Option.bind_some, i40, i41, i42, i43, atI0, atI1, atI2, atI3, atI4, atI5, mset_same, true_and, beq_self_eq_true, Bool.false_eq_true, c0, c1, Int.cast_ofNat_Int, Int.reduceEq, Int.reduceLT, Int.reduceLE, Int.reduceAdd, Int.reduceSub, ↓reduceIte]
        refine hn1 _ _ ⟨rfl, ⟨_, rfl⟩, fun j hj => ?_⟩
        by_cases e : j = k
        · rw [e]; omega
        · exact hf j (by omega)
    · rintro ρ M' ⟨rfl, ⟨o, rfl⟩, hf⟩
      have e1 : leAll n n' = true := by
        unfold leAll
        rw [← all_zip (fun x y => decide (x ≤ y)) 0 0 n n' l1, List.all_eq_true]
        exact fun k hk => decide_eq_true (hf k (by have := List.mem_range.mp hk; omega))
      try simp -dsimp only [bodyE, startD, List.map_cons, List.map_nil, List.length_cons, List.length_nil, List.replicate_succ, List.replicate_zero, List.cons_append, List.nil_append, Nat.reduceAdd, Nat.reduceSub, List.set_cons_zero, List.set_cons_succ, List.getElem?_cons_zero, List.getElem?_cons_succ, Bool.not_true, Bool.not_false, decide_true, decide_false, ↓IfS_t, ↓IfS_f, ↓IfE_t, ↓IfE_f, ↓AndT_t, ↓AndT_f, ↓OrT_t, ↓OrT_f, ↓AndV_t, ↓AndV_f, ↓OrV_t, ↓OrV_f, IfS_t, IfS_f, IfE_t, IfE_f, AndT_t, AndT_f, OrT_t, OrT_f, AndV_t, AndV_f, OrV_t, OrV_f, ↓eThen, ↓ePass, ↓eBreak, ↓eCont, ↓eExpr, ↓eRet, ↓eRetN, ↓eIfS, ↓eSet, ↓eOwn, ↓eAsg, ↓eSetIx, ↓eGSetIx, ↓eAug, ↓eIadd, ↓eIaddL, ↓eFrz, ↓eFor, ↓eWhile, ↓eNm, ↓eC, ↓eOp, ↓eB, ↓eTr, ↓eTrB, ↓eTrI, ↓eTrN, ↓eTrT, ↓eTrL, ↓eTrA, ↓eAnd, ↓eOr, ↓eNot, ↓eAndV, ↓eOrV, ↓eNotV, ↓eIf, ↓eNil, ↓eCons, ↓eTup, ↓eOfL, ↓eLstL, ↓eListL, ↓eCatL, ↓eLc, ↓eWipe0, ↓eWipe, ↓eSeq, ↓eRng1, ↓eRng2, ↓eCall, ↓eCallL, ↓eRetL, ↓eSrt, ↓eSrtU, ↓eCB, ↓eNeg, ↓eChain, ↓eAppend, ↓ePop, ↓eNo, ↓eSome, ↓eSl, ↓eAnyG, ↓eAllG, ↓eZip, ↓eZip3, ↓gIsC_, tyN_t, tyN_l, tyN_n, tyN_b, tyN_i, seqP_t, seqP_l, ↓eEn1, ↓eEn2, ↓eSeqA, ↓ePar, ↓gAnyL_, ↓gAllL_, ↓gSumL_, boolsD_map, intsD_map, ↓gSl_t, ↓gSl_l, ↓gSl_a, ↓gAdd_i, ↓gAdd_t, ↓gAdd_s, ↓gAdd_l, ↓gI0_i, ↓gI_i, ↓gMul_i, ↓gMul_t, ↓gEq_, ↓gNe_, ↓gIs_n, ↓gIs_b, ↓gIsNot_n, ↓gIsNot_b, ↓gIn_, ↓gNotIn_, ↓gIx_t, ↓gIx_l, ↓gIx_a, ↓gLen_, ↓gLen_l, ↓gLen_a, ↓gInt_, ↓gInt_b, ↓gTuple_, ↓gTuple_l, ↓gTuple_a, ↓gMax_, ↓gMin_, ↓gIsBool_b, ↓gIsBool_i, seqOf_t, seqOf_l, seqOf_a, lstOf_l, lstOf_a, rsv_i, rsv_b, rsv_s, rsv_n, rsv_t, rsv_l, dle_i, dle_b, dle_n, eqD_i, eqD_b, isNon, bNm_, bTup_, bCons_, bNil_, Option.bind_some, i40, i41, i42, i43, atI0, atI1, atI2, atI3, atI4, atI5, mset_same, true_and, beq_self_eq_true, Bool.false_eq_true, c0, c1, Int.cast_ofNat_Int, Int.reduceEq, Int.reduceLT, Int.reduceLE, Int.reduceAdd, Int.reduceSub, ↓reduceIte, List.length_map]
      refine ⟨by omega, ?_⟩
      rw [rngD_enc]
      refine lc_map (fun k : Nat => .bl (SubW (w.getD k []) (w'.getD k []))) (by rw [List.length_range]; have : sizeLine = 16777216 := rfl; omega) (fun k hk kk hkk => ?_) ?_
      · have hk := List.mem_range.mp hk
        have hk1 : k < w.length := by omega
        have hk2 : k < w'.length := by omega
        try simp -dsimp only [bodyE, startD, List.map_cons, List.map_nil, List.length_cons, List.length_nil, List.replicate_succ, List.replicate_zero, List.cons_append, List.nil_append, Nat.reduceAdd, Nat.reduceSub, List.set_cons_zero, List.set_cons_succ, List.getElem?_cons_zero, List.getElem?_cons_succ, Bool.not_true, Bool.not_false, decide_true, decide_false, ↓IfS_t, ↓IfS_f, ↓IfE_t, ↓IfE_f, ↓AndT_t, ↓AndT_f, ↓OrT_t, ↓OrT_f, ↓AndV_t, ↓AndV_f, ↓OrV_t, ↓OrV_f, IfS_t, IfS_f, IfE_t, IfE_f, AndT_t, AndT_f, OrT_t, OrT_f, AndV_t, AndV_f, OrV_t, OrV_f, ↓eThen, ↓ePass, ↓eBreak, ↓eCont, ↓eExpr, ↓eRet, ↓eRetN, ↓eIfS, ↓eSet, ↓eOwn, ↓eAsg, ↓eSetIx, ↓eGSetIx, ↓eAug, ↓eIadd, ↓eIaddL, ↓eFrz, ↓eFor, ↓eWhile, ↓eNm, ↓eC, ↓eOp, ↓eB, ↓eTr, ↓eTrB, ↓eTrI, ↓eTrN, ↓eTrT, ↓eTrL, ↓eTrA, ↓eAnd, ↓eOr, ↓eNot, ↓eAndV, ↓eOrV, ↓eNotV, ↓eIf, ↓eNil, ↓eCons, ↓eTup, ↓eOfL, ↓eLstL, ↓eListL, ↓eCatL, ↓eLc, ↓eWipe0, ↓eWipe, ↓eSeq, ↓eRng1, ↓eRng2, ↓eCall, ↓eCallL, ↓eRetL, ↓eSrt, ↓eSrtU, ↓eCB, ↓eNeg, ↓eChain, ↓eAppend, ↓ePop, ↓eNo, ↓eSome, ↓eSl, ↓eAnyG, ↓eAllG, ↓eZip, ↓eZip3, ↓gIsC_, tyN_t, tyN_l, tyN_n, tyN_b, tyN_i, seqP_t, seqP_l, ↓eEn1, ↓eEn2, ↓eSeqA, ↓ePar, ↓gAnyL_, ↓gAllL_, ↓gSumL_, boolsD_map, intsD_map, ↓gSl_t, ↓gSl_l, ↓gSl_a, ↓gAdd_i, ↓gAdd_t, ↓gAdd_s, ↓gAdd_l, ↓gI0_i, ↓gI_i, ↓gMul_i, ↓gMul_t, ↓gEq_, ↓gNe_, ↓gIs_n, ↓gIs_b, ↓gIsNot_n, ↓gIsNot_b, ↓gIn_, ↓gNotIn_, ↓gIx_t, ↓gIx_l, ↓gIx_a, ↓gLen_, ↓gLen_l, ↓gLen_a, ↓gInt_, ↓gInt_b, ↓gTuple_, ↓gTuple_l, ↓gTuple_a, ↓gMax_, ↓gMin_, ↓gIsBool_b, ↓gIsBool_i, seqOf_t, seqOf_l, seqOf_a, lstOf_l, lstOf_a, rsv_i, rsv_b, rsv_s, rsv_n, rsv_t, rsv_l, dle_i, dle_b, dle_n, eqD_i, eqD_b, isNon, bNm_, bTup_, bCons_, bNil_, Option.bind_some, i40, i41, i42, i43, atI0, atI1, atI2, atI3, atI4, atI5, mset_same, true_and, beq_self_eq_true, Bool.false_eq_true, c0, c1, Int.cast_ofNat_Int, Int.reduceEq, Int.reduceLT, Int.reduceLE, Int.reduceAdd, Int.reduceSub, ↓reduceIte, wD_getD hk1, wD_getD hk2]
        refine ⟨_, _, rfl, ?_, ?_, hkk⟩
        · rw [List.getD_eq_getElem?_getD, List.getElem?_eq_getElem hk1]; exact l5 _ (List.getElem_mem hk1)
        · rw [List.getD_eq_getElem?_getD, List.getElem?_eq_getElem hk2]; exact l6 _ (List.getElem_mem hk2)
      · have e2 : (List.range ((w.length : Nat) : Int).toNat).map (fun k : Nat => D.bl (SubW (w.getD k []) (w'.getD k []))) = ((List.range w.length).map fun k => SubW (w.getD k []) (w'.getD k [])).map D.bl := by
          rw [List.map_map, Int.toNat_natCast]; rfl
        rw [e2]
        try simp -dsimp only [bodyE, startD, List.map_cons, List.map_nil, List.length_cons, List.length_nil, List.replicate_succ, List.replicate_zero, List.cons_append, List.nil_append, Nat.reduceAdd, Nat.reduceSub, List.set_cons_zero, List.set_cons_succ, List.getElem?_cons_zero, List.getElem?_cons_succ, Bool.not_true, Bool.not_false, decide_true, decide_false, ↓IfS_t, ↓IfS_f, ↓IfE_t, ↓IfE_f, ↓AndT_t, ↓AndT_f, ↓OrT_t, ↓OrT_f, ↓AndV_t, ↓AndV_f, ↓OrV_t, ↓OrV_f, IfS_t, IfS_f, IfE_t, IfE_f, AndT_t, AndT_f, OrT_t, OrT_f, AndV_t, AndV_f, OrV_t, OrV_f, ↓eThen, ↓ePass, ↓eBreak, ↓eCont, ↓eExpr, ↓eRet, ↓eRetN, ↓eIfS, ↓eSet, ↓eOwn, ↓eAsg, ↓eSetIx, ↓eGSetIx, ↓eAug, ↓eIadd, ↓eIaddL, ↓eFrz, ↓eFor, ↓eWhile, ↓eNm, ↓eC, ↓eOp, ↓eB, ↓eTr, ↓eTrB, ↓eTrI, ↓eTrN, ↓eTrT, ↓eTrL, ↓eTrA, ↓eAnd, ↓eOr, ↓eNot, ↓eAndV, ↓eOrV, ↓eNotV, ↓eIf, ↓eNil, ↓eCons, ↓eTup, ↓eOfL, ↓eLstL, ↓eListL, ↓eCatL, ↓eLc, ↓eWipe0, ↓eWipe, ↓eSeq, ↓eRng1, ↓eRng2, ↓eCall, ↓eCallL, ↓eRetL, ↓eSrt, ↓eSrtU, ↓eCB, ↓eNeg, ↓eChain, ↓eAppend, ↓ePop, ↓eNo, ↓eSome, ↓eSl, ↓eAnyG, ↓eAllG, ↓eZip, ↓eZip3, ↓gIsC_, tyN_t, tyN_l, tyN_n, tyN_b, tyN_i, seqP_t, seqP_l, ↓eEn1, ↓eEn2, ↓eSeqA, ↓ePar, ↓gAnyL_, ↓gAllL_, ↓gSumL_, boolsD_map, intsD_map, ↓gSl_t, ↓gSl_l, ↓gSl_a, ↓gAdd_i, ↓gAdd_t, ↓gAdd_s, ↓gAdd_l, ↓gI0_i, ↓gI_i, ↓gMul_i, ↓gMul_t, ↓gEq_, ↓gNe_, ↓gIs_n, ↓gIs_b, ↓gIsNot_n, ↓gIsNot_b, ↓gIn_, ↓gNotIn_, ↓gIx_t, ↓gIx_l, ↓gIx_a, ↓gLen_, ↓gLen_l, ↓gLen_a, ↓gInt_, ↓gInt_b, ↓gTuple_, ↓gTuple_l, ↓gTuple_a, ↓gMax_, ↓gMin_, ↓gIsBool_b, ↓gIsBool_i, seqOf_t, seqOf_l, seqOf_a, lstOf_l, lstOf_a, rsv_i, rsv_b, rsv_s, rsv_n, rsv_t, rsv_l, dle_i, dle_b, dle_n, eqD_i, eqD_b, isNon, bNm_, bTup_, bCons_, bNil_, Option.bind_some, i40, i41, i42, i43, atI0, atI1, atI2, atI3, atI4, atI5, mset_same, true_and, beq_self_eq_true, Bool.false_eq_true, c0, c1, Int.cast_ofNat_Int, Int.reduceEq, Int.reduceLT, Int.reduceLE, Int.reduceAdd, Int.reduceSub, ↓reduceIte]
        rw [all_map_id, all_zip SubW [] [] w w' l2]
        unfold Below at q
        rw [e1, decide_eq_true hm] at q
        exact q
  · rw [decide_eq_false hm]
    try simp -dsimp only [bodyE, startD, List.map_cons, List.map_nil, List.length_cons, List.length_nil, List.replicate_succ, List.replicate_zero, List.cons_append, List.nil_append, Nat.reduceAdd, Nat.reduceSub, List.set_cons_zero, List.set_cons_succ, List.getElem?_cons_zero, List.getElem?_cons_succ, Bool.not_true, Bool.not_false, decide_true, decide_false, ↓IfS_t, ↓IfS_f, ↓IfE_t, ↓IfE_f, ↓AndT_t, ↓AndT_f, ↓OrT_t, ↓OrT_f, ↓AndV_t, ↓AndV_f, ↓OrV_t, ↓OrV_f, IfS_t, IfS_f, IfE_t, IfE_f, AndT_t, AndT_f, OrT_t, OrT_f, AndV_t, AndV_f, OrV_t, OrV_f, ↓eThen, ↓ePass, ↓eBreak, ↓eCont, ↓eExpr, ↓eRet, ↓eRetN, ↓eIfS, ↓eSet, ↓eOwn, ↓eAsg, ↓eSetIx, ↓eGSetIx, ↓eAug, ↓eIadd, ↓eIaddL, ↓eFrz, ↓eFor, ↓eWhile, ↓eNm, ↓eC, ↓eOp, ↓eB, ↓eTr, ↓eTrB, ↓eTrI, ↓eTrN, ↓eTrT, ↓eTrL, ↓eTrA, ↓eAnd, ↓eOr, ↓eNot, ↓eAndV, ↓eOrV, ↓eNotV, ↓eIf, ↓eNil, ↓eCons, ↓eTup, ↓eOfL, ↓eLstL, ↓eListL, ↓eCatL, ↓eLc, ↓eWipe0, ↓eWipe, ↓eSeq, ↓eRng1, ↓eRng2, ↓eCall, ↓eCallL, ↓eRetL, ↓eSrt, ↓eSrtU, ↓eCB, ↓eNeg, ↓eChain, ↓eAppend, ↓ePop, ↓eNo, ↓eSome, ↓eSl, ↓eAnyG, ↓eAllG, ↓eZip, ↓eZip3, ↓gIsC_, tyN_t, tyN_l, tyN_n, tyN_b, tyN_i, seqP_t, seqP_l, ↓eEn1, ↓eEn2, ↓eSeqA, ↓ePar, ↓gAnyL_, ↓gAllL_, ↓gSumL_, boolsD_map, intsD_map, ↓gSl_t, ↓gSl_l, ↓gSl_a, ↓gAdd_i, ↓gAdd_t, ↓gAdd_s, ↓gAdd_l, ↓gI0_i, ↓gI_i, ↓gMul_i, ↓gMul_t, ↓gEq_, ↓gNe_, ↓gIs_n, ↓gIs_b, ↓gIsNot_n, ↓gIsNot_b, ↓gIn_, ↓gNotIn_, ↓gIx_t, ↓gIx_l, ↓gIx_a, ↓gLen_, ↓gLen_l, ↓gLen_a, ↓gInt_, ↓gInt_b, ↓gTuple_, ↓gTuple_l, ↓gTuple_a, ↓gMax_, ↓gMin_, ↓gIsBool_b, ↓gIsBool_i, seqOf_t, seqOf_l, seqOf_a, lstOf_l, lstOf_a, rsv_i, rsv_b, rsv_s, rsv_n, rsv_t, rsv_l, dle_i, dle_b, dle_n, eqD_i, eqD_b, isNon, bNm_, bTup_, bCons_, bNil_, Option.bind_some, i40, i41, i42, i43, atI0, atI1, atI2, atI3, atI4, atI5, mset_same, true_and, beq_self_eq_true, Bool.false_eq_true, c0, c1, Int.cast_ofNat_Int, Int.reduceEq, Int.reduceLT, Int.reduceLE, Int.reduceAdd, Int.reduceSub, ↓reduceIte]
    unfold Below at q
    rw [decide_eq_false hm, Bool.false_and, Bool.false_and] at q
    exact q
theorem b_labove (ds : List D) (M : Mu) (Q : D → Mu → Prop) (xw : XW) (h : S_labove ds M Q xw) : bodyE N_labove (f_labove S_lbelow) ds M Q xw := by
  obtain ⟨s, f, rfl, hf, hl, q⟩ := h
  have q : Q (.bl (Above s f)) (mres M M) := by rw [mres_self]; exact q
  simp only [bodyE, bodyL, startD, N_labove, List.map_cons, List.map_nil, List.length_cons, List.length_nil, List.replicate_succ, List.replicate_zero, List.cons_append, List.nil_append, Nat.reduceAdd, Nat.reduceSub]
  unfold f_labove
  try simp -dsimp only [bodyE, startD, List.map_cons, List.map_nil, List.length_cons, List.length_nil, List.replicate_succ, List.replicate_zero, List.cons_append, List.nil_append, Nat.reduceAdd, Nat.reduceSub, List.set_cons_zero, List.set_cons_succ, List.getElem?_cons_zero, List.getElem?_cons_succ, Bool.not_true, Bool.not_false, decide_true, decide_false, ↓IfS_t, ↓IfS_f, ↓IfE_t, ↓IfE_f, ↓AndT_t, ↓AndT_f, ↓OrT_t, ↓OrT_f, ↓AndV_t, ↓AndV_f, ↓OrV_t, ↓OrV_f, IfS_t, IfS_f, IfE_t, IfE_f, AndT_t, AndT_f, OrT_t, OrT_f, AndV_t, AndV_f, OrV_t, OrV_f, ↓eThen, ↓ePass, ↓eBreak, ↓eCont, ↓eExpr, ↓eRet, ↓eRetN, ↓eIfS, ↓eSet, ↓eOwn, ↓eAsg, ↓eSetIx, ↓eGSetIx, ↓eAug, ↓eIadd, ↓eIaddL, ↓eFrz, ↓eFor, ↓eWhile, ↓eNm, ↓eC, ↓eOp, ↓eB, ↓eTr, ↓eTrB, ↓eTrI, ↓eTrN, ↓eTrT, ↓eTrL, ↓eTrA, ↓eAnd, ↓eOr, ↓eNot, ↓eAndV, ↓eOrV, ↓eNotV, ↓eIf, ↓eNil, ↓eCons, ↓eTup, ↓eOfL, ↓eLstL, ↓eListL, ↓eCatL, ↓eLc, ↓eWipe0, ↓eWipe, ↓eSeq, ↓eRng1, ↓eRng2, ↓eCall, ↓eCallL, ↓eRetL, ↓eSrt, ↓eSrtU, ↓eCB, ↓eNeg, ↓eChain, ↓eAppend, ↓ePop, ↓eNo, ↓eSome, ↓eSl, ↓eAnyG, ↓eAllG, ↓eZip, ↓eZip3, ↓gIsC_, tyN_t, tyN_l, tyN_n, tyN_b, tyN_i, seqP_t, seqP_l, ↓eEn1, ↓eEn2, ↓eSeqA, ↓ePar, ↓gAnyL_, ↓gAllL_, ↓gSumL_, boolsD_map, intsD_map, ↓gSl_t, ↓gSl_l, ↓gSl_a, ↓gAdd_i, ↓gAdd_t, ↓gAdd_s, ↓gAdd_l, ↓gI0_i, ↓gI_i, ↓gMul_i, ↓gMul_t, ↓gEq_, ↓gNe_, ↓gIs_n, ↓gIs_b, ↓gIsNot_n, ↓gIsNot_b, ↓gIn_, ↓gNotIn_, ↓gIx_t, ↓gIx_l, ↓gIx_a, ↓gLen_, ↓gLen_l, ↓gLen_a, ↓gInt_, ↓gInt_b, ↓gTuple_, ↓gTuple_l, ↓gTuple_a, ↓gMax_, ↓gMin_, ↓gIsBool_b, ↓gIsBool_i, seqOf_t, seqOf_l, seqOf_a, lstOf_l, lstOf_a, rsv_i, rsv_b, rsv_s, rsv_n, rsv_t, rsv_l, dle_i, dle_b, dle_n, eqD_i, eqD_b, isNon, bNm_, bTup_, bCons_, bNil_, Option.bind_some, i40, i41, i42, i43, atI0, atI1, atI2, atI3, atI4, atI5, mset_same, true_and, beq_self_eq_true, Bool.false_eq_true, c0, c1, Int.cast_ofNat_Int, Int.reduceEq, Int.reduceLT, Int.reduceLE, Int.reduceAdd, Int.reduceSub, ↓reduceIte]
  refine lc_map (fun l : Ste => .bl (Below l s)) (by have : sizeLine = 16777216 := rfl; omega) (fun l hk kk hkk => ?_) ?_
  · try simp -dsimp only [bodyE, startD, List.map_cons, List.map_nil, List.length_cons, List.length_nil, List.replicate_succ, List.replicate_zero, List.cons_append, List.nil_append, Nat.reduceAdd, Nat.reduceSub, List.set_cons_zero, List.set_cons_succ, List.getElem?_cons_zero, List.getElem?_cons_succ, Bool.not_true, Bool.not_false, decide_true, decide_false, ↓IfS_t, ↓IfS_f, ↓IfE_t, ↓IfE_f, ↓AndT_t, ↓AndT_f, ↓OrT_t, ↓OrT_f, ↓AndV_t, ↓AndV_f, ↓OrV_t, ↓OrV_f, IfS_t, IfS_f, IfE_t, IfE_f, AndT_t, AndT_f, OrT_t, OrT_f, AndV_t, AndV_f, OrV_t, OrV_f, ↓eThen, ↓ePass, ↓eBreak, ↓eCont, ↓eExpr, ↓eRet, ↓eRetN, ↓eIfS, ↓eSet, ↓eOwn, ↓eAsg, ↓eSetIx, ↓eGSetIx, ↓eAug, ↓eIadd, ↓eIaddL, ↓eFrz, ↓eFor, ↓eWhile, ↓eNm, ↓eC, ↓eOp, ↓eB, ↓eTr, ↓eTrB, ↓eTrI, ↓eTrN, ↓eTrT, ↓eTrL, ↓eTrA, ↓eAnd, ↓eOr, ↓eNot, ↓eAndV, ↓eOrV, ↓eNotV, ↓eIf, ↓eNil, ↓eCons, ↓eTup, ↓eOfL, ↓eLstL, ↓eListL, ↓eCatL, ↓eLc, ↓eWipe0, ↓eWipe, ↓eSeq, ↓eRng1, ↓eRng2, ↓eCall, ↓eCallL, ↓eRetL, ↓eSrt, ↓eSrtU, ↓eCB, ↓eNeg, ↓eChain, ↓eAppend, ↓ePop, ↓eNo, ↓eSome, ↓eSl, ↓eAnyG, ↓eAllG, ↓eZip, ↓eZip3, ↓gIsC_, tyN_t, tyN_l, tyN_n, tyN_b, tyN_i, seqP_t, seqP_l, ↓eEn1, ↓eEn2, ↓eSeqA, ↓ePar, ↓gAnyL_, ↓gAllL_, ↓gSumL_, boolsD_map, intsD_map, ↓gSl_t, ↓gSl_l, ↓gSl_a, ↓gAdd_i, ↓gAdd_t, ↓gAdd_s, ↓gAdd_l, ↓gI0_i, ↓gI_i, ↓gMul_i, ↓gMul_t, ↓gEq_, ↓gNe_, ↓gIs_n, ↓gIs_b, ↓gIsNot_n, ↓gIsNot_b, ↓gIn_, ↓gNotIn_, ↓gIx_t, ↓gIx_l, ↓gIx_a, ↓gLen_, ↓gLen_l, ↓gLen_a, ↓gInt_, ↓gInt_b, ↓gTuple_, ↓gTuple_l, ↓gTuple_a, ↓gMax_, ↓gMin_, ↓gIsBool_b, ↓gIsBool_i, seqOf_t, seqOf_l, seqOf_a, lstOf_l, lstOf_a, rsv_i, rsv_b, rsv_s, rsv_n, rsv_t, rsv_l, dle_i, dle_b, dle_n, eqD_i, eqD_b, isNon, bNm_, bTup_, bCons_, bNil_, Option.bind_some, i40, i41, i42, i43, atI0, atI1, atI2, atI3, atI4, atI5, mset_same, true_and, beq_self_eq_true, Bool.false_eq_true, c0, c1, Int.cast_ofNat_Int, Int.reduceEq, Int.reduceLT, Int.reduceLE, Int.reduceAdd, Int.reduceSub, ↓reduceIte]
    exact ⟨l, s, rfl, hl l hk, hkk⟩
  · rw [show (f.map fun l => D.bl (Below l s)) = (f.map fun l => Below l s).map D.bl by rw [List.map_map]; rfl]
    try simp -dsimp only [bodyE, startD, List.map_cons, List.map_nil, List.length_cons, List.length_nil, List.replicate_succ, List.replicate_zero, List.cons_append, List.nil_append, Nat.reduceAdd, Nat.reduceSub, List.set_cons_zero, List.set_cons_succ, List.getElem?_cons_zero, List.getElem?_cons_succ, Bool.not_true, Bool.not_false, decide_true, decide_false, ↓IfS_t, ↓IfS_f, ↓IfE_t, ↓IfE_f, ↓AndT_t, ↓AndT_f, ↓OrT_t, ↓OrT_f, ↓AndV_t, ↓AndV_f, ↓OrV_t, ↓OrV_f, IfS_t, IfS_f, IfE_t, IfE_f, AndT_t, AndT_f, OrT_t, OrT_f, AndV_t, AndV_f, OrV_t, OrV_f, ↓eThen, ↓ePass, ↓eBreak, ↓eCont, ↓eExpr, ↓eRet, ↓eRetN, ↓eIfS, ↓eSet, ↓eOwn, ↓eAsg, ↓eSetIx, ↓eGSetIx, ↓eAug, ↓eIadd, ↓eIaddL, ↓eFrz, ↓eFor, ↓eWhile, ↓eNm, ↓eC, ↓eOp, ↓eB, ↓eTr, ↓eTrB, ↓eTrI, ↓eTrN, ↓eTrT, ↓eTrL, ↓eTrA, ↓eAnd, ↓eOr, ↓eNot, ↓eAndV, ↓eOrV, ↓eNotV, ↓eIf, ↓eNil, ↓eCons, ↓eTup, ↓eOfL, ↓eLstL, ↓eListL, ↓eCatL, ↓eLc, ↓eWipe0, ↓eWipe, ↓eSeq, ↓eRng1, ↓eRng2, ↓eCall, ↓eCallL, ↓eRetL, ↓eSrt, ↓eSrtU, ↓eCB, ↓eNeg, ↓eChain, ↓eAppend, ↓ePop, ↓eNo, ↓eSome, ↓eSl, ↓eAnyG, ↓eAllG, ↓eZip, ↓eZip3, ↓gIsC_, tyN_t, tyN_l, tyN_n, tyN_b, tyN_i, seqP_t, seqP_l, ↓eEn1, ↓eEn2, ↓eSeqA, ↓ePar, ↓gAnyL_, ↓gAllL_, ↓gSumL_, boolsD_map, intsD_map, ↓gSl_t, ↓gSl_l, ↓gSl_a, ↓gAdd_i, ↓gAdd_t, ↓gAdd_s, ↓gAdd_l, ↓gI0_i, ↓gI_i, ↓gMul_i, ↓gMul_t, ↓gEq_, ↓gNe_, ↓gIs_n, ↓gIs_b, ↓gIsNot_n, ↓gIsNot_b, ↓gIn_, ↓gNotIn_, ↓gIx_t, ↓gIx_l, ↓gIx_a, ↓gLen_, ↓gLen_l, ↓gLen_a, ↓gInt_, ↓gInt_b, ↓gTuple_, ↓gTuple_l, ↓gTuple_a, ↓gMax_, ↓gMin_, ↓gIsBool_b, ↓gIsBool_i, seqOf_t, seqOf_l, seqOf_a, lstOf_l, lstOf_a, rsv_i, rsv_b, rsv_s, rsv_n, rsv_t, rsv_l, dle_i, dle_b, dle_n, eqD_i, eqD_b, isNon, bNm_, bTup_, bCons_, bNil_, Option.bind_some, i40, i41, i42, i43, atI0, atI1, atI2, atI3, atI4, atI5, mset_same, true_and, beq_self_eq_true, Bool.false_eq_true, c0, c1, Int.cast_ofNat_Int, Int.reduceEq, Int.reduceLT, Int.reduceLE, Int.reduceAdd, Int.reduceSub, ↓reduceIte]
    rw [any_map_id]
    exact q
/-! shapes, states, drawn -/
structure Shp where
  m : Int
  c : Int
  q : Int
  l : Int
def shD (s : Shp) : D := .tup [.int s.m, .int s.c, .int s.q, .int s.l]
def okSh (s : Shp) : Prop := 1 ≤ s.m ∧ s.m ≤ 6 ∧ 0 ≤ s.c ∧ s.c ≤ 4 ∧ 0 ≤ s.q ∧ s.q ≤ 2 ∧ 0 ≤ s.l ∧ s.l ≤ 3
def okS (sh : Shp) (top : Int) (s : Ste) : Prop := 0 ≤ s.m ∧ s.m < sh.m ∧ (s.n.length : Int) = sh.c ∧ (∀ x ∈ s.n, 0 ≤ x ∧ x ≤ top) ∧ (s.w.length : Int) = sh.q ∧ ∀ v ∈ s.w, okW sh.l v ∧ (v.length : Int) ≤ top
def S_lshape : FSpec := Drw (fun r d => ∃ s : Shp, d = shD s ∧ okSh s) fun r => r = []
def S_lstate : FSpec := Drw (fun r d => ∃ (sh : Shp) (top : Int) (s : Ste), r = [shD sh, .int top] ∧ d = stD s ∧ okS sh top s) fun r => ∃ (sh : Shp) (top : Int), r = [shD sh, .int top] ∧ okSh sh ∧ 0 ≤ top ∧ top < 100
def S_lstates : FSpec := Drw (fun r d => ∃ (sh : Shp) (cnt top : Int) (ss : List Ste), r = [shD sh, .int cnt, .int top] ∧ d = .lst (ss.map stD) ∧ (ss.length : Int) ≤ cnt ∧ ∀ s ∈ ss, okS sh top s) fun r => ∃ (sh : Shp) (cnt top : Int), r = [shD sh, .int cnt, .int top] ∧ okSh sh ∧ 0 ≤ top ∧ top < 100 ∧ 0 ≤ cnt ∧ cnt < 1000
theorem b_lshape (ds : List D) (M : Mu) (Q : D → Mu → Prop) (xw : XW) (h : S_lshape ds M Q xw) : bodyE N_lshape (f_lshape S_ldraw) ds M Q xw := by
  obtain ⟨a, rest, rfl, rfl, st, post⟩ := h
  have post2 : ∀ d M', (∃ s : Shp, d = shD s ∧ okSh s) → Stp a M M' → Q d (mres M' M) := fun d M' h1 h2 => post _ _ h1 (h2.res st)
  simp only [bodyE, bodyL, startD, N_lshape, List.map_cons, List.map_nil, List.length_cons, List.length_nil, List.replicate_succ, List.replicate_zero, List.cons_append, List.nil_append, Nat.reduceAdd, Nat.reduceSub]
  unfold f_lshape
  try simp -dsimp only [bodyE, startD, List.map_cons, List.map_nil, List.length_cons, List.length_nil, List.replicate_succ, List.replicate_zero, List.cons_append, List.nil_append, Nat.reduceAdd, Nat.reduceSub, List.set_cons_zero, List.set_cons_succ, List.getElem?_cons_zero, List.getElem?_cons_succ, Bool.not_true, Bool.not_false, decide_true, decide_false, ↓IfS_t, ↓IfS_f, ↓IfE_t, ↓IfE_f, ↓AndT_t, ↓AndT_f, ↓OrT_t, ↓OrT_f, ↓AndV_t, ↓AndV_f, ↓OrV_t, ↓OrV_f, IfS_t, IfS_f, IfE_t, IfE_f, AndT_t, AndT_f, OrT_t, OrT_f, AndV_t, AndV_f, OrV_t, OrV_f, ↓eThen, ↓ePass, ↓eBreak, ↓eCont, ↓eExpr, ↓eRet, ↓eRetN, ↓eIfS, ↓eSet, ↓eOwn, ↓eAsg, ↓eSetIx, ↓eGSetIx, ↓eAug, ↓eIadd, ↓eIaddL, ↓eFrz, ↓eFor, ↓eWhile, ↓eNm, ↓eC, ↓eOp, ↓eB, ↓eTr, ↓eTrB, ↓eTrI, ↓eTrN, ↓eTrT, ↓eTrL, ↓eTrA, ↓eAnd, ↓eOr, ↓eNot, ↓eAndV, ↓eOrV, ↓eNotV, ↓eIf, ↓eNil, ↓eCons, ↓eTup, ↓eOfL, ↓eLstL, ↓eListL, ↓eCatL, ↓eLc, ↓eWipe0, ↓eWipe, ↓eSeq, ↓eRng1, ↓eRng2, ↓eCall, ↓eCallL, ↓eRetL, ↓eSrt, ↓eSrtU, ↓eCB, ↓eNeg, ↓eChain, ↓eAppend, ↓ePop, ↓eNo, ↓eSome, ↓eSl, ↓eAnyG, ↓eAllG, ↓eZip, ↓eZip3, ↓gIsC_, tyN_t, tyN_l, tyN_n, tyN_b, tyN_i, seqP_t, seqP_l, ↓eEn1, ↓eEn2, ↓eSeqA, ↓ePar, ↓gAnyL_, ↓gAllL_, ↓gSumL_, boolsD_map, intsD_map, ↓gSl_t, ↓gSl_l, ↓gSl_a, ↓gAdd_i, ↓gAdd_t, ↓gAdd_s, ↓gAdd_l, ↓gI0_i, ↓gI_i, ↓gMul_i, ↓gMul_t, ↓gEq_, ↓gNe_, ↓gIs_n, ↓gIs_b, ↓gIsNot_n, ↓gIsNot_b, ↓gIn_, ↓gNotIn_, ↓gIx_t, ↓gIx_l, ↓gIx_a, ↓gLen_, ↓gLen_l, ↓gLen_a, ↓gInt_, ↓gInt_b, ↓gTuple_, ↓gTuple_l, ↓gTuple_a, ↓gMax_, ↓gMin_, ↓gIsBool_b, ↓gIsBool_i, seqOf_t, seqOf_l, seqOf_a, lstOf_l, lstOf_a, rsv_i, rsv_b, rsv_s, rsv_n, rsv_t, rsv_l, dle_i, dle_b, dle_n, eqD_i, eqD_b, isNon, bNm_, bTup_, bCons_, bNil_, Option.bind_some, i40, i41, i42, i43, atI0, atI1, atI2, atI3, atI4, atI5, mset_same, true_and, beq_self_eq_true, Bool.false_eq_true, c0, c1, Int.cast_ofNat_Int, Int.reduceEq, Int.reduceLT, Int.reduceLE, Int.reduceAdd, Int.reduceSub, ↓reduceIte]
  refine ⟨by decide, by decide, by decide, by decide, by decide, by decide, by decide, by decide, by decide, by decide, by decide, by decide, by decide, by decide, by decide, by decide, by decide, ?_⟩
  refine draw_call st (by omega) (by omega) fun M1 i i0 i1 s1 => ?_
  have key : ∀ l : List Shp, l.length = 16 → (∀ s ∈ l, okSh s) → ∃ s, atI (l.map shD) i = some (shD s) ∧ okSh s := fun l hl h => by
    have hi : i.toNat < l.length := by omega
    refine ⟨l[i.toNat], ?_, h _ (List.getElem_mem hi)⟩
    rw [atI_nat i0 (by rw [List.length_map]; omega), List.getElem?_map, List.getElem?_eq_getElem hi]
    rfl
  obtain ⟨s, e1, e2⟩ := key [⟨1, 2, 0, 0⟩, ⟨2, 1, 1, 2⟩, ⟨1, 1, 1, 2⟩, ⟨2, 2, 0, 1⟩, ⟨1, 0, 2, 2⟩, ⟨1, 3, 0, 0⟩, ⟨2, 2, 1, 2⟩, ⟨3, 0, 1, 2⟩, ⟨1, 0, 1, 3⟩, ⟨1, 1, 1, 1⟩, ⟨2, 1, 1, 0⟩, ⟨4, 1, 0, 0⟩, ⟨3, 0, 0, 0⟩, ⟨2, 1, 2, 2⟩, ⟨1, 4, 0, 0⟩, ⟨6, 1, 0, 0⟩] rfl (by
    intro s hs
    simp only [List.mem_cons, List.not_mem_nil, or_false] at hs
    rcases hs with rfl | rfl | rfl | rfl | rfl | rfl | rfl | rfl | rfl | rfl | rfl | rfl | rfl | rfl | rfl | rfl <;> (unfold okSh; decide))
  simp only [List.map_cons, List.map_nil, shD] at e1
  try simp -dsimp only [bodyE, startD, List.map_cons, List.map_nil, List.length_cons, List.length_nil, List.replicate_succ, List.replicate_zero, List.cons_append, List.nil_append, Nat.reduceAdd, Nat.reduceSub, List.set_cons_zero, List.set_cons_succ, List.getElem?_cons_zero, List.getElem?_cons_succ, Bool.not_true, Bool.not_false, decide_true, decide_false, ↓IfS_t, ↓IfS_f, ↓IfE_t, ↓IfE_f, ↓AndT_t, ↓AndT_f, ↓OrT_t, ↓OrT_f, ↓AndV_t, ↓AndV_f, ↓OrV_t, ↓OrV_f, IfS_t, IfS_f, IfE_t, IfE_f, AndT_t, AndT_f, OrT_t, OrT_f, AndV_t, AndV_f, OrV_t, OrV_f, ↓eThen, ↓ePass, ↓eBreak, ↓eCont, ↓eExpr, ↓eRet, ↓eRetN, ↓eIfS, ↓eSet, ↓eOwn, ↓eAsg, ↓eSetIx, ↓eGSetIx, ↓eAug, ↓eIadd, ↓eIaddL, ↓eFrz, ↓eFor, ↓eWhile, ↓eNm, ↓eC, ↓eOp, ↓eB, ↓eTr, ↓eTrB, ↓eTrI, ↓eTrN, ↓eTrT, ↓eTrL, ↓eTrA, ↓eAnd, ↓eOr, ↓eNot, ↓eAndV, ↓eOrV, ↓eNotV, ↓eIf, ↓eNil, ↓eCons, ↓eTup, ↓eOfL, ↓eLstL, ↓eListL, ↓eCatL, ↓eLc, ↓eWipe0, ↓eWipe, ↓eSeq, ↓eRng1, ↓eRng2, ↓eCall, ↓eCallL, ↓eRetL, ↓eSrt, ↓eSrtU, ↓eCB, ↓eNeg, ↓eChain, ↓eAppend, ↓ePop, ↓eNo, ↓eSome, ↓eSl, ↓eAnyG, ↓eAllG, ↓eZip, ↓eZip3, ↓gIsC_, tyN_t, tyN_l, tyN_n, tyN_b, tyN_i, seqP_t, seqP_l, ↓eEn1, ↓eEn2, ↓eSeqA, ↓ePar, ↓gAnyL_, ↓gAllL_, ↓gSumL_, boolsD_map, intsD_map, ↓gSl_t, ↓gSl_l, ↓gSl_a, ↓gAdd_i, ↓gAdd_t, ↓gAdd_s, ↓gAdd_l, ↓gI0_i, ↓gI_i, ↓gMul_i, ↓gMul_t, ↓gEq_, ↓gNe_, ↓gIs_n, ↓gIs_b, ↓gIsNot_n, ↓gIsNot_b, ↓gIn_, ↓gNotIn_, ↓gIx_t, ↓gIx_l, ↓gIx_a, ↓gLen_, ↓gLen_l, ↓gLen_a, ↓gInt_, ↓gInt_b, ↓gTuple_, ↓gTuple_l, ↓gTuple_a, ↓gMax_, ↓gMin_, ↓gIsBool_b, ↓gIsBool_i, seqOf_t, seqOf_l, seqOf_a, lstOf_l, lstOf_a, rsv_i, rsv_b, rsv_s, rsv_n, rsv_t, rsv_l, dle_i, dle_b, dle_n, eqD_i, eqD_b, isNon, bNm_, bTup_, bCons_, bNil_, Option.bind_some, i40, i41, i42, i43, atI0, atI1, atI2, atI3, atI4, atI5, mset_same, true_and, beq_self_eq_true, Bool.false_eq_true, c0, c1, Int.cast_ofNat_Int, Int.reduceEq, Int.reduceLT, Int.reduceLE, Int.reduceAdd, Int.reduceSub, ↓reduceIte, e1]
  exact post2 _ _ ⟨s, rfl, e2⟩ s1
theorem b_lstate (ds : List D) (M : Mu) (Q : D → Mu → Prop) (xw : XW) (h : S_lstate ds M Q xw) : bodyE N_lstate (f_lstate S_ldraw S_lword) ds M Q xw := by
  obtain ⟨a, rest, rfl, ⟨sh, top, rfl, hsh, t0, t1⟩, st, post⟩ := h
  have post2 : ∀ (s : Ste) M', okS sh top s → Stp a M M' → Q (stD s) (mres M' M) := fun s M' h1 h2 => post _ _ ⟨sh, top, s, rfl, rfl, h1⟩ (h2.res st)
  obtain ⟨m, c, q, l⟩ := sh
  obtain ⟨h1, h2, h3, h4, h5, h6, h7, h8⟩ := hsh
  dsimp only at h1 h2 h3 h4 h5 h6 h7 h8
  have hsz : sizeLine = 16777216 := rfl
  simp only [bodyE, bodyL, startD, N_lstate, List.map_cons, List.map_nil, List.length_cons, List.length_nil, List.replicate_succ, List.replicate_zero, List.cons_append, List.nil_append, Nat.reduceAdd, Nat.reduceSub]
  unfold f_lstate
  unfold shD
  try simp -dsimp only [bodyE, startD, List.map_cons, List.map_nil, List.length_cons, List.length_nil, List.replicate_succ, List.replicate_zero, List.cons_append, List.nil_append, Nat.reduceAdd, Nat.reduceSub, List.set_cons_zero, List.set_cons_succ, List.getElem?_cons_zero, List.getElem?_cons_succ, Bool.not_true, Bool.not_false, decide_true, decide_false, ↓IfS_t, ↓IfS_f, ↓IfE_t, ↓IfE_f, ↓AndT_t, ↓AndT_f, ↓OrT_t, ↓OrT_f, ↓AndV_t, ↓AndV_f, ↓OrV_t, ↓OrV_f, IfS_t, IfS_f, IfE_t, IfE_f, AndT_t, AndT_f, OrT_t, OrT_f, AndV_t, AndV_f, OrV_t, OrV_f, ↓eThen, ↓ePass, ↓eBreak, ↓eCont, ↓eExpr, ↓eRet, ↓eRetN, ↓eIfS, ↓eSet, ↓eOwn, ↓eAsg, ↓eSetIx, ↓eGSetIx, ↓eAug, ↓eIadd, ↓eIaddL, ↓eFrz, ↓eFor, ↓eWhile, ↓eNm, ↓eC, ↓eOp, ↓eB, ↓eTr, ↓eTrB, ↓eTrI, ↓eTrN, ↓eTrT, ↓eTrL, ↓eTrA, ↓eAnd, ↓eOr, ↓eNot, ↓eAndV, ↓eOrV, ↓eNotV, ↓eIf, ↓eNil, ↓eCons, ↓eTup, ↓eOfL, ↓eLstL, ↓eListL, ↓eCatL, ↓eLc, ↓eWipe0, ↓eWipe, ↓eSeq, ↓eRng1, ↓eRng2, ↓eCall, ↓eCallL, ↓eRetL, ↓eSrt, ↓eSrtU, ↓eCB, ↓eNeg, ↓eChain, ↓eAppend, ↓ePop, ↓eNo, ↓eSome, ↓eSl, ↓eAnyG, ↓eAllG, ↓eZip, ↓eZip3, ↓gIsC_, tyN_t, tyN_l, tyN_n, tyN_b, tyN_i, seqP_t, seqP_l, ↓eEn1, ↓eEn2, ↓eSeqA, ↓ePar, ↓gAnyL_, ↓gAllL_, ↓gSumL_, boolsD_map, intsD_map, ↓gSl_t, ↓gSl_l, ↓gSl_a, ↓gAdd_i, ↓gAdd_t, ↓gAdd_s, ↓gAdd_l, ↓gI0_i, ↓gI_i, ↓gMul_i, ↓gMul_t, ↓gEq_, ↓gNe_, ↓gIs_n, ↓gIs_b, ↓gIsNot_n, ↓gIsNot_b, ↓gIn_, ↓gNotIn_, ↓gIx_t, ↓gIx_l, ↓gIx_a, ↓gLen_, ↓gLen_l, ↓gLen_a, ↓gInt_, ↓gInt_b, ↓gTuple_, ↓gTuple_l, ↓gTuple_a, ↓gMax_, ↓gMin_, ↓gIsBool_b, ↓gIsBool_i, seqOf_t, seqOf_l, seqOf_a, lstOf_l, lstOf_a, rsv_i, rsv_b, rsv_s, rsv_n, rsv_t, rsv_l, dle_i, dle_b, dle_n, eqD_i, eqD_b, isNon, bNm_, bTup_, bCons_, bNil_, Option.bind_some, i40, i41, i42, i43, atI0, atI1, atI2, atI3, atI4, atI5, mset_same, true_and, beq_self_eq_true, Bool.false_eq_true, c0, c1, Int.cast_ofNat_Int, Int.reduceEq, Int.reduceLT, Int.reduceLE, Int.reduceAdd, Int.reduceSub, ↓reduceIte]
  refine ⟨by omega, lc_gen (fun y => ∃ x : Int, y = .int x ∧ (0 ≤ x ∧ x ≤ top)) st (by rw [rngD_length]; omega) (fun d M' k _ hs hk => ?_) fun ys M1 hl hy s1 => ?_⟩
  · try simp -dsimp only [bodyE, startD, List.map_cons, List.map_nil, List.length_cons, List.length_nil, List.replicate_succ, List.replicate_zero, List.cons_append, List.nil_append, Nat.reduceAdd, Nat.reduceSub, List.set_cons_zero, List.set_cons_succ, List.getElem?_cons_zero, List.getElem?_cons_succ, Bool.not_true, Bool.not_false, decide_true, decide_false, ↓IfS_t, ↓IfS_f, ↓IfE_t, ↓IfE_f, ↓AndT_t, ↓AndT_f, ↓OrT_t, ↓OrT_f, ↓AndV_t, ↓AndV_f, ↓OrV_t, ↓OrV_f, IfS_t, IfS_f, IfE_t, IfE_f, AndT_t, AndT_f, OrT_t, OrT_f, AndV_t, AndV_f, OrV_t, OrV_f, ↓eThen, ↓ePass, ↓eBreak, ↓eCont, ↓eExpr, ↓eRet, ↓eRetN, ↓eIfS, ↓eSet, ↓eOwn, ↓eAsg, ↓eSetIx, ↓eGSetIx, ↓eAug, ↓eIadd, ↓eIaddL, ↓eFrz, ↓eFor, ↓eWhile, ↓eNm, ↓eC, ↓eOp, ↓eB, ↓eTr, ↓eTrB, ↓eTrI, ↓eTrN, ↓eTrT, ↓eTrL, ↓eTrA, ↓eAnd, ↓eOr, ↓eNot, ↓eAndV, ↓eOrV, ↓eNotV, ↓eIf, ↓eNil, ↓eCons, ↓eTup, ↓eOfL, ↓eLstL, ↓eListL, ↓eCatL, ↓eLc, ↓eWipe0, ↓eWipe, ↓eSeq, ↓eRng1, ↓eRng2, ↓eCall, ↓eCallL, ↓eRetL, ↓eSrt, ↓eSrtU, ↓eCB, ↓eNeg, ↓eChain, ↓eAppend, ↓ePop, ↓eNo, ↓eSome, ↓eSl, ↓eAnyG, ↓eAllG, ↓eZip, ↓eZip3, ↓gIsC_, tyN_t, tyN_l, tyN_n, tyN_b, tyN_i, seqP_t, seqP_l, ↓eEn1, ↓eEn2, ↓eSeqA, ↓ePar, ↓gAnyL_, ↓gAllL_, ↓gSumL_, boolsD_map, intsD_map, ↓gSl_t, ↓gSl_l, ↓gSl_a, ↓gAdd_i, ↓gAdd_t, ↓gAdd_s, ↓gAdd_l, ↓gI0_i, ↓gI_i, ↓gMul_i, ↓gMul_t, ↓gEq_, ↓gNe_, ↓gIs_n, ↓gIs_b, ↓gIsNot_n, ↓gIsNot_b, ↓gIn_, ↓gNotIn_, ↓gIx_t, ↓gIx_l, ↓gIx_a, ↓gLen_, ↓gLen_l, ↓gLen_a, ↓gInt_, ↓gInt_b, ↓gTuple_, ↓gTuple_l, ↓gTuple_a, ↓gMax_, ↓gMin_, ↓gIsBool_b, ↓gIsBool_i, seqOf_t, seqOf_l, seqOf_a, lstOf_l, lstOf_a, rsv_i, rsv_b, rsv_s, rsv_n, rsv_t, rsv_l, dle_i, dle_b, dle_n, eqD_i, eqD_b, isNon, bNm_, bTup_, bCons_, bNil_, Option.bind_some, i40, i41, i42, i43, atI0, atI1, atI2, atI3, atI4, atI5, mset_same, true_and, beq_self_eq_true, Bool.false_eq_true, c0, c1, Int.cast_ofNat_Int, Int.reduceEq, Int.reduceLT, Int.reduceLE, Int.reduceAdd, Int.reduceSub, ↓reduceIte]
    exact draw_call hs.2 (by omega) (by omega) fun M2 j j0 j1 s2 => hk _ _ ⟨j, rfl, j0, by omega⟩ (hs.trans s2)
  · obtain ⟨n, rfl, hn⟩ := enc_of ys hy
    rw [rngD_length, List.length_map] at hl
    try simp -dsimp only [bodyE, startD, List.map_cons, List.map_nil, List.length_cons, List.length_nil, List.replicate_succ, List.replicate_zero, List.cons_append, List.nil_append, Nat.reduceAdd, Nat.reduceSub, List.set_cons_zero, List.set_cons_succ, List.getElem?_cons_zero, List.getElem?_cons_succ, Bool.not_true, Bool.not_false, decide_true, decide_false, ↓IfS_t, ↓IfS_f, ↓IfE_t, ↓IfE_f, ↓AndT_t, ↓AndT_f, ↓OrT_t, ↓OrT_f, ↓AndV_t, ↓AndV_f, ↓OrV_t, ↓OrV_f, IfS_t, IfS_f, IfE_t, IfE_f, AndT_t, AndT_f, OrT_t, OrT_f, AndV_t, AndV_f, OrV_t, OrV_f, ↓eThen, ↓ePass, ↓eBreak, ↓eCont, ↓eExpr, ↓eRet, ↓eRetN, ↓eIfS, ↓eSet, ↓eOwn, ↓eAsg, ↓eSetIx, ↓eGSetIx, ↓eAug, ↓eIadd, ↓eIaddL, ↓eFrz, ↓eFor, ↓eWhile, ↓eNm, ↓eC, ↓eOp, ↓eB, ↓eTr, ↓eTrB, ↓eTrI, ↓eTrN, ↓eTrT, ↓eTrL, ↓eTrA, ↓eAnd, ↓eOr, ↓eNot, ↓eAndV, ↓eOrV, ↓eNotV, ↓eIf, ↓eNil, ↓eCons, ↓eTup, ↓eOfL, ↓eLstL, ↓eListL, ↓eCatL, ↓eLc, ↓eWipe0, ↓eWipe, ↓eSeq, ↓eRng1, ↓eRng2, ↓eCall, ↓eCallL, ↓eRetL, ↓eSrt, ↓eSrtU, ↓eCB, ↓eNeg, ↓eChain, ↓eAppend, ↓ePop, ↓eNo, ↓eSome, ↓eSl, ↓eAnyG, ↓eAllG, ↓eZip, ↓eZip3, ↓gIsC_, tyN_t, tyN_l, tyN_n, tyN_b, tyN_i, seqP_t, seqP_l, ↓eEn1, ↓eEn2, ↓eSeqA, ↓ePar, ↓gAnyL_, ↓gAllL_, ↓gSumL_, boolsD_map, intsD_map, ↓gSl_t, ↓gSl_l, ↓gSl_a, ↓gAdd_i, ↓gAdd_t, ↓gAdd_s, ↓gAdd_l, ↓gI0_i, ↓gI_i, ↓gMul_i, ↓gMul_t, ↓gEq_, ↓gNe_, ↓gIs_n, ↓gIs_b, ↓gIsNot_n, ↓gIsNot_b, ↓gIn_, ↓gNotIn_, ↓gIx_t, ↓gIx_l, ↓gIx_a, ↓gLen_, ↓gLen_l, ↓gLen_a, ↓gInt_, ↓gInt_b, ↓gTuple_, ↓gTuple_l, ↓gTuple_a, ↓gMax_, ↓gMin_, ↓gIsBool_b, ↓gIsBool_i, seqOf_t, seqOf_l, seqOf_a, lstOf_l, lstOf_a, rsv_i, rsv_b, rsv_s, rsv_n, rsv_t, rsv_l, dle_i, dle_b, dle_n, eqD_i, eqD_b, isNon, bNm_, bTup_, bCons_, bNil_, Option.bind_some, i40, i41, i42, i43, atI0, atI1, atI2, atI3, atI4, atI5, mset_same, true_and, beq_self_eq_true, Bool.false_eq_true, c0, c1, Int.cast_ofNat_Int, Int.reduceEq, Int.reduceLT, Int.reduceLE, Int.reduceAdd, Int.reduceSub, ↓reduceIte]
    refine ⟨by omega, lc_gen (fun y => ∃ v : List Int, y = wD v ∧ (okW l v ∧ (v.length : Int) ≤ top)) s1.2 (by rw [rngD_length]; omega) (fun d M' k _ hs hk => ?_) fun ys M2 hl2 hy2 s2 => ?_⟩
    · try simp -dsimp only [bodyE, startD, List.map_cons, List.map_nil, List.length_cons, List.length_nil, List.replicate_succ, List.replicate_zero, List.cons_append, List.nil_append, Nat.reduceAdd, Nat.reduceSub, List.set_cons_zero, List.set_cons_succ, List.getElem?_cons_zero, List.getElem?_cons_succ, Bool.not_true, Bool.not_false, decide_true, decide_false, ↓IfS_t, ↓IfS_f, ↓IfE_t, ↓IfE_f, ↓AndT_t, ↓AndT_f, ↓OrT_t, ↓OrT_f, ↓AndV_t, ↓AndV_f, ↓OrV_t, ↓OrV_f, IfS_t, IfS_f, IfE_t, IfE_f, AndT_t, AndT_f, OrT_t, OrT_f, AndV_t, AndV_f, OrV_t, OrV_f, ↓eThen, ↓ePass, ↓eBreak, ↓eCont, ↓eExpr, ↓eRet, ↓eRetN, ↓eIfS, ↓eSet, ↓eOwn, ↓eAsg, ↓eSetIx, ↓eGSetIx, ↓eAug, ↓eIadd, ↓eIaddL, ↓eFrz, ↓eFor, ↓eWhile, ↓eNm, ↓eC, ↓eOp, ↓eB, ↓eTr, ↓eTrB, ↓eTrI, ↓eTrN, ↓eTrT, ↓eTrL, ↓eTrA, ↓eAnd, ↓eOr, ↓eNot, ↓eAndV, ↓eOrV, ↓eNotV, ↓eIf, ↓eNil, ↓eCons, ↓eTup, ↓eOfL, ↓eLstL, ↓eListL, ↓eCatL, ↓eLc, ↓eWipe0, ↓eWipe, ↓eSeq, ↓eRng1, ↓eRng2, ↓eCall, ↓eCallL, ↓eRetL, ↓eSrt, ↓eSrtU, ↓eCB, ↓eNeg, ↓eChain, ↓eAppend, ↓ePop, ↓eNo, ↓eSome, ↓eSl, ↓eAnyG, ↓eAllG, ↓eZip, ↓eZip3, ↓gIsC_, tyN_t, tyN_l, tyN_n, tyN_b, tyN_i, seqP_t, seqP_l, ↓eEn1, ↓eEn2, ↓eSeqA, ↓ePar, ↓gAnyL_, ↓gAllL_, ↓gSumL_, boolsD_map, intsD_map, ↓gSl_t, ↓gSl_l, ↓gSl_a, ↓gAdd_i, ↓gAdd_t, ↓gAdd_s, ↓gAdd_l, ↓gI0_i, ↓gI_i, ↓gMul_i, ↓gMul_t, ↓gEq_, ↓gNe_, ↓gIs_n, ↓gIs_b, ↓gIsNot_n, ↓gIsNot_b, ↓gIn_, ↓gNotIn_, ↓gIx_t, ↓gIx_l, ↓gIx_a, ↓gLen_, ↓gLen_l, ↓gLen_a, ↓gInt_, ↓gInt_b, ↓gTuple_, ↓gTuple_l, ↓gTuple_a, ↓gMax_, ↓gMin_, ↓gIsBool_b, ↓gIsBool_i, seqOf_t, seqOf_l, seqOf_a, lstOf_l, lstOf_a, rsv_i, rsv_b, rsv_s, rsv_n, rsv_t, rsv_l, dle_i, dle_b, dle_n, eqD_i, eqD_b, isNon, bNm_, bTup_, bCons_, bNil_, Option.bind_some, i40, i41, i42, i43, atI0, atI1, atI2, atI3, atI4, atI5, mset_same, true_and, beq_self_eq_true, Bool.false_eq_true, c0, c1, Int.cast_ofNat_Int, Int.reduceEq, Int.reduceLT, Int.reduceLE, Int.reduceAdd, Int.reduceSub, ↓reduceIte]
      refine drw_call hs.2 ⟨l, top, rfl, by omega, by omega, by omega, by omega⟩ fun M3 d' hd s3 => ?_
      obtain ⟨L, m', v, e, rfl, hv1, hv2⟩ := hd
      cases e
      exact hk _ _ ⟨v, rfl, hv2, hv1⟩ (hs.trans s3)
    · obtain ⟨w, rfl, hw⟩ := enc_of ys hy2
      rw [rngD_length, List.length_map] at hl2
      try simp -dsimp only [bodyE, startD, List.map_cons, List.map_nil, List.length_cons, List.length_nil, List.replicate_succ, List.replicate_zero, List.cons_append, List.nil_append, Nat.reduceAdd, Nat.reduceSub, List.set_cons_zero, List.set_cons_succ, List.getElem?_cons_zero, List.getElem?_cons_succ, Bool.not_true, Bool.not_false, decide_true, decide_false, ↓IfS_t, ↓IfS_f, ↓IfE_t, ↓IfE_f, ↓AndT_t, ↓AndT_f, ↓OrT_t, ↓OrT_f, ↓AndV_t, ↓AndV_f, ↓OrV_t, ↓OrV_f, IfS_t, IfS_f, IfE_t, IfE_f, AndT_t, AndT_f, OrT_t, OrT_f, AndV_t, AndV_f, OrV_t, OrV_f, ↓eThen, ↓ePass, ↓eBreak, ↓eCont, ↓eExpr, ↓eRet, ↓eRetN, ↓eIfS, ↓eSet, ↓eOwn, ↓eAsg, ↓eSetIx, ↓eGSetIx, ↓eAug, ↓eIadd, ↓eIaddL, ↓eFrz, ↓eFor, ↓eWhile, ↓eNm, ↓eC, ↓eOp, ↓eB, ↓eTr, ↓eTrB, ↓eTrI, ↓eTrN, ↓eTrT, ↓eTrL, ↓eTrA, ↓eAnd, ↓eOr, ↓eNot, ↓eAndV, ↓eOrV, ↓eNotV, ↓eIf, ↓eNil, ↓eCons, ↓eTup, ↓eOfL, ↓eLstL, ↓eListL, ↓eCatL, ↓eLc, ↓eWipe0, ↓eWipe, ↓eSeq, ↓eRng1, ↓eRng2, ↓eCall, ↓eCallL, ↓eRetL, ↓eSrt, ↓eSrtU, ↓eCB, ↓eNeg, ↓eChain, ↓eAppend, ↓ePop, ↓eNo, ↓eSome, ↓eSl, ↓eAnyG, ↓eAllG, ↓eZip, ↓eZip3, ↓gIsC_, tyN_t, tyN_l, tyN_n, tyN_b, tyN_i, seqP_t, seqP_l, ↓eEn1, ↓eEn2, ↓eSeqA, ↓ePar, ↓gAnyL_, ↓gAllL_, ↓gSumL_, boolsD_map, intsD_map, ↓gSl_t, ↓gSl_l, ↓gSl_a, ↓gAdd_i, ↓gAdd_t, ↓gAdd_s, ↓gAdd_l, ↓gI0_i, ↓gI_i, ↓gMul_i, ↓gMul_t, ↓gEq_, ↓gNe_, ↓gIs_n, ↓gIs_b, ↓gIsNot_n, ↓gIsNot_b, ↓gIn_, ↓gNotIn_, ↓gIx_t, ↓gIx_l, ↓gIx_a, ↓gLen_, ↓gLen_l, ↓gLen_a, ↓gInt_, ↓gInt_b, ↓gTuple_, ↓gTuple_l, ↓gTuple_a, ↓gMax_, ↓gMin_, ↓gIsBool_b, ↓gIsBool_i, seqOf_t, seqOf_l, seqOf_a, lstOf_l, lstOf_a, rsv_i, rsv_b, rsv_s, rsv_n, rsv_t, rsv_l, dle_i, dle_b, dle_n, eqD_i, eqD_b, isNon, bNm_, bTup_, bCons_, bNil_, Option.bind_some, i40, i41, i42, i43, atI0, atI1, atI2, atI3, atI4, atI5, mset_same, true_and, beq_self_eq_true, Bool.false_eq_true, c0, c1, Int.cast_ofNat_Int, Int.reduceEq, Int.reduceLT, Int.reduceLE, Int.reduceAdd, Int.reduceSub, ↓reduceIte]
      refine draw_call s2.2 (by omega) (by omega) fun M3 j j0 j1 s3 => ?_
      try simp -dsimp only [bodyE, startD, List.map_cons, List.map_nil, List.length_cons, List.length_nil, List.replicate_succ, List.replicate_zero, List.cons_append, List.nil_append, Nat.reduceAdd, Nat.reduceSub, List.set_cons_zero, List.set_cons_succ, List.getElem?_cons_zero, List.getElem?_cons_succ, Bool.not_true, Bool.not_false, decide_true, decide_false, ↓IfS_t, ↓IfS_f, ↓IfE_t, ↓IfE_f, ↓AndT_t, ↓AndT_f, ↓OrT_t, ↓OrT_f, ↓AndV_t, ↓AndV_f, ↓OrV_t, ↓OrV_f, IfS_t, IfS_f, IfE_t, IfE_f, AndT_t, AndT_f, OrT_t, OrT_f, AndV_t, AndV_f, OrV_t, OrV_f, ↓eThen, ↓ePass, ↓eBreak, ↓eCont, ↓eExpr, ↓eRet, ↓eRetN, ↓eIfS, ↓eSet, ↓eOwn, ↓eAsg, ↓eSetIx, ↓eGSetIx, ↓eAug, ↓eIadd, ↓eIaddL, ↓eFrz, ↓eFor, ↓eWhile, ↓eNm, ↓eC, ↓eOp, ↓eB, ↓eTr, ↓eTrB, ↓eTrI, ↓eTrN, ↓eTrT, ↓eTrL, ↓eTrA, ↓eAnd, ↓eOr, ↓eNot, ↓eAndV, ↓eOrV, ↓eNotV, ↓eIf, ↓eNil, ↓eCons, ↓eTup, ↓eOfL, ↓eLstL, ↓eListL, ↓eCatL, ↓eLc, ↓eWipe0, ↓eWipe, ↓eSeq, ↓eRng1, ↓eRng2, ↓eCall, ↓eCallL, ↓eRetL, ↓eSrt, ↓eSrtU, ↓eCB, ↓eNeg, ↓eChain, ↓eAppend, ↓ePop, ↓eNo, ↓eSome, ↓eSl, ↓eAnyG, ↓eAllG, ↓eZip, ↓eZip3, ↓gIsC_, tyN_t, tyN_l, tyN_n, tyN_b, tyN_i, seqP_t, seqP_l, ↓eEn1, ↓eEn2, ↓eSeqA, ↓ePar, ↓gAnyL_, ↓gAllL_, ↓gSumL_, boolsD_map, intsD_map, ↓gSl_t, ↓gSl_l, ↓gSl_a, ↓gAdd_i, ↓gAdd_t, ↓gAdd_s, ↓gAdd_l, ↓gI0_i, ↓gI_i, ↓gMul_i, ↓gMul_t, ↓gEq_, ↓gNe_, ↓gIs_n, ↓gIs_b, ↓gIsNot_n, ↓gIsNot_b, ↓gIn_, ↓gNotIn_, ↓gIx_t, ↓gIx_l, ↓gIx_a, ↓gLen_, ↓gLen_l, ↓gLen_a, ↓gInt_, ↓gInt_b, ↓gTuple_, ↓gTuple_l, ↓gTuple_a, ↓gMax_, ↓gMin_, ↓gIsBool_b, ↓gIsBool_i, seqOf_t, seqOf_l, seqOf_a, lstOf_l, lstOf_a, rsv_i, rsv_b, rsv_s, rsv_n, rsv_t, rsv_l, dle_i, dle_b, dle_n, eqD_i, eqD_b, isNon, bNm_, bTup_, bCons_, bNil_, Option.bind_some, i40, i41, i42, i43, atI0, atI1, atI2, atI3, atI4, atI5, mset_same, true_and, beq_self_eq_true, Bool.false_eq_true, c0, c1, Int.cast_ofNat_Int, Int.reduceEq, Int.reduceLT, Int.reduceLE, Int.reduceAdd, Int.reduceSub, ↓reduceIte]
      exact ⟨by decide, post2 ⟨j, n, w⟩ _ ⟨j0, j1, by show (n.length : Int) = c; omega, hn, by show (w.length : Int) = q; omega, hw⟩ ((s1.trans s2).trans s3)⟩
theorem b_lstates (ds : List D) (M : Mu) (Q : D → Mu → Prop) (xw : XW) (h : S_lstates ds M Q xw) : bodyE N_lstates (f_lstates S_ldraw S_lstate) ds M Q xw := by
  obtain ⟨a, rest, rfl, ⟨sh, cnt, top, rfl, hsh, t0, t1, c0, c1⟩, st, post⟩ := h
  have post2 : ∀ (ss : List Ste) M', (ss.length : Int) ≤ cnt → (∀ s ∈ ss, okS sh top s) → Stp a M M' → Q (.lst (ss.map stD)) (mres M' M) := fun s M' h0 h1 h2 => post _ _ ⟨sh, cnt, top, s, rfl, rfl, h0, h1⟩ (h2.res st)
  have hsz : sizeLine = 16777216 := rfl
  simp only [bodyE, bodyL, startD, N_lstates, List.map_cons, List.map_nil, List.length_cons, List.length_nil, List.replicate_succ, List.replicate_zero, List.cons_append, List.nil_append, Nat.reduceAdd, Nat.reduceSub]
  unfold f_lstates
  try simp -dsimp only [bodyE, startD, List.map_cons, List.map_nil, List.length_cons, List.length_nil, List.replicate_succ, List.replicate_zero, List.cons_append, List.nil_append, Nat.reduceAdd, Nat.reduceSub, List.set_cons_zero, List.set_cons_succ, List.getElem?_cons_zero, List.getElem?_cons_succ, Bool.not_true, Bool.not_false, decide_true, decide_false, ↓IfS_t, ↓IfS_f, ↓IfE_t, ↓IfE_f, ↓AndT_t, ↓AndT_f, ↓OrT_t, ↓OrT_f, ↓AndV_t, ↓AndV_f, ↓OrV_t, ↓OrV_f, IfS_t, IfS_f, IfE_t, IfE_f, AndT_t, AndT_f, OrT_t, OrT_f, AndV_t, AndV_f, OrV_t, OrV_f, ↓eThen, ↓ePass, ↓eBreak, ↓eCont, ↓eExpr, ↓eRet, ↓eRetN, ↓eIfS, ↓eSet, ↓eOwn, ↓eAsg, ↓eSetIx, ↓eGSetIx, ↓eAug, ↓eIadd, ↓eIaddL, ↓eFrz, ↓eFor, ↓eWhile, ↓eNm, ↓eC, ↓eOp, ↓eB, ↓eTr, ↓eTrB, ↓eTrI, ↓eTrN, ↓eTrT, ↓eTrL, ↓eTrA, ↓eAnd, ↓eOr, ↓eNot, ↓eAndV, ↓eOrV, ↓eNotV, ↓eIf, ↓eNil, ↓eCons, ↓eTup, ↓eOfL, ↓eLstL, ↓eListL, ↓eCatL, ↓eLc, ↓eWipe0, ↓eWipe, ↓eSeq, ↓eRng1, ↓eRng2, ↓eCall, ↓eCallL, ↓eRetL, ↓eSrt, ↓eSrtU, ↓eCB, ↓eNeg, ↓eChain, ↓eAppend, ↓ePop, ↓eNo, ↓eSome, ↓eSl, ↓eAnyG, ↓eAllG, ↓eZip, ↓eZip3, ↓gIsC_, tyN_t, tyN_l, tyN_n, tyN_b, tyN_i, seqP_t, seqP_l, ↓eEn1, ↓eEn2, ↓eSeqA, ↓ePar, ↓gAnyL_, ↓gAllL_, ↓gSumL_, boolsD_map, intsD_map, ↓gSl_t, ↓gSl_l, ↓gSl_a, ↓gAdd_i, ↓gAdd_t, ↓gAdd_s, ↓gAdd_l, ↓gI0_i, ↓gI_i, ↓gMul_i, ↓gMul_t, ↓gEq_, ↓gNe_, ↓gIs_n, ↓gIs_b, ↓gIsNot_n, ↓gIsNot_b, ↓gIn_, ↓gNotIn_, ↓gIx_t, ↓gIx_l, ↓gIx_a, ↓gLen_, ↓gLen_l, ↓gLen_a, ↓gInt_, ↓gInt_b, ↓gTuple_, ↓gTuple_l, ↓gTuple_a, ↓gMax_, ↓gMin_, ↓gIsBool_b, ↓gIsBool_i, seqOf_t, seqOf_l, seqOf_a, lstOf_l, lstOf_a, rsv_i, rsv_b, rsv_s, rsv_n, rsv_t, rsv_l, dle_i, dle_b, dle_n, eqD_i, eqD_b, isNon, bNm_, bTup_, bCons_, bNil_, Option.bind_some, i40, i41, i42, i43, atI0, atI1, atI2, atI3, atI4, atI5, mset_same, true_and, beq_self_eq_true, Bool.false_eq_true, c0, c1, Int.cast_ofNat_Int, Int.reduceEq, Int.reduceLT, Int.reduceLE, Int.reduceAdd, Int.reduceSub, ↓reduceIte]
  refine draw_call st (by omega) (by omega) fun M1 i i0 i1 s1 => ?_
  try simp -dsimp only [bodyE, startD, List.map_cons, List.map_nil, List.length_cons, List.length_nil, List.replicate_succ, List.replicate_zero, List.cons_append, List.nil_append, Nat.reduceAdd, Nat.reduceSub, List.set_cons_zero, List.set_cons_succ, List.getElem?_cons_zero, List.getElem?_cons_succ, Bool.not_true, Bool.not_false, decide_true, decide_false, ↓IfS_t, ↓IfS_f, ↓IfE_t, ↓IfE_f, ↓AndT_t, ↓AndT_f, ↓OrT_t, ↓OrT_f, ↓AndV_t, ↓AndV_f, ↓OrV_t, ↓OrV_f, IfS_t, IfS_f, IfE_t, IfE_f, AndT_t, AndT_f, OrT_t, OrT_f, AndV_t, AndV_f, OrV_t, OrV_f, ↓eThen, ↓ePass, ↓eBreak, ↓eCont, ↓eExpr, ↓eRet, ↓eRetN, ↓eIfS, ↓eSet, ↓eOwn, ↓eAsg, ↓eSetIx, ↓eGSetIx, ↓eAug, ↓eIadd, ↓eIaddL, ↓eFrz, ↓eFor, ↓eWhile, ↓eNm, ↓eC, ↓eOp, ↓eB, ↓eTr, ↓eTrB, ↓eTrI, ↓eTrN, ↓eTrT, ↓eTrL, ↓eTrA, ↓eAnd, ↓eOr, ↓eNot, ↓eAndV, ↓eOrV, ↓eNotV, ↓eIf, ↓eNil, ↓eCons, ↓eTup, ↓eOfL, ↓eLstL, ↓eListL, ↓eCatL, ↓eLc, ↓eWipe0, ↓eWipe, ↓eSeq, ↓eRng1, ↓eRng2, ↓eCall, ↓eCallL, ↓eRetL, ↓eSrt, ↓eSrtU, ↓eCB, ↓eNeg, ↓eChain, ↓eAppend, ↓ePop, ↓eNo, ↓eSome, ↓eSl, ↓eAnyG, ↓eAllG, ↓eZip, ↓eZip3, ↓gIsC_, tyN_t, tyN_l, tyN_n, tyN_b, tyN_i, seqP_t, seqP_l, ↓eEn1, ↓eEn2, ↓eSeqA, ↓ePar, ↓gAnyL_, ↓gAllL_, ↓gSumL_, boolsD_map, intsD_map, ↓gSl_t, ↓gSl_l, ↓gSl_a, ↓gAdd_i, ↓gAdd_t, ↓gAdd_s, ↓gAdd_l, ↓gI0_i, ↓gI_i, ↓gMul_i, ↓gMul_t, ↓gEq_, ↓gNe_, ↓gIs_n, ↓gIs_b, ↓gIsNot_n, ↓gIsNot_b, ↓gIn_, ↓gNotIn_, ↓gIx_t, ↓gIx_l, ↓gIx_a, ↓gLen_, ↓gLen_l, ↓gLen_a, ↓gInt_, ↓gInt_b, ↓gTuple_, ↓gTuple_l, ↓gTuple_a, ↓gMax_, ↓gMin_, ↓gIsBool_b, ↓gIsBool_i, seqOf_t, seqOf_l, seqOf_a, lstOf_l, lstOf_a, rsv_i, rsv_b, rsv_s, rsv_n, rsv_t, rsv_l, dle_i, dle_b, dle_n, eqD_i, eqD_b, isNon, bNm_, bTup_, bCons_, bNil_, Option.bind_some, i40, i41, i42, i43, atI0, atI1, atI2, atI3, atI4, atI5, mset_same, true_and, beq_self_eq_true, Bool.false_eq_true, c0, c1, Int.cast_ofNat_Int, Int.reduceEq, Int.reduceLT, Int.reduceLE, Int.reduceAdd, Int.reduceSub, ↓reduceIte]
  refine ⟨by omega, lc_gen (fun y => ∃ s : Ste, y = stD s ∧ okS sh top s) s1.2 (by rw [rngD_length]; omega) (fun d M' k _ hs hk => ?_) fun ys M2 hl hy s2 => ?_⟩
  · try simp -dsimp only [bodyE, startD, List.map_cons, List.map_nil, List.length_cons, List.length_nil, List.replicate_succ, List.replicate_zero, List.cons_append, List.nil_append, Nat.reduceAdd, Nat.reduceSub, List.set_cons_zero, List.set_cons_succ, List.getElem?_cons_zero, List.getElem?_cons_succ, Bool.not_true, Bool.not_false, decide_true, decide_false, ↓IfS_t, ↓IfS_f, ↓IfE_t, ↓IfE_f, ↓AndT_t, ↓AndT_f, ↓OrT_t, ↓OrT_f, ↓AndV_t, ↓AndV_f, ↓OrV_t, ↓OrV_f, IfS_t, IfS_f, IfE_t, IfE_f, AndT_t, AndT_f, OrT_t, OrT_f, AndV_t, AndV_f, OrV_t, OrV_f, ↓eThen, ↓ePass, ↓eBreak, ↓eCont, ↓eExpr, ↓eRet, ↓eRetN, ↓eIfS, ↓eSet, ↓eOwn, ↓eAsg, ↓eSetIx, ↓eGSetIx, ↓eAug, ↓eIadd, ↓eIaddL, ↓eFrz, ↓eFor, ↓eWhile, ↓eNm, ↓eC, ↓eOp, ↓eB, ↓eTr, ↓eTrB, ↓eTrI, ↓eTrN, ↓eTrT, ↓eTrL, ↓eTrA, ↓eAnd, ↓eOr, ↓eNot, ↓eAndV, ↓eOrV, ↓eNotV, ↓eIf, ↓eNil, ↓eCons, ↓eTup, ↓eOfL, ↓eLstL, ↓eListL, ↓eCatL, ↓eLc, ↓eWipe0, ↓eWipe, ↓eSeq, ↓eRng1, ↓eRng2, ↓eCall, ↓eCallL, ↓eRetL, ↓eSrt, ↓eSrtU, ↓eCB, ↓eNeg, ↓eChain, ↓eAppend, ↓ePop, ↓eNo, ↓eSome, ↓eSl, ↓eAnyG, ↓eAllG, ↓eZip, ↓eZip3, ↓gIsC_, tyN_t, tyN_l, tyN_n, tyN_b, tyN_i, seqP_t, seqP_l, ↓eEn1, ↓eEn2, ↓eSeqA, ↓ePar, ↓gAnyL_, ↓gAllL_, ↓gSumL_, boolsD_map, intsD_map, ↓gSl_t, ↓gSl_l, ↓gSl_a, ↓gAdd_i, ↓gAdd_t, ↓gAdd_s, ↓gAdd_l, ↓gI0_i, ↓gI_i, ↓gMul_i, ↓gMul_t, ↓gEq_, ↓gNe_, ↓gIs_n, ↓gIs_b, ↓gIsNot_n, ↓gIsNot_b, ↓gIn_, ↓gNotIn_, ↓gIx_t, ↓gIx_l, ↓gIx_a, ↓gLen_, ↓gLen_l, ↓gLen_a, ↓gInt_, ↓gInt_b, ↓gTuple_, ↓gTuple_l, ↓gTuple_a, ↓gMax_, ↓gMin_, ↓gIsBool_b, ↓gIsBool_i, seqOf_t, seqOf_l, seqOf_a, lstOf_l, lstOf_a, rsv_i, rsv_b, rsv_s, rsv_n, rsv_t, rsv_l, dle_i, dle_b, dle_n, eqD_i, eqD_b, isNon, bNm_, bTup_, bCons_, bNil_, Option.bind_some, i40, i41, i42, i43, atI0, atI1, atI2, atI3, atI4, atI5, mset_same, true_and, beq_self_eq_true, Bool.false_eq_true, c0, c1, Int.cast_ofNat_Int, Int.reduceEq, Int.reduceLT, Int.reduceLE, Int.reduceAdd, Int.reduceSub, ↓reduceIte]
    refine drw_call hs.2 ⟨sh, top, rfl, hsh, t0, t1⟩ fun M3 d' hd s3 => ?_
    obtain ⟨sh', top', s, e, rfl, hv⟩ := hd
    have e1 : sh' = sh := by
      obtain ⟨x1, x2, x3, x4⟩ := sh
      obtain ⟨y1, y2, y3, y4⟩ := sh'
      simp only [shD, List.cons.injEq, D.tup.injEq, D.int.injEq, and_true] at e
      obtain ⟨⟨rfl, rfl, rfl, rfl⟩, _⟩ := e
      rfl
    have e2 : top' = top := by
      simp only [List.cons.injEq, D.int.injEq, and_true] at e
      exact e.2.symm
    subst e1 e2
    exact hk _ _ ⟨s, rfl, hv⟩ (hs.trans s3)
  · obtain ⟨ss, rfl, hw⟩ := enc_of ys hy
    rw [rngD_length, List.length_map] at hl
    try simp -dsimp only [bodyE, startD, List.map_cons, List.map_nil, List.length_cons, List.length_nil, List.replicate_succ, List.replicate_zero, List.cons_append, List.nil_append, Nat.reduceAdd, Nat.reduceSub, List.set_cons_zero, List.set_cons_succ, List.getElem?_cons_zero, List.getElem?_cons_succ, Bool.not_true, Bool.not_false, decide_true, decide_false, ↓IfS_t, ↓IfS_f, ↓IfE_t, ↓IfE_f, ↓AndT_t, ↓AndT_f, ↓OrT_t, ↓OrT_f, ↓AndV_t, ↓AndV_f, ↓OrV_t, ↓OrV_f, IfS_t, IfS_f, IfE_t, IfE_f, AndT_t, AndT_f, OrT_t, OrT_f, AndV_t, AndV_f, OrV_t, OrV_f, ↓eThen, ↓ePass, ↓eBreak, ↓eCont, ↓eExpr, ↓eRet, ↓eRetN, ↓eIfS, ↓eSet, ↓eOwn, ↓eAsg, ↓eSetIx, ↓eGSetIx, ↓eAug, ↓eIadd, ↓eIaddL, ↓eFrz, ↓eFor, ↓eWhile, ↓eNm, ↓eC, ↓eOp, ↓eB, ↓eTr, ↓eTrB, ↓eTrI, ↓eTrN, ↓eTrT, ↓eTrL, ↓eTrA, ↓eAnd, ↓eOr, ↓eNot, ↓eAndV, ↓eOrV, ↓eNotV, ↓eIf, ↓eNil, ↓eCons, ↓eTup, ↓eOfL, ↓eLstL, ↓eListL, ↓eCatL, ↓eLc, ↓eWipe0, ↓eWipe, ↓eSeq, ↓eRng1, ↓eRng2, ↓eCall, ↓eCallL, ↓eRetL, ↓eSrt, ↓eSrtU, ↓eCB, ↓eNeg, ↓eChain, ↓eAppend, ↓ePop, ↓eNo, ↓eSome, ↓eSl, ↓eAnyG, ↓eAllG, ↓eZip, ↓eZip3, ↓gIsC_, tyN_t, tyN_l, tyN_n, tyN_b, tyN_i, seqP_t, seqP_l, ↓eEn1, ↓eEn2, ↓eSeqA, ↓ePar, ↓gAnyL_, ↓gAllL_, ↓gSumL_, boolsD_map, intsD_map, ↓gSl_t, ↓gSl_l, ↓gSl_a, ↓gAdd_i, ↓gAdd_t, ↓gAdd_s, ↓gAdd_l, ↓gI0_i, ↓gI_i, ↓gMul_i, ↓gMul_t, ↓gEq_, ↓gNe_, ↓gIs_n, ↓gIs_b, ↓gIsNot_n, ↓gIsNot_b, ↓gIn_, ↓gNotIn_, ↓gIx_t, ↓gIx_l, ↓gIx_a, ↓gLen_, ↓gLen_l, ↓gLen_a, ↓gInt_, ↓gInt_b, ↓gTuple_, ↓gTuple_l, ↓gTuple_a, ↓gMax_, ↓gMin_, ↓gIsBool_b, ↓gIsBool_i, seqOf_t, seqOf_l, seqOf_a, lstOf_l, lstOf_a, rsv_i, rsv_b, rsv_s, rsv_n, rsv_t, rsv_l, dle_i, dle_b, dle_n, eqD_i, eqD_b, isNon, bNm_, bTup_, bCons_, bNil_, Option.bind_some, i40, i41, i42, i43, atI0, atI1, atI2, atI3, atI4, atI5, mset_same, true_and, beq_self_eq_true, Bool.false_eq_true, c0, c1, Int.cast_ofNat_Int, Int.reduceEq, Int.reduceLT, Int.reduceLE, Int.reduceAdd, Int.reduceSub, ↓reduceIte]
    exact post2 ss _ (by omega) hw (s1.trans s2)
theorem st_mk (s : Ste) : stD s = .tup [.int s.m, .tup (s.n.map .int), .tup (s.w.map wD)] := rfl
def S_law : FSpec := fun ds M Q _ => ∃ ns : List Int, ds = [.lst (ns.map .int)] ∧ ∀ M', Q (.bl true) M'
theorem s_law_of (ns : List Int) (_ : ns.length ≤ 63) (_ : ∀ z ∈ ns, Builtin.Int.intBits z ≤ 1048576) : S_law [.lst (ns.map .int)] (fun _ => none) (fun d _ => d = .bl true) fun _ _ => False := ⟨ns, rfl, fun _ => rfl⟩
theorem shD_inj {a b : Shp} (h : shD a = shD b) : a = b := by
  obtain ⟨x1, x2, x3, x4⟩ := a
  obtain ⟨y1, y2, y3, y4⟩ := b
  simp only [shD, List.cons.injEq, D.tup.injEq, D.int.injEq, and_true] at h
  obtain ⟨rfl, rfl, rfl, rfl⟩ := h
  rfl
section
variable {a : Addr} {M : Mu} {xw : XW} {Q : D → Mu → Prop} {sh : Shp} {L m top cnt : Int}
theorem word_call (h : IsSt M a) (L0 : 0 ≤ L) (L1 : L < 1000) (m0 : 0 ≤ m) (m1 : m < 1000) (k : ∀ M' (w : List Int), (w.length : Int) ≤ m → okW L w → Stp a M M' → Q (wD w) M') : CallS S_lword [.loc a, .int L, .int m] M xw (.mk : Ky Q) :=
  drw_call h ⟨L, m, rfl, L0, L1, m0, m1⟩ fun M' d hR s => by
    obtain ⟨L', m', w, e, rfl, h1, h2⟩ := hR
    cases e
    exact k M' w h1 h2 s
theorem shape_call (h : IsSt M a) (k : ∀ M' (sh : Shp), okSh sh → Stp a M M' → Q (shD sh) M') : CallS S_lshape [.loc a] M xw (.mk : Ky Q) :=
  drw_call h rfl fun M' d hR s => by
    obtain ⟨sh, rfl, h1⟩ := hR
    exact k M' sh h1 s
theorem state_call (h : IsSt M a) (hs : okSh sh) (t0 : 0 ≤ top) (t1 : top < 100) (k : ∀ M' (s : Ste), okS sh top s → Stp a M M' → Q (stD s) M') : CallS S_lstate [.loc a, shD sh, .int top] M xw (.mk : Ky Q) :=
  drw_call h ⟨sh, top, rfl, hs, t0, t1⟩ fun M' d hR s => by
    obtain ⟨sh', top', x, e, rfl, h1⟩ := hR
    simp only [List.cons.injEq, D.int.injEq, and_true] at e
    obtain ⟨e1, rfl⟩ := e
    cases shD_inj e1
    exact k M' x h1 s
theorem states_call (h : IsSt M a) (hs : okSh sh) (t0 : 0 ≤ top) (t1 : top < 100) (c0 : 0 ≤ cnt) (c1 : cnt < 1000) (k : ∀ M' (ss : List Ste), (ss.length : Int) ≤ cnt → (∀ s ∈ ss, okS sh top s) → Stp a M M' → Q (.lst (ss.map stD)) M') : CallS S_lstates [.loc a, shD sh, .int cnt, .int top] M xw (.mk : Ky Q) :=
  drw_call h ⟨sh, cnt, top, rfl, hs, t0, t1, c0, c1⟩ fun M' d hR s => by
    obtain ⟨sh', cnt', top', x, e, rfl, h1, h2⟩ := hR
    simp only [List.cons.injEq, D.int.injEq, and_true] at e
    obtain ⟨e1, rfl, rfl⟩ := e
    cases shD_inj e1
    exact k M' x h1 h2 s
end
end U

set_option Elab.async false
set_option linter.all false
set_option maxRecDepth 100000
set_option maxHeartbeats 1000000
/-! V10: sorted lists; the floor of a list of states. -/
namespace U
open PySem PySem.Spec PyProof.Rows L2
open PySem.W (alike alikeAll)

/-! ### the order, carried over -/
theorem alikeAll_map {α : Type} {enc : α → D} (h : ∀ x y, alike (enc x).pd (enc y).pd = true) : ∀ a b : List α, alikeAll (D.pds (a.map enc)) (D.pds (b.map enc)) = true
  | [], _ => by simp [D.pds, alikeAll]
  | _ :: _, [] => by simp [D.pds, alikeAll]
  | x :: a, y :: b => by
    simp only [List.map_cons, D.pds, alikeAll, Bool.and_eq_true]
    exact ⟨h x y, alikeAll_map h a b⟩
theorem alike_i (x y : Int) : alike (D.int x).pd (D.int y).pd = true := by simp [D.pd, alike]
theorem alike_s (x y : Str) : alike (D.str x).pd (D.str y).pd = true := by simp [D.pd, alike]
theorem alike_t {xs ys : List D} (h : alikeAll (D.pds xs) (D.pds ys) = true) : alike (D.tup xs).pd (D.tup ys).pd = true := by simpa only [D.pd, alike] using h
theorem alike_w (v w : List Int) : alike (wD v).pd (wD w).pd = true := alike_t (alikeAll_map alike_i v w)
theorem alike_st (a b : Ste) : alike (stD a).pd (stD b).pd = true := by
  unfold stD
  refine alike_t ?_
  simp only [D.pds, alikeAll, Bool.and_eq_true]
  exact ⟨alike_i _ _, alike_t (alikeAll_map alike_i _ _), alike_t (alikeAll_map alike_w _ _), trivial⟩
theorem ky_all {α : Type} {enc : α → D} {n : Nat} (h : ∀ x, kyD n (enc x) = true) (a : List α) : (a.map enc).all (kyD n) = true := by
  rw [List.all_map, List.all_eq_true]
  exact fun x _ => h x
theorem ky_i {n : Nat} (x : Int) : kyD n (.int x) = true := by cases n <;> rfl
theorem ky_s {n : Nat} (x : Str) : kyD n (.str x) = true := by cases n <;> rfl
theorem ky_w {n : Nat} (w : List Int) : kyD (n + 1) (wD w) = true := by
  show (w.map D.int).all (kyD n) = true
  exact ky_all ky_i w
theorem ky_st (s : Ste) : kyD 8 (stD s) = true := by
  show (kyD 7 (.int s.m) && (kyD 7 (.tup (s.n.map .int)) && (kyD 7 (.tup (s.w.map wD)) && true))) = true
  rw [ky_i, show kyD 7 (.tup (s.n.map .int)) = true from ky_all ky_i _, show kyD 7 (.tup (s.w.map wD)) = true from ky_all ky_w _]
  rfl
theorem wD_inj {a b : List Int} (h : wD a = wD b) : a = b := by
  have := eqD_w a b
  rw [h, eqD_refl] at this
  exact of_decide_eq_true this.symm
theorem stD_inj {a b : Ste} (h : stD a = stD b) : a = b := by
  have := eqD_st a b
  rw [h, eqD_refl] at this
  exact of_decide_eq_true this.symm
theorem okQ_of {α : Type} {enc : α → D} {n : Nat} {xs : List α} (ky : ∀ x, kyD 8 (enc x) = true) (al : ∀ x y, alike (enc x).pd (enc y).pd = true) (tp : ∀ x, isTup (enc x) = true) (ne : xs.length ≤ 1 ∨ ∀ x ∈ xs, neT (enc x) = true) (h : xs.length ≤ n) : okQ n (xs.map enc) = true := by
  unfold okQ okSrt alikeB
  simp only [Bool.and_eq_true, decide_eq_true_eq, List.length_map, Bool.or_eq_true]
  refine ⟨⟨⟨⟨ky_all ky xs, ?_⟩, ne.imp id fun q => ?_⟩, ?_⟩, h⟩
  · simp only [List.all_map, List.all_eq_true, Function.comp_def]
    exact fun x _ y _ => al x y
  · rw [List.all_map, List.all_eq_true]; exact q
  · rw [List.all_map, List.all_eq_true]; exact fun x _ => tp x
theorem okQ_st {n : Nat} {xs : List Ste} (h : xs.length ≤ n) : okQ n (xs.map stD) = true := okQ_of ky_st alike_st (fun _ => rfl) (.inr fun _ _ => rfl) h
section
variable {α : Type} {enc : α → D}
/-- strictly ascending -/
abbrev Asc (enc : α → D) (xs : List α) : Prop := xs.Pairwise fun a b => ltD (enc a) (enc b) = true
theorem Asc.nodup {xs : List α} (h : Asc enc xs) : xs.Nodup := List.Pairwise.imp (fun {a b} q e => by rw [e, ltD_irrefl] at q; cases q) h
theorem Asc.one {xs ys : List α} (h : Asc enc xs) (k : Asc enc ys) (m : ∀ x, x ∈ xs ↔ x ∈ ys) : xs = ys := by
  refine List.Perm.eq_of_pairwise (le := fun a b => ltD (enc a) (enc b) = true) (fun a b _ _ h1 h2 => ?_) h k ((List.perm_ext_iff_of_nodup h.nodup k.nodup).mpr m)
  have := ltD_trans h1 h2
  rw [ltD_irrefl] at this
  cases this
theorem le_lt {x y : D} (ok : kyD 8 x = true) (ok2 : kyD 8 y = true) (al : alike x.pd y.pd = true) (h : leD x y = true) (ne : x ≠ y) : ltD x y = true := by
  cases q : ltD x y with
  | true => rfl
  | false => exact absurd (ltD_eq ok ok2 al q (by unfold leD at h; simpa using h)) ne
theorem asc_of {ds : List D} (ok : SrtOk ds) (pw : ds.Pairwise fun x y => leD x y = true) (nd : ds.Nodup) : ds.Pairwise fun x y => ltD x y = true := by
  have key : ∀ l : List D, (∀ x ∈ l, x ∈ ds) → l.Pairwise (fun x y => leD x y = true) → l.Nodup → l.Pairwise fun x y => ltD x y = true := by
    intro l
    induction l with
    | nil => intro _ _ _; exact List.Pairwise.nil
    | cons x l ih =>
      intro hs hp hn
      obtain ⟨p1, p2⟩ := List.pairwise_cons.mp hp
      obtain ⟨n1, n2⟩ := List.nodup_cons.mp hn
      exact List.pairwise_cons.mpr ⟨fun y hy => le_lt (ok.ky x (hs x List.mem_cons_self)) (ok.ky y (hs y (List.mem_cons_of_mem _ hy))) (ok.al x (hs x List.mem_cons_self) y (hs y (List.mem_cons_of_mem _ hy))) (p1 y hy) (fun e => n1 (e ▸ hy)), ih (fun y hy => hs y (List.mem_cons_of_mem _ hy)) p2 n2⟩
  exact key ds (fun _ h => h) pw nd
theorem map_asc {xs : List α} (h : (xs.map enc).Pairwise fun x y => ltD x y = true) : Asc enc xs := List.pairwise_map.mp h
theorem srtU_ex (inj : ∀ a b, enc a = enc b → a = b) {xs : List α} (ok : SrtOk (xs.map enc)) : ∃ ys : List α, srtU (xs.map enc) = ys.map enc ∧ (∀ y, y ∈ ys ↔ y ∈ xs) ∧ Asc enc ys := by
  have sub : ∀ x ∈ srtU (xs.map enc), x ∈ xs.map enc := fun x hx => dst_sub ((srt_perm _).mem_iff.mp hx)
  obtain ⟨ys, e, hy⟩ := enc_of (enc := enc) (P := fun x => x ∈ xs) (srtU (xs.map enc)) fun y hm => by
    obtain ⟨x, hx, ex⟩ := List.mem_map.mp (sub y hm)
    exact ⟨x, ex.symm, hx⟩
  refine ⟨ys, e, fun y => ⟨hy y, fun h => ?_⟩, map_asc (enc := enc) ?_⟩
  · have hk : (enc y).key ∈ (srtU (xs.map enc)).map D.key := by
      have q := dst_all (ds := xs.map enc) (List.mem_map.mpr ⟨enc y, List.mem_map.mpr ⟨y, h, rfl⟩, rfl⟩)
      exact ((srt_perm (dst (xs.map enc))).map D.key).mem_iff.mpr q
    obtain ⟨z, hz, ez⟩ := List.mem_map.mp hk
    have e2 := key_inj z (enc y) 8 8 (ok.ky z (sub z hz)) (ok.ky _ (List.mem_map.mpr ⟨y, h, rfl⟩)) ez
    rw [e, e2] at hz
    obtain ⟨u, hu, eu⟩ := List.mem_map.mp hz
    rw [← inj u y eu]; exact hu
  · rw [← e]
    refine asc_of (ok.sub sub ?_) (srt_sorted _) (nodup_of_map (((srt_perm (dst (xs.map enc))).map D.key).nodup_iff.mpr (dst_nd _)))
    unfold srtU
    rw [(srt_perm _).length_eq]; exact dst_len _
theorem srt_ex (inj : ∀ a b, enc a = enc b → a = b) {xs : List α} (ok : SrtOk (xs.map enc)) (nd : xs.Nodup) : ∃ ys : List α, srt (xs.map enc) = ys.map enc ∧ (∀ y, y ∈ ys ↔ y ∈ xs) ∧ Asc enc ys := by
  have pm := srt_perm (xs.map enc)
  obtain ⟨ys, e, hy⟩ := enc_of (enc := enc) (P := fun x => x ∈ xs) (srt (xs.map enc)) fun y hm => by
    obtain ⟨x, hx, ex⟩ := List.mem_map.mp (pm.mem_iff.mp hm)
    exact ⟨x, ex.symm, hx⟩
  refine ⟨ys, e, fun y => ⟨hy y, fun h => ?_⟩, map_asc (enc := enc) ?_⟩
  · have hz : enc y ∈ srt (xs.map enc) := pm.mem_iff.mpr (List.mem_map.mpr ⟨y, h, rfl⟩)
    rw [e] at hz
    obtain ⟨u, hu, eu⟩ := List.mem_map.mp hz
    rw [← inj u y eu]; exact hu
  · rw [← e]
    refine asc_of (ok.sub (fun x hx => pm.mem_iff.mp hx) (by rw [pm.length_eq]; exact Nat.le_refl _)) (srt_sorted _) (pm.nodup_iff.mpr ?_)
    exact List.Pairwise.map _ (fun a b h e => h (inj a b e)) nd
end

theorem nodup_len {α : Type} [DecidableEq α] : ∀ (l m : List α), l.Nodup → (∀ x ∈ l, x ∈ m) → l.length ≤ m.length
  | [], _, _, _ => Nat.zero_le _
  | x :: l, m, hn, hs => by
    obtain ⟨h1, h2⟩ := List.nodup_cons.mp hn
    have hx : x ∈ m := hs x List.mem_cons_self
    have ih := nodup_len l (m.erase x) h2 fun y hy => (List.mem_erase_of_ne (fun e : y = x => h1 (by rw [← e]; exact hy))).2 (hs y (List.mem_cons_of_mem _ hy))
    have e := List.length_erase_of_mem hx
    have hp : 0 < m.length := List.length_pos_of_mem hx
    rw [List.length_cons]
    omega
theorem once {α : Type} [DecidableEq α] : ∀ xs : List α, ∃ u : List α, u.Nodup ∧ ∀ x, x ∈ u ↔ x ∈ xs
  | [] => ⟨[], List.nodup_nil, fun _ => Iff.rfl⟩
  | x :: xs => by
    obtain ⟨u, h1, h2⟩ := once xs
    by_cases hx : x ∈ u
    · refine ⟨u, h1, fun y => ⟨fun h => List.mem_cons_of_mem _ ((h2 y).mp h), fun h => ?_⟩⟩
      rcases List.mem_cons.mp h with e | h
      · rw [e]; exact hx
      · exact (h2 y).mpr h
    · exact ⟨x :: u, List.nodup_cons.mpr ⟨hx, h1⟩, fun y => by rw [List.mem_cons, List.mem_cons, h2]⟩

/-! ### least ones -/
section
variable {α : Type} [DecidableEq α] (le : α → α → Bool)
/-- y is a least one of xs -/
def mini (xs : List α) (y : α) : Bool := !((xs.filter fun x => decide (x ≠ y)).any fun x => le x y)
theorem mini_iff {xs : List α} {y : α} : mini le xs y = true ↔ ∀ x ∈ xs, le x y = true → x = y := by
  unfold mini
  rw [Bool.not_eq_true', List.any_eq_false]
  constructor
  · intro h x hx hl
    exact Classical.byContradiction fun ne => h x (List.mem_filter.mpr ⟨hx, decide_eq_true ne⟩) hl
  · intro h x hx hl
    obtain ⟨h1, h2⟩ := List.mem_filter.mp hx
    exact of_decide_eq_true h2 (h x h1 hl)
/-- what the search for least ones keeps: pre is seen, f are the least so far -/
structure Lst (P : α → Prop) (pre f : List α) : Prop where
  sub : ∀ x ∈ f, x ∈ pre
  all : ∀ x ∈ pre, ∃ y ∈ f, le y x = true
  apart : ∀ x ∈ f, ∀ y ∈ f, le x y = true → x = y
  nd : f.Nodup
variable {le} {P : α → Prop}
structure OrdOn (le : α → α → Bool) (P : α → Prop) : Prop where
  refl : ∀ x, P x → le x x = true
  trans : ∀ x y z, P x → P y → P z → le x y = true → le y z = true → le x z = true
  anti : ∀ x y, P x → P y → le x y = true → le y x = true → x = y
theorem Lst.nil : Lst le P [] [] := ⟨fun _ h => h, fun _ h => (nomatch h), fun _ h => (nomatch h), List.nodup_nil⟩
theorem Lst.skip {pre f : List α} {s : α} (h : Lst le P pre f) (a : (f.any fun l => le l s) = true) : Lst le P (pre ++ [s]) f := by
  obtain ⟨y, hy, hl⟩ := List.any_eq_true.mp a
  refine ⟨fun x hx => List.mem_append_left _ (h.sub x hx), fun x hx => ?_, h.apart, h.nd⟩
  rcases List.mem_append.mp hx with z | z
  · exact h.all x z
  · rw [List.mem_singleton.mp z]; exact ⟨y, hy, hl⟩
theorem Lst.put (O : OrdOn le P) {pre f : List α} {s : α} (h : Lst le P pre f) (hp : ∀ x ∈ pre, P x) (hs : P s) (hn : s ∉ pre) (a : (f.any fun l => le l s) = false) : Lst le P (pre ++ [s]) (f.filter (fun o => !le s o) ++ [s]) := by
  have no : ∀ y ∈ f, le y s = false := fun y hy => by
    have := List.any_eq_false.mp a y hy
    simpa using this
  refine ⟨fun x hx => ?_, fun x hx => ?_, fun x hx y hy hl => ?_, ?_⟩
  · rcases List.mem_append.mp hx with z | z
    · exact List.mem_append_left _ (h.sub x (List.mem_filter.mp z).1)
    · exact List.mem_append_right _ z
  · rcases List.mem_append.mp hx with z | z
    · obtain ⟨y, hy, hl⟩ := h.all x z
      cases q : le s y with
      | true => exact ⟨s, List.mem_append_right _ (List.mem_singleton.mpr rfl), O.trans s y x hs (hp y (h.sub y hy)) (hp x z) q hl⟩
      | false => exact ⟨y, List.mem_append_left _ (List.mem_filter.mpr ⟨hy, by rw [q]; rfl⟩), hl⟩
    · rw [List.mem_singleton.mp z]; exact ⟨s, List.mem_append_right _ (List.mem_singleton.mpr rfl), O.refl s hs⟩
  · rcases List.mem_append.mp hx with z | z
    · obtain ⟨z1, z2⟩ := List.mem_filter.mp z
      rcases List.mem_append.mp hy with u | u
      · exact h.apart x z1 y (List.mem_filter.mp u).1 hl
      · rw [List.mem_singleton.mp u, no x z1] at hl; cases hl
    · rw [List.mem_singleton.mp z] at hl ⊢
      rcases List.mem_append.mp hy with u | u
      · have := (List.mem_filter.mp u).2
        rw [hl] at this; cases this
      · exact (List.mem_singleton.mp u).symm
  · rw [List.nodup_append]
    refine ⟨h.nd.filter _, by simp, fun x hx y hy e => ?_⟩
    rw [List.mem_singleton.mp hy] at e
    rw [e] at hx
    exact hn (h.sub s (List.mem_filter.mp hx).1)
theorem Lst.mem (O : OrdOn le P) {pre f : List α} (h : Lst le P pre f) (hp : ∀ x ∈ pre, P x) (y : α) : y ∈ f ↔ y ∈ pre ∧ mini le pre y = true := by
  rw [mini_iff]
  constructor
  · intro hy
    refine ⟨h.sub y hy, fun x hx hl => ?_⟩
    obtain ⟨z, hz, hzl⟩ := h.all x hx
    have pz := hp z (h.sub z hz)
    have py := hp y (h.sub y hy)
    have e := h.apart z hz y hy (O.trans z x y pz (hp x hx) py hzl hl)
    rw [e] at hzl
    exact O.anti x y (hp x hx) py hl hzl
  · rintro ⟨hy, hm⟩
    obtain ⟨z, hz, hzl⟩ := h.all y hy
    rw [← hm z (h.sub z hz) hzl]; exact hz
end

/-! ### states -/
theorem srtOk_st (xs : List Ste) : SrtOk (xs.map stD) := srtOk_of (by
  have := okQ_st (Nat.le_refl xs.length)
  unfold okQ at this
  simp only [Bool.and_eq_true] at this
  exact this.1.1)
noncomputable def srtS (xs : List Ste) : List Ste := Classical.choose (srtU_ex (fun _ _ => stD_inj) (srtOk_st xs))
theorem srtS_eq (xs : List Ste) : srtU (xs.map stD) = (srtS xs).map stD := (Classical.choose_spec (srtU_ex (fun _ _ => stD_inj) (srtOk_st xs))).1
theorem srtS_mem (xs : List Ste) (y : Ste) : y ∈ srtS xs ↔ y ∈ xs := (Classical.choose_spec (srtU_ex (fun _ _ => stD_inj) (srtOk_st xs))).2.1 y
theorem srtS_asc (xs : List Ste) : Asc stD (srtS xs) := (Classical.choose_spec (srtU_ex (fun _ _ => stD_inj) (srtOk_st xs))).2.2
theorem asc_len {xs ys : List Ste} (h : Asc stD ys) (m : ∀ y ∈ ys, y ∈ xs) : ys.length ≤ xs.length := by
  exact nodup_len _ _ h.nodup m
theorem srtS_len (xs : List Ste) : (srtS xs).length ≤ xs.length := asc_len (srtS_asc xs) fun y h => (srtS_mem xs y).mp h
/-- the floor of xs -/
noncomputable def leastF (xs : List Ste) : List Ste := (srtS xs).filter (mini Below xs)
theorem leastF_mem (xs : List Ste) (y : Ste) : y ∈ leastF xs ↔ y ∈ xs ∧ mini Below xs y = true := by
  unfold leastF
  rw [List.mem_filter, srtS_mem]
theorem leastF_asc (xs : List Ste) : Asc stD (leastF xs) := List.Pairwise.filter _ (srtS_asc xs)
theorem leastF_len (xs : List Ste) : (leastF xs).length ≤ xs.length := asc_len (leastF_asc xs) fun y h => ((leastF_mem xs y).mp h).1
def Shd (c q : Nat) (s : Ste) : Prop := s.n.length = c ∧ s.w.length = q
theorem leAll_trans : ∀ {a b c : List Int}, a.length = b.length → b.length = c.length → leAll a b = true → leAll b c = true → leAll a c = true
  | [], _, _, _, _, _, _ => rfl
  | x :: a, [], _, h, _, _, _ => by simp at h
  | x :: a, y :: b, [], _, h, _, _ => by simp at h
  | x :: a, y :: b, z :: c, h1, h2, h3, h4 => by
    unfold leAll at *
    rw [List.zip_cons_cons, List.all_cons, Bool.and_eq_true, decide_eq_true_eq] at *
    exact ⟨Int.le_trans h3.1 h4.1, leAll_trans (by simpa using h1) (by simpa using h2) h3.2 h4.2⟩
theorem leAll_anti : ∀ {a b : List Int}, a.length = b.length → leAll a b = true → leAll b a = true → a = b
  | [], [], _, _, _ => rfl
  | x :: a, [], h, _, _ => by simp at h
  | [], y :: b, h, _, _ => by simp at h
  | x :: a, y :: b, h, h3, h4 => by
    unfold leAll at h3 h4
    rw [List.zip_cons_cons, List.all_cons, Bool.and_eq_true, decide_eq_true_eq] at h3 h4
    have e : x = y := Int.le_antisymm h3.1 h4.1
    rw [leAll_anti (by simpa using h) h3.2 h4.2, e]
theorem subAll_trans : ∀ {a b c : List (List Int)}, a.length = b.length → b.length = c.length → subAll a b = true → subAll b c = true → subAll a c = true
  | [], _, _, _, _, _, _ => rfl
  | x :: a, [], _, h, _, _, _ => by simp at h
  | x :: a, y :: b, [], _, h, _, _ => by simp at h
  | x :: a, y :: b, z :: c, h1, h2, h3, h4 => by
    unfold subAll at *
    rw [List.zip_cons_cons, List.all_cons, Bool.and_eq_true] at *
    exact ⟨sub_trans h3.1 h4.1, subAll_trans (by simpa using h1) (by simpa using h2) h3.2 h4.2⟩
theorem sub_anti {v w : List Int} (h1 : SubW v w = true) (h2 : SubW w v = true) : v = w := by
  have a := (sub_iff w v).mp h1
  have b := (sub_iff v w).mp h2
  exact a.eq_of_length_le b.length_le
theorem subAll_anti : ∀ {a b : List (List Int)}, a.length = b.length → subAll a b = true → subAll b a = true → a = b
  | [], [], _, _, _ => rfl
  | x :: a, [], h, _, _ => by simp at h
  | [], y :: b, h, _, _ => by simp at h
  | x :: a, y :: b, h, h3, h4 => by
    unfold subAll at h3 h4
    rw [List.zip_cons_cons, List.all_cons, Bool.and_eq_true] at h3 h4
    have e : x = y := sub_anti h3.1 h4.1
    rw [subAll_anti (by simpa using h) h3.2 h4.2, e]
theorem below_ord (c q : Nat) : OrdOn Below (Shd c q) where
  refl := fun x _ => below_refl x
  trans := fun x y z hx hy hz h1 h2 => by
    unfold Below at *
    simp only [Bool.and_eq_true, decide_eq_true_eq] at *
    exact ⟨⟨h1.1.1.trans h2.1.1, leAll_trans (hx.1.trans hy.1.symm) (hy.1.trans hz.1.symm) h1.1.2 h2.1.2⟩, subAll_trans (hx.2.trans hy.2.symm) (hy.2.trans hz.2.symm) h1.2 h2.2⟩
  anti := fun x y hx hy h1 h2 => by
    unfold Below at *
    simp only [Bool.and_eq_true, decide_eq_true_eq] at *
    obtain ⟨m, n, w⟩ := x
    obtain ⟨m', n', w'⟩ := y
    have e1 : m = m' := h1.1.1
    have e2 : n = n' := leAll_anti (hx.1.trans hy.1.symm) h1.1.2 h2.1.2
    have e3 : w = w' := subAll_anti (hx.2.trans hy.2.symm) h1.2 h2.2
    rw [e1, e2, e3]
/-- above the list: above its floor -/
theorem above_iff {s : Ste} {f : List Ste} : Above s f = true ↔ ∃ l ∈ f, Below l s = true := by unfold Above; exact List.any_eq_true
theorem min_under {α : Type} [DecidableEq α] {le : α → α → Bool} {P : α → Prop} (O : OrdOn le P) : ∀ {xs : List α}, (∀ x ∈ xs, P x) → ∀ x ∈ xs, ∃ y ∈ xs, le y x = true ∧ mini le xs y = true := by
  intro xs hp
  have go : ∀ l : List α, (∀ x ∈ l, x ∈ xs) → l.Nodup → ∃ f, Lst le P l.reverse f := by
    intro l
    induction l with
    | nil => intro _ _; exact ⟨[], Lst.nil⟩
    | cons s l ih =>
      intro hs hn
      obtain ⟨n1, n2⟩ := List.nodup_cons.mp hn
      obtain ⟨f, hf⟩ := ih (fun x hx => hs x (List.mem_cons_of_mem _ hx)) n2
      rw [List.reverse_cons]
      cases q : f.any fun l => le l s with
      | true => exact ⟨f, hf.skip q⟩
      | false => exact ⟨_, hf.put O (fun x hx => hp x (hs x (List.mem_cons_of_mem _ (List.mem_reverse.mp hx)))) (hp s (hs s List.mem_cons_self)) (fun h => n1 (List.mem_reverse.mp h)) q⟩
  obtain ⟨u, hu, hm⟩ := once xs
  have ed : ∀ x, x ∈ u.reverse ↔ x ∈ xs := fun x => List.mem_reverse.trans (hm x)
  obtain ⟨f, hf⟩ := go u (fun x hx => (hm x).mp hx) hu
  have mi : ∀ y, mini le u.reverse y = true → mini le xs y = true := fun y h => (mini_iff le).mpr fun x hx hl => (mini_iff le).mp h x ((ed x).mpr hx) hl
  intro x hx
  obtain ⟨y, hy, hl⟩ := hf.all x ((ed x).mpr hx)
  obtain ⟨h1, h2⟩ := (hf.mem O (fun z hz => hp z ((ed z).mp hz)) y).mp hy
  exact ⟨y, (ed y).mp h1, hl, mi y h2⟩
theorem above_least {c q : Nat} {xs : List Ste} (h : ∀ x ∈ xs, Shd c q x) {s : Ste} (hs : Shd c q s) : Above s (leastF xs) = Above s xs := by
  rw [Bool.eq_iff_iff, above_iff, above_iff]
  constructor
  · rintro ⟨l, hl, hb⟩
    exact ⟨l, ((leastF_mem xs l).mp hl).1, hb⟩
  · rintro ⟨l, hl, hb⟩
    obtain ⟨y, hy, h1, h2⟩ := min_under (below_ord c q) h l hl
    exact ⟨y, (leastF_mem xs y).mpr ⟨hy, h2⟩, (below_ord c q).trans y l s (h y hy) (h l hl) hs h1 hb⟩
/-- lists with the same states above them -/
def FloorIn (a b : List Ste) : Bool := a.all fun s => Above s b
theorem least_same {c q : Nat} {a b : List Ste} (ha : ∀ x ∈ a, Shd c q x) (hb : ∀ x ∈ b, Shd c q x) : decide (leastF a = leastF b) = (FloorIn a b && FloorIn b a) := by
  have O := below_ord c q
  have fi : ∀ {x y : List Ste}, (∀ z ∈ x, Shd c q z) → (∀ z ∈ y, Shd c q z) → leastF x = leastF y → FloorIn x y = true := fun {x y} hx hy e => by
    unfold FloorIn
    rw [List.all_eq_true]
    intro s hs
    rw [← above_least hy (hx s hs), ← e, above_least hx (hx s hs), above_iff]
    exact ⟨s, hs, O.refl s (hx s hs)⟩
  rw [Bool.eq_iff_iff, decide_eq_true_eq, Bool.and_eq_true]
  constructor
  · exact fun e => ⟨fi ha hb e, fi hb ha e.symm⟩
  · rintro ⟨h1, h2⟩
    unfold FloorIn at h1 h2
    rw [List.all_eq_true] at h1 h2
    have half : ∀ {x y : List Ste}, (∀ z ∈ x, Shd c q z) → (∀ z ∈ y, Shd c q z) → (∀ s ∈ x, Above s y = true) → (∀ s ∈ y, Above s x = true) → ∀ m ∈ leastF x, m ∈ leastF y := by
      intro x y hx hy k1 k2 m hm
      obtain ⟨m1, m2⟩ := (leastF_mem x m).mp hm
      have m2 := (mini_iff Below).mp m2
      obtain ⟨l, hl, hlb⟩ := above_iff.mp (k1 m m1)
      obtain ⟨l2, hl2, l3, l4⟩ := min_under O hy l hl
      have b1 := O.trans l2 l m (hy l2 hl2) (hy l hl) (hx m m1) l3 hlb
      obtain ⟨u, hu, hub⟩ := above_iff.mp (k2 l2 hl2)
      have b2 := O.trans u l2 m (hx u hu) (hy l2 hl2) (hx m m1) hub b1
      have e := m2 u hu b2
      rw [e] at hub
      have e2 := O.anti m l2 (hx m m1) (hy l2 hl2) hub b1
      rw [e2]
      exact (leastF_mem y l2).mpr ⟨hl2, l4⟩
    exact (leastF_asc a).one (leastF_asc b) fun z => ⟨half ha hb h1 h2 z, half hb ha h2 h1 z⟩
end U

set_option Elab.async false
set_option linter.all false
set_option maxRecDepth 100000
set_option maxHeartbeats 1000000
/-! V11: the floor's defs. -/
namespace U
open PySem PySem.Spec PyProof.Rows L2

theorem rsv_st {M : Mu} {s : Ste} : rsv M (stD s) = stD s := rfl
theorem dle_st60 (s : Ste) : dle 60 (stD s) = true := dle_st (n := 57) s
theorem lc_filt {α : Type} {i : Nat} {ft : FT} {fe : FE} {ρ : Env'} {M : Mu} {QL : List D → Mu → Prop} {enc : α → D} {xs : List α} (p : α → Bool) (G : α → D) (hl : xs.length ≤ sizeLine)
    (ht : ∀ x ∈ xs, ∀ k : Bool → Mu → Prop, k (p x) M → ft xF (ρ.set i (some (enc x))) M k)
    (he : ∀ x ∈ xs, p x = true → ∀ k : D → Mu → Prop, k (G x) M → fe xF (ρ.set i (some (enc x))) M k) (q : QL ((xs.filter p).map G) M) : LcS (bNm i) ft fe ρ (xs.map enc) M (.mk : Ky QL) := by
  refine lcS_ind (fun rest acc M' => M = M' ∧ ∃ pre suf, pre ++ suf = xs ∧ rest = suf.map enc ∧ acc = (pre.filter p).map G) ⟨rfl, [], xs, rfl, rfl, rfl⟩ ?_ ?_
  · rintro d rest acc M' ⟨rfl, pre, suf, h1, h2, rfl⟩
    cases suf with
    | nil => cases h2
    | cons x suf =>
      cases h2
      refine ⟨_, rfl, fun k hk => ?_⟩
      have hx : x ∈ xs := by rw [← h1]; simp
      have hlen : ((pre.filter p).map G).length < sizeLine := by
        have h3 := List.length_filter_le p pre
        have := congrArg List.length h1
        rw [List.length_append, List.length_cons] at this
        rw [List.length_map]; omega
      show ft xF (ρ.set i (some (enc x))) M _
      refine ht x hx _ ?_
      have e3 : pre ++ [x] ++ suf = xs := by rw [List.append_assoc]; exact h1
      cases hp : p x with
      | true => exact he x hx hp _ ⟨hlen, hk _ _ ⟨rfl, pre ++ [x], suf, e3, rfl, by rw [List.filter_append, List.filter_cons_of_pos hp, List.map_append]; rfl⟩⟩
      | false => exact hk _ _ ⟨rfl, pre ++ [x], suf, e3, rfl, by rw [List.filter_append, List.filter_cons_of_neg (by rw [hp]; exact Bool.false_ne_true)]; simp⟩
  · rintro acc M' ⟨rfl, pre, suf, h1, h2, rfl⟩
    cases suf with
    | cons => cases h2
    | nil =>
      rw [List.append_nil] at h1
      rw [h1]; exact q
/-- a loop over data that leaves the store -/
theorem forS_map {α : Type} {i0 : Nat} {f : FS} {E : FEnds} {enc : α → D} {xs : List α} {ρ : Env'} {M : Mu} (I : List α → Env' → Mu → Prop) (h0 : I [] ρ M)
    (step : ∀ pre x suf ρ M, pre ++ x :: suf = xs → I pre ρ M → ∀ nn cc : Env' → Mu → Prop, (∀ ρ M, I (pre ++ [x]) ρ M → nn ρ M) → (∀ ρ M, I (pre ++ [x]) ρ M → cc ρ M) → f { nx := nn, rt := E.rt, bk := E.nx, ct := cc, xw := E.xw } (ρ.set i0 (some (enc x))) M)
    (done : ∀ ρ M, I xs ρ M → E.nx ρ M) : ForS (bNm i0) f (xs.map enc) (.mk : Ky E) ρ M := by
  refine forS_ind (fun rest ρ M => ∃ pre suf, pre ++ suf = xs ∧ rest = suf.map enc ∧ I pre ρ M) ?_ ?_ _ _ _ ⟨[], xs, rfl, rfl, h0⟩
  · rintro d rest ρ M ⟨pre, suf, h1, h2, hI⟩
    cases suf with
    | nil => cases h2
    | cons x suf =>
      cases h2
      exact ⟨_, rfl, fun nn cc hn hc => step pre x suf ρ M h1 hI nn cc (fun ρ M h => hn _ _ ⟨pre ++ [x], suf, by rw [List.append_assoc]; exact h1, rfl, h⟩) (fun ρ M h => hc _ _ ⟨pre ++ [x], suf, by rw [List.append_assoc]; exact h1, rfl, h⟩)⟩
  · rintro ρ M ⟨pre, suf, h1, h2, hI⟩
    cases suf with
    | cons => cases h2
    | nil =>
      rw [List.append_nil] at h1
      rw [← h1] at done
      exact done ρ M hI

def N_least : List Str := ["states", "found", "state", "other"]
def f_least (S_is_above : FSpec) (S_is_below : FSpec) : FS := fThen (fSet 1 (fOfL (fLstL fNil))) (fThen (fFor (fSeq (fOfL (fSrtU (fNm 0)))) (bNm 2) (fIfS (fNot (fTr (fCall S_is_above (fCons (fNm 2) (fCons (fNm 1) fNil))))) (fSet 1 (fOp gAdd (fOfL (fLc (fSeq (fNm 1)) (bNm 3) (fNot (fTr (fCall S_is_below (fCons (fNm 2) (fCons (fNm 3) fNil))))) (fNm 3) [3])) (fOfL (fLstL (fCons (fNm 2) fNil))))) fPass)) (fRetL (fSrt (fCons (fNm 1) fNil))))
def N_is_floor_in : List Str := ["first", "second", "state"]
def f_is_floor_in (S_is_above : FSpec) : FS := fRet (fAllG (fSeqA (fNm 0)) (bNm 2) (fCall S_is_above (fCons (fNm 2) (fCons (fNm 1) fNil))) [2])
def N_union : List Str := ["first", "second"]
def f_union (S_least : LSpec) : FS := fRetL (fCallL S_least (fCons (fOp gAdd (fNm 0) (fNm 1)) fNil))
def N_is_same_floor : List Str := ["first", "second"]
def f_is_same_floor (S_is_floor_in : FSpec) : FS := fRet (fAndV (fCall S_is_floor_in (fCons (fNm 0) (fCons (fNm 1) fNil))) (fCall S_is_floor_in (fCons (fNm 1) (fCons (fNm 0) fNil))))
def N_lleast : List Str := ["_law_states_here", "_law_found", "_law_one", "_law_other"]
def f_lleast (S_lbelow : FSpec) : FS := fThen (fOwn 1 (fLstL fNil)) (fThen (fFor (fSeq (fOfL (fSrtU (fNm 0)))) (bNm 2) (fIfS (fNot (fTr (fCB gAnyL (fCons (fOfL (fLc (fSeq (fNm 0)) (bNm 3) (fB (fOp gNe (fNm 3) (fNm 2))) (fCall S_lbelow (fCons (fNm 3) (fCons (fNm 2) fNil))) [3])) fNil)))) (fExpr (fAppend (fNm 1) (fCons (fNm 2) fNil))) fPass)) (fFrz 1 (fRet (fNm 1))))

def S_least : LSpec := fun ds M Q _ => ∃ (xs : List Ste) (c q : Nat) (d : D), ds = [d] ∧ lstOf M d = some (xs.map stD) ∧ (∀ x ∈ xs, Shd c q x) ∧ xs.length ≤ 76 ∧ Q ((leastF xs).map stD) M
def S_union : LSpec := fun ds M Q _ => ∃ (a b : List Ste) (c q : Nat), ds = [.lst (a.map stD), .lst (b.map stD)] ∧ (∀ x ∈ a ++ b, Shd c q x) ∧ (a ++ b).length ≤ 76 ∧ Q ((leastF (a ++ b)).map stD) M
def S_is_floor_in : FSpec := fun ds M Q _ => ∃ (a b : List Ste) (d e : D), ds = [d, e] ∧ seqOf M d = some (a.map stD) ∧ seqOf M e = some (b.map stD) ∧ Q (.bl (FloorIn a b)) M
def S_is_same_floor : FSpec := fun ds M Q _ => ∃ (a b : List Ste) (d e : D), ds = [d, e] ∧ seqOf M d = some (a.map stD) ∧ seqOf M e = some (b.map stD) ∧ Q (.bl (FloorIn a b && FloorIn b a)) M
def S_lleast : FSpec := fun ds M Q _ => ∃ (xs : List Ste), ds = [.lst (xs.map stD)] ∧ (∀ x ∈ xs, ∀ y ∈ xs, Like x y) ∧ xs.length ≤ 76 ∧ Q (.lst ((leastF xs).map stD)) M
theorem b_least (ds : List D) (M : Mu) (Q : List D → Mu → Prop) (xw : XW) (h : S_least ds M Q xw) : bodyL N_least (f_least S_is_above S_is_below) ds M Q xw := by
  obtain ⟨xs, c, qq, d, rfl, hd, hp, hl, q⟩ := h
  have q : Q ((leastF xs).map stD) (mres M M) := by rw [mres_self]; exact q
  have hsz : sizeLine = 16777216 := rfl
  have O := below_ord c qq
  simp only [bodyE, bodyL, startD, N_least, List.map_cons, List.map_nil, List.length_cons, List.length_nil, List.replicate_succ, List.replicate_zero, List.cons_append, List.nil_append, Nat.reduceAdd, Nat.reduceSub]
  unfold f_least
  try simp -dsimp only [bodyE, startD, List.map_cons, List.map_nil, List.length_cons, List.length_nil, List.replicate_succ, List.replicate_zero, List.cons_append, List.nil_append, Nat.reduceAdd, Nat.reduceSub, List.set_cons_zero, List.set_cons_succ, List.getElem?_cons_zero, List.getElem?_cons_succ, Bool.not_true, Bool.not_false, decide_true, decide_false, ↓IfS_t, ↓IfS_f, ↓IfE_t, ↓IfE_f, ↓AndT_t, ↓AndT_f, ↓OrT_t, ↓OrT_f, ↓AndV_t, ↓AndV_f, ↓OrV_t, ↓OrV_f, IfS_t, IfS_f, IfE_t, IfE_f, AndT_t, AndT_f, OrT_t, OrT_f, AndV_t, AndV_f, OrV_t, OrV_f, ↓eThen, ↓ePass, ↓eBreak, ↓eCont, ↓eExpr, ↓eRet, ↓eRetN, ↓eIfS, ↓eSet, ↓eOwn, ↓eAsg, ↓eSetIx, ↓eGSetIx, ↓eAug, ↓eIadd, ↓eIaddL, ↓eFrz, ↓eFor, ↓eWhile, ↓eNm, ↓eC, ↓eOp, ↓eB, ↓eTr, ↓eTrB, ↓eTrI, ↓eTrN, ↓eTrT, ↓eTrL, ↓eTrA, ↓eAnd, ↓eOr, ↓eNot, ↓eAndV, ↓eOrV, ↓eNotV, ↓eIf, ↓eNil, ↓eCons, ↓eTup, ↓eOfL, ↓eLstL, ↓eListL, ↓eCatL, ↓eLc, ↓eWipe0, ↓eWipe, ↓eSeq, ↓eRng1, ↓eRng2, ↓eCall, ↓eCallL, ↓eRetL, ↓eSrt, ↓eSrtU, ↓eCB, ↓eNeg, ↓eChain, ↓eAppend, ↓ePop, ↓eNo, ↓eSome, ↓eSl, ↓eAnyG, ↓eAllG, ↓eZip, ↓eZip3, ↓gIsC_, tyN_t, tyN_l, tyN_n, tyN_b, tyN_i, seqP_t, seqP_l, ↓eEn1, ↓eEn2, ↓eSeqA, ↓ePar, ↓gAnyL_, ↓gAllL_, ↓gSumL_, boolsD_map, intsD_map, ↓gSl_t, ↓gSl_l, ↓gSl_a, ↓gAdd_i, ↓gAdd_t, ↓gAdd_s, ↓gAdd_l, ↓gI0_i, ↓gI_i, ↓gMul_i, ↓gMul_t, ↓gEq_, ↓gNe_, ↓gIs_n, ↓gIs_b, ↓gIsNot_n, ↓gIsNot_b, ↓gIn_, ↓gNotIn_, ↓gIx_t, ↓gIx_l, ↓gIx_a, ↓gLen_, ↓gLen_l, ↓gLen_a, ↓gInt_, ↓gInt_b, ↓gTuple_, ↓gTuple_l, ↓gTuple_a, ↓gMax_, ↓gMin_, ↓gIsBool_b, ↓gIsBool_i, seqOf_t, seqOf_l, seqOf_a, lstOf_l, lstOf_a, rsv_i, rsv_b, rsv_s, rsv_n, rsv_t, rsv_l, dle_i, dle_b, dle_n, eqD_i, eqD_b, isNon, bNm_, bTup_, bCons_, bNil_, Option.bind_some, i40, i41, i42, i43, atI0, atI1, atI2, atI3, atI4, atI5, mset_same, true_and, beq_self_eq_true, Bool.false_eq_true, c0, c1, Int.cast_ofNat_Int, Int.reduceEq, Int.reduceLT, Int.reduceLE, Int.reduceAdd, Int.reduceSub, ↓reduceIte, hd, okQ_st hl, srtS_eq]
  refine ⟨by decide, forS_map (fun pre ρ M' => M = M' ∧ ∃ (f : List Ste) (o2 : Option D), Lst Below (Shd c qq) pre f ∧ ρ = [some d, some (.lst (f.map stD)), o2, none]) ⟨rfl, [], none, Lst.nil, rfl⟩ ?_ ?_⟩
  · rintro pre x suf ρ M' e ⟨rfl, f, o2, hf, rfl⟩ nn cc hn hc
    have nd : (pre ++ x :: suf).Nodup := by rw [e]; exact (srtS_asc xs).nodup
    have hm : ∀ y, y ∈ pre ++ x :: suf → y ∈ xs := fun y hy => (srtS_mem xs y).mp (by rw [← e]; exact hy)
    have hpre : ∀ y ∈ pre, Shd c qq y := fun y hy => hp y (hm y (List.mem_append_left _ hy))
    have hx : Shd c qq x := hp x (hm x (List.mem_append_right _ List.mem_cons_self))
    have hnx : x ∉ pre := fun h => (List.nodup_append.mp nd).2.2 x h x List.mem_cons_self rfl
    have fl : f.length ≤ 76 := Nat.le_trans (nodup_len f xs hf.nd fun y hy => hm y (List.mem_append_left _ (hf.sub y hy))) hl
    try simp -dsimp only [bodyE, startD, List.map_cons, List.map_nil, List.length_cons, List.length_nil, List.replicate_succ, List.replicate_zero, List.cons_append, List.nil_append, Nat.reduceAdd, Nat.reduceSub, List.set_cons_zero, List.set_cons_succ, List.getElem?_cons_zero, List.getElem?_cons_succ, Bool.not_true, Bool.not_false, decide_true, decide_false, ↓IfS_t, ↓IfS_f, ↓IfE_t, ↓IfE_f, ↓AndT_t, ↓AndT_f, ↓OrT_t, ↓OrT_f, ↓AndV_t, ↓AndV_f, ↓OrV_t, ↓OrV_f, IfS_t, IfS_f, IfE_t, IfE_f, AndT_t, AndT_f, OrT_t, OrT_f, AndV_t, AndV_f, OrV_t, OrV_f, ↓eThen, ↓ePass, ↓eBreak, ↓eCont, ↓eExpr, ↓eRet, ↓eRetN, ↓eIfS, ↓eSet, ↓eOwn, ↓eAsg, ↓eSetIx, ↓eGSetIx, ↓eAug, ↓eIadd, ↓eIaddL, ↓eFrz, ↓eFor, ↓eWhile, ↓eNm, ↓eC, ↓eOp, ↓eB, ↓eTr, ↓eTrB, ↓eTrI, ↓eTrN, ↓eTrT, ↓eTrL, ↓eTrA, ↓eAnd, ↓eOr, ↓eNot, ↓eAndV, ↓eOrV, ↓eNotV, ↓eIf, ↓eNil, ↓eCons, ↓eTup, ↓eOfL, ↓eLstL, ↓eListL, ↓eCatL, ↓eLc, ↓eWipe0, ↓eWipe, ↓eSeq, ↓eRng1, ↓eRng2, ↓eCall, ↓eCallL, ↓eRetL, ↓eSrt, ↓eSrtU, ↓eCB, ↓eNeg, ↓eChain, ↓eAppend, ↓ePop, ↓eNo, ↓eSome, ↓eSl, ↓eAnyG, ↓eAllG, ↓eZip, ↓eZip3, ↓gIsC_, tyN_t, tyN_l, tyN_n, tyN_b, tyN_i, seqP_t, seqP_l, ↓eEn1, ↓eEn2, ↓eSeqA, ↓ePar, ↓gAnyL_, ↓gAllL_, ↓gSumL_, boolsD_map, intsD_map, ↓gSl_t, ↓gSl_l, ↓gSl_a, ↓gAdd_i, ↓gAdd_t, ↓gAdd_s, ↓gAdd_l, ↓gI0_i, ↓gI_i, ↓gMul_i, ↓gMul_t, ↓gEq_, ↓gNe_, ↓gIs_n, ↓gIs_b, ↓gIsNot_n, ↓gIsNot_b, ↓gIn_, ↓gNotIn_, ↓gIx_t, ↓gIx_l, ↓gIx_a, ↓gLen_, ↓gLen_l, ↓gLen_a, ↓gInt_, ↓gInt_b, ↓gTuple_, ↓gTuple_l, ↓gTuple_a, ↓gMax_, ↓gMin_, ↓gIsBool_b, ↓gIsBool_i, seqOf_t, seqOf_l, seqOf_a, lstOf_l, lstOf_a, rsv_i, rsv_b, rsv_s, rsv_n, rsv_t, rsv_l, dle_i, dle_b, dle_n, eqD_i, eqD_b, isNon, bNm_, bTup_, bCons_, bNil_, Option.bind_some, i40, i41, i42, i43, atI0, atI1, atI2, atI3, atI4, atI5, mset_same, true_and, beq_self_eq_true, Bool.false_eq_true, c0, c1, Int.cast_ofNat_Int, Int.reduceEq, Int.reduceLT, Int.reduceLE, Int.reduceAdd, Int.reduceSub, ↓reduceIte]
    refine ⟨x, f, _, rfl, rfl, ?_⟩
    cases ha : Above x f with
    | true =>
      try simp -dsimp only [bodyE, startD, List.map_cons, List.map_nil, List.length_cons, List.length_nil, List.replicate_succ, List.replicate_zero, List.cons_append, List.nil_append, Nat.reduceAdd, Nat.reduceSub, List.set_cons_zero, List.set_cons_succ, List.getElem?_cons_zero, List.getElem?_cons_succ, Bool.not_true, Bool.not_false, decide_true, decide_false, ↓IfS_t, ↓IfS_f, ↓IfE_t, ↓IfE_f, ↓AndT_t, ↓AndT_f, ↓OrT_t, ↓OrT_f, ↓AndV_t, ↓AndV_f, ↓OrV_t, ↓OrV_f, IfS_t, IfS_f, IfE_t, IfE_f, AndT_t, AndT_f, OrT_t, OrT_f, AndV_t, AndV_f, OrV_t, OrV_f, ↓eThen, ↓ePass, ↓eBreak, ↓eCont, ↓eExpr, ↓eRet, ↓eRetN, ↓eIfS, ↓eSet, ↓eOwn, ↓eAsg, ↓eSetIx, ↓eGSetIx, ↓eAug, ↓eIadd, ↓eIaddL, ↓eFrz, ↓eFor, ↓eWhile, ↓eNm, ↓eC, ↓eOp, ↓eB, ↓eTr, ↓eTrB, ↓eTrI, ↓eTrN, ↓eTrT, ↓eTrL, ↓eTrA, ↓eAnd, ↓eOr, ↓eNot, ↓eAndV, ↓eOrV, ↓eNotV, ↓eIf, ↓eNil, ↓eCons, ↓eTup, ↓eOfL, ↓eLstL, ↓eListL, ↓eCatL, ↓eLc, ↓eWipe0, ↓eWipe, ↓eSeq, ↓eRng1, ↓eRng2, ↓eCall, ↓eCallL, ↓eRetL, ↓eSrt, ↓eSrtU, ↓eCB, ↓eNeg, ↓eChain, ↓eAppend, ↓ePop, ↓eNo, ↓eSome, ↓eSl, ↓eAnyG, ↓eAllG, ↓eZip, ↓eZip3, ↓gIsC_, tyN_t, tyN_l, tyN_n, tyN_b, tyN_i, seqP_t, seqP_l, ↓eEn1, ↓eEn2, ↓eSeqA, ↓ePar, ↓gAnyL_, ↓gAllL_, ↓gSumL_, boolsD_map, intsD_map, ↓gSl_t, ↓gSl_l, ↓gSl_a, ↓gAdd_i, ↓gAdd_t, ↓gAdd_s, ↓gAdd_l, ↓gI0_i, ↓gI_i, ↓gMul_i, ↓gMul_t, ↓gEq_, ↓gNe_, ↓gIs_n, ↓gIs_b, ↓gIsNot_n, ↓gIsNot_b, ↓gIn_, ↓gNotIn_, ↓gIx_t, ↓gIx_l, ↓gIx_a, ↓gLen_, ↓gLen_l, ↓gLen_a, ↓gInt_, ↓gInt_b, ↓gTuple_, ↓gTuple_l, ↓gTuple_a, ↓gMax_, ↓gMin_, ↓gIsBool_b, ↓gIsBool_i, seqOf_t, seqOf_l, seqOf_a, lstOf_l, lstOf_a, rsv_i, rsv_b, rsv_s, rsv_n, rsv_t, rsv_l, dle_i, dle_b, dle_n, eqD_i, eqD_b, isNon, bNm_, bTup_, bCons_, bNil_, Option.bind_some, i40, i41, i42, i43, atI0, atI1, atI2, atI3, atI4, atI5, mset_same, true_and, beq_self_eq_true, Bool.false_eq_true, c0, c1, Int.cast_ofNat_Int, Int.reduceEq, Int.reduceLT, Int.reduceLE, Int.reduceAdd, Int.reduceSub, ↓reduceIte]
      exact hn _ _ ⟨rfl, f, _, hf.skip ha, rfl⟩
    | false =>
      try simp -dsimp only [bodyE, startD, List.map_cons, List.map_nil, List.length_cons, List.length_nil, List.replicate_succ, List.replicate_zero, List.cons_append, List.nil_append, Nat.reduceAdd, Nat.reduceSub, List.set_cons_zero, List.set_cons_succ, List.getElem?_cons_zero, List.getElem?_cons_succ, Bool.not_true, Bool.not_false, decide_true, decide_false, ↓IfS_t, ↓IfS_f, ↓IfE_t, ↓IfE_f, ↓AndT_t, ↓AndT_f, ↓OrT_t, ↓OrT_f, ↓AndV_t, ↓AndV_f, ↓OrV_t, ↓OrV_f, IfS_t, IfS_f, IfE_t, IfE_f, AndT_t, AndT_f, OrT_t, OrT_f, AndV_t, AndV_f, OrV_t, OrV_f, ↓eThen, ↓ePass, ↓eBreak, ↓eCont, ↓eExpr, ↓eRet, ↓eRetN, ↓eIfS, ↓eSet, ↓eOwn, ↓eAsg, ↓eSetIx, ↓eGSetIx, ↓eAug, ↓eIadd, ↓eIaddL, ↓eFrz, ↓eFor, ↓eWhile, ↓eNm, ↓eC, ↓eOp, ↓eB, ↓eTr, ↓eTrB, ↓eTrI, ↓eTrN, ↓eTrT, ↓eTrL, ↓eTrA, ↓eAnd, ↓eOr, ↓eNot, ↓eAndV, ↓eOrV, ↓eNotV, ↓eIf, ↓eNil, ↓eCons, ↓eTup, ↓eOfL, ↓eLstL, ↓eListL, ↓eCatL, ↓eLc, ↓eWipe0, ↓eWipe, ↓eSeq, ↓eRng1, ↓eRng2, ↓eCall, ↓eCallL, ↓eRetL, ↓eSrt, ↓eSrtU, ↓eCB, ↓eNeg, ↓eChain, ↓eAppend, ↓ePop, ↓eNo, ↓eSome, ↓eSl, ↓eAnyG, ↓eAllG, ↓eZip, ↓eZip3, ↓gIsC_, tyN_t, tyN_l, tyN_n, tyN_b, tyN_i, seqP_t, seqP_l, ↓eEn1, ↓eEn2, ↓eSeqA, ↓ePar, ↓gAnyL_, ↓gAllL_, ↓gSumL_, boolsD_map, intsD_map, ↓gSl_t, ↓gSl_l, ↓gSl_a, ↓gAdd_i, ↓gAdd_t, ↓gAdd_s, ↓gAdd_l, ↓gI0_i, ↓gI_i, ↓gMul_i, ↓gMul_t, ↓gEq_, ↓gNe_, ↓gIs_n, ↓gIs_b, ↓gIsNot_n, ↓gIsNot_b, ↓gIn_, ↓gNotIn_, ↓gIx_t, ↓gIx_l, ↓gIx_a, ↓gLen_, ↓gLen_l, ↓gLen_a, ↓gInt_, ↓gInt_b, ↓gTuple_, ↓gTuple_l, ↓gTuple_a, ↓gMax_, ↓gMin_, ↓gIsBool_b, ↓gIsBool_i, seqOf_t, seqOf_l, seqOf_a, lstOf_l, lstOf_a, rsv_i, rsv_b, rsv_s, rsv_n, rsv_t, rsv_l, dle_i, dle_b, dle_n, eqD_i, eqD_b, isNon, bNm_, bTup_, bCons_, bNil_, Option.bind_some, i40, i41, i42, i43, atI0, atI1, atI2, atI3, atI4, atI5, mset_same, true_and, beq_self_eq_true, Bool.false_eq_true, c0, c1, Int.cast_ofNat_Int, Int.reduceEq, Int.reduceLT, Int.reduceLE, Int.reduceAdd, Int.reduceSub, ↓reduceIte]
      refine lc_filt (fun o => !Below x o) stD (by omega) (fun o ho k hk => ?_) (fun o ho _ k hk => ?_) ?_
      · try simp -dsimp only [bodyE, startD, List.map_cons, List.map_nil, List.length_cons, List.length_nil, List.replicate_succ, List.replicate_zero, List.cons_append, List.nil_append, Nat.reduceAdd, Nat.reduceSub, List.set_cons_zero, List.set_cons_succ, List.getElem?_cons_zero, List.getElem?_cons_succ, Bool.not_true, Bool.not_false, decide_true, decide_false, ↓IfS_t, ↓IfS_f, ↓IfE_t, ↓IfE_f, ↓AndT_t, ↓AndT_f, ↓OrT_t, ↓OrT_f, ↓AndV_t, ↓AndV_f, ↓OrV_t, ↓OrV_f, IfS_t, IfS_f, IfE_t, IfE_f, AndT_t, AndT_f, OrT_t, OrT_f, AndV_t, AndV_f, OrV_t, OrV_f, ↓eThen, ↓ePass, ↓eBreak, ↓eCont, ↓eExpr, ↓eRet, ↓eRetN, ↓eIfS, ↓eSet, ↓eOwn, ↓eAsg, ↓eSetIx, ↓eGSetIx, ↓eAug, ↓eIadd, ↓eIaddL, ↓eFrz, ↓eFor, ↓eWhile, ↓eNm, ↓eC, ↓eOp, ↓eB, ↓eTr, ↓eTrB, ↓eTrI, ↓eTrN, ↓eTrT, ↓eTrL, ↓eTrA, ↓eAnd, ↓eOr, ↓eNot, ↓eAndV, ↓eOrV, ↓eNotV, ↓eIf, ↓eNil, ↓eCons, ↓eTup, ↓eOfL, ↓eLstL, ↓eListL, ↓eCatL, ↓eLc, ↓eWipe0, ↓eWipe, ↓eSeq, ↓eRng1, ↓eRng2, ↓eCall, ↓eCallL, ↓eRetL, ↓eSrt, ↓eSrtU, ↓eCB, ↓eNeg, ↓eChain, ↓eAppend, ↓ePop, ↓eNo, ↓eSome, ↓eSl, ↓eAnyG, ↓eAllG, ↓eZip, ↓eZip3, ↓gIsC_, tyN_t, tyN_l, tyN_n, tyN_b, tyN_i, seqP_t, seqP_l, ↓eEn1, ↓eEn2, ↓eSeqA, ↓ePar, ↓gAnyL_, ↓gAllL_, ↓gSumL_, boolsD_map, intsD_map, ↓gSl_t, ↓gSl_l, ↓gSl_a, ↓gAdd_i, ↓gAdd_t, ↓gAdd_s, ↓gAdd_l, ↓gI0_i, ↓gI_i, ↓gMul_i, ↓gMul_t, ↓gEq_, ↓gNe_, ↓gIs_n, ↓gIs_b, ↓gIsNot_n, ↓gIsNot_b, ↓gIn_, ↓gNotIn_, ↓gIx_t, ↓gIx_l, ↓gIx_a, ↓gLen_, ↓gLen_l, ↓gLen_a, ↓gInt_, ↓gInt_b, ↓gTuple_, ↓gTuple_l, ↓gTuple_a, ↓gMax_, ↓gMin_, ↓gIsBool_b, ↓gIsBool_i, seqOf_t, seqOf_l, seqOf_a, lstOf_l, lstOf_a, rsv_i, rsv_b, rsv_s, rsv_n, rsv_t, rsv_l, dle_i, dle_b, dle_n, eqD_i, eqD_b, isNon, bNm_, bTup_, bCons_, bNil_, Option.bind_some, i40, i41, i42, i43, atI0, atI1, atI2, atI3, atI4, atI5, mset_same, true_and, beq_self_eq_true, Bool.false_eq_true, c0, c1, Int.cast_ofNat_Int, Int.reduceEq, Int.reduceLT, Int.reduceLE, Int.reduceAdd, Int.reduceSub, ↓reduceIte]
        exact ⟨x, o, rfl, by try simp -dsimp only [bodyE, startD, List.map_cons, List.map_nil, List.length_cons, List.length_nil, List.replicate_succ, List.replicate_zero, List.cons_append, List.nil_append, Nat.reduceAdd, Nat.reduceSub, List.set_cons_zero, List.set_cons_succ, List.getElem?_cons_zero, List.getElem?_cons_succ, Bool.not_true, Bool.not_false, decide_true, decide_false, ↓IfS_t, ↓IfS_f, ↓IfE_t, ↓IfE_f, ↓AndT_t, ↓AndT_f, ↓OrT_t, ↓OrT_f, ↓AndV_t, ↓AndV_f, ↓OrV_t, ↓OrV_f, IfS_t, IfS_f, IfE_t, IfE_f, AndT_t, AndT_f, OrT_t, OrT_f, AndV_t, AndV_f, OrV_t, OrV_f, ↓eThen, ↓ePass, ↓eBreak, ↓eCont, ↓eExpr, ↓eRet, ↓eRetN, ↓eIfS, ↓eSet, ↓eOwn, ↓eAsg, ↓eSetIx, ↓eGSetIx, ↓eAug, ↓eIadd, ↓eIaddL, ↓eFrz, ↓eFor, ↓eWhile, ↓eNm, ↓eC, ↓eOp, ↓eB, ↓eTr, ↓eTrB, ↓eTrI, ↓eTrN, ↓eTrT, ↓eTrL, ↓eTrA, ↓eAnd, ↓eOr, ↓eNot, ↓eAndV, ↓eOrV, ↓eNotV, ↓eIf, ↓eNil, ↓eCons, ↓eTup, ↓eOfL, ↓eLstL, ↓eListL, ↓eCatL, ↓eLc, ↓eWipe0, ↓eWipe, ↓eSeq, ↓eRng1, ↓eRng2, ↓eCall, ↓eCallL, ↓eRetL, ↓eSrt, ↓eSrtU, ↓eCB, ↓eNeg, ↓eChain, ↓eAppend, ↓ePop, ↓eNo, ↓eSome, ↓eSl, ↓eAnyG, ↓eAllG, ↓eZip, ↓eZip3, ↓gIsC_, tyN_t, tyN_l, tyN_n, tyN_b, tyN_i, seqP_t, seqP_l, ↓eEn1, ↓eEn2, ↓eSeqA, ↓ePar, ↓gAnyL_, ↓gAllL_, ↓gSumL_, boolsD_map, intsD_map, ↓gSl_t, ↓gSl_l, ↓gSl_a, ↓gAdd_i, ↓gAdd_t, ↓gAdd_s, ↓gAdd_l, ↓gI0_i, ↓gI_i, ↓gMul_i, ↓gMul_t, ↓gEq_, ↓gNe_, ↓gIs_n, ↓gIs_b, ↓gIsNot_n, ↓gIsNot_b, ↓gIn_, ↓gNotIn_, ↓gIx_t, ↓gIx_l, ↓gIx_a, ↓gLen_, ↓gLen_l, ↓gLen_a, ↓gInt_, ↓gInt_b, ↓gTuple_, ↓gTuple_l, ↓gTuple_a, ↓gMax_, ↓gMin_, ↓gIsBool_b, ↓gIsBool_i, seqOf_t, seqOf_l, seqOf_a, lstOf_l, lstOf_a, rsv_i, rsv_b, rsv_s, rsv_n, rsv_t, rsv_l, dle_i, dle_b, dle_n, eqD_i, eqD_b, isNon, bNm_, bTup_, bCons_, bNil_, Option.bind_some, i40, i41, i42, i43, atI0, atI1, atI2, atI3, atI4, atI5, mset_same, true_and, beq_self_eq_true, Bool.false_eq_true, c0, c1, Int.cast_ofNat_Int, Int.reduceEq, Int.reduceLT, Int.reduceLE, Int.reduceAdd, Int.reduceSub, ↓reduceIte]; exact hk⟩
      · try simp -dsimp only [bodyE, startD, List.map_cons, List.map_nil, List.length_cons, List.length_nil, List.replicate_succ, List.replicate_zero, List.cons_append, List.nil_append, Nat.reduceAdd, Nat.reduceSub, List.set_cons_zero, List.set_cons_succ, List.getElem?_cons_zero, List.getElem?_cons_succ, Bool.not_true, Bool.not_false, decide_true, decide_false, ↓IfS_t, ↓IfS_f, ↓IfE_t, ↓IfE_f, ↓AndT_t, ↓AndT_f, ↓OrT_t, ↓OrT_f, ↓AndV_t, ↓AndV_f, ↓OrV_t, ↓OrV_f, IfS_t, IfS_f, IfE_t, IfE_f, AndT_t, AndT_f, OrT_t, OrT_f, AndV_t, AndV_f, OrV_t, OrV_f, ↓eThen, ↓ePass, ↓eBreak, ↓eCont, ↓eExpr, ↓eRet, ↓eRetN, ↓eIfS, ↓eSet, ↓eOwn, ↓eAsg, ↓eSetIx, ↓eGSetIx, ↓eAug, ↓eIadd, ↓eIaddL, ↓eFrz, ↓eFor, ↓eWhile, ↓eNm, ↓eC, ↓eOp, ↓eB, ↓eTr, ↓eTrB, ↓eTrI, ↓eTrN, ↓eTrT, ↓eTrL, ↓eTrA, ↓eAnd, ↓eOr, ↓eNot, ↓eAndV, ↓eOrV, ↓eNotV, ↓eIf, ↓eNil, ↓eCons, ↓eTup, ↓eOfL, ↓eLstL, ↓eListL, ↓eCatL, ↓eLc, ↓eWipe0, ↓eWipe, ↓eSeq, ↓eRng1, ↓eRng2, ↓eCall, ↓eCallL, ↓eRetL, ↓eSrt, ↓eSrtU, ↓eCB, ↓eNeg, ↓eChain, ↓eAppend, ↓ePop, ↓eNo, ↓eSome, ↓eSl, ↓eAnyG, ↓eAllG, ↓eZip, ↓eZip3, ↓gIsC_, tyN_t, tyN_l, tyN_n, tyN_b, tyN_i, seqP_t, seqP_l, ↓eEn1, ↓eEn2, ↓eSeqA, ↓ePar, ↓gAnyL_, ↓gAllL_, ↓gSumL_, boolsD_map, intsD_map, ↓gSl_t, ↓gSl_l, ↓gSl_a, ↓gAdd_i, ↓gAdd_t, ↓gAdd_s, ↓gAdd_l, ↓gI0_i, ↓gI_i, ↓gMul_i, ↓gMul_t, ↓gEq_, ↓gNe_, ↓gIs_n, ↓gIs_b, ↓gIsNot_n, ↓gIsNot_b, ↓gIn_, ↓gNotIn_, ↓gIx_t, ↓gIx_l, ↓gIx_a, ↓gLen_, ↓gLen_l, ↓gLen_a, ↓gInt_, ↓gInt_b, ↓gTuple_, ↓gTuple_l, ↓gTuple_a, ↓gMax_, ↓gMin_, ↓gIsBool_b, ↓gIsBool_i, seqOf_t, seqOf_l, seqOf_a, lstOf_l, lstOf_a, rsv_i, rsv_b, rsv_s, rsv_n, rsv_t, rsv_l, dle_i, dle_b, dle_n, eqD_i, eqD_b, isNon, bNm_, bTup_, bCons_, bNil_, Option.bind_some, i40, i41, i42, i43, atI0, atI1, atI2, atI3, atI4, atI5, mset_same, true_and, beq_self_eq_true, Bool.false_eq_true, c0, c1, Int.cast_ofNat_Int, Int.reduceEq, Int.reduceLT, Int.reduceLE, Int.reduceAdd, Int.reduceSub, ↓reduceIte]
        exact hk
      · try simp -dsimp only [bodyE, startD, List.map_cons, List.map_nil, List.length_cons, List.length_nil, List.replicate_succ, List.replicate_zero, List.cons_append, List.nil_append, Nat.reduceAdd, Nat.reduceSub, List.set_cons_zero, List.set_cons_succ, List.getElem?_cons_zero, List.getElem?_cons_succ, Bool.not_true, Bool.not_false, decide_true, decide_false, ↓IfS_t, ↓IfS_f, ↓IfE_t, ↓IfE_f, ↓AndT_t, ↓AndT_f, ↓OrT_t, ↓OrT_f, ↓AndV_t, ↓AndV_f, ↓OrV_t, ↓OrV_f, IfS_t, IfS_f, IfE_t, IfE_f, AndT_t, AndT_f, OrT_t, OrT_f, AndV_t, AndV_f, OrV_t, OrV_f, ↓eThen, ↓ePass, ↓eBreak, ↓eCont, ↓eExpr, ↓eRet, ↓eRetN, ↓eIfS, ↓eSet, ↓eOwn, ↓eAsg, ↓eSetIx, ↓eGSetIx, ↓eAug, ↓eIadd, ↓eIaddL, ↓eFrz, ↓eFor, ↓eWhile, ↓eNm, ↓eC, ↓eOp, ↓eB, ↓eTr, ↓eTrB, ↓eTrI, ↓eTrN, ↓eTrT, ↓eTrL, ↓eTrA, ↓eAnd, ↓eOr, ↓eNot, ↓eAndV, ↓eOrV, ↓eNotV, ↓eIf, ↓eNil, ↓eCons, ↓eTup, ↓eOfL, ↓eLstL, ↓eListL, ↓eCatL, ↓eLc, ↓eWipe0, ↓eWipe, ↓eSeq, ↓eRng1, ↓eRng2, ↓eCall, ↓eCallL, ↓eRetL, ↓eSrt, ↓eSrtU, ↓eCB, ↓eNeg, ↓eChain, ↓eAppend, ↓ePop, ↓eNo, ↓eSome, ↓eSl, ↓eAnyG, ↓eAllG, ↓eZip, ↓eZip3, ↓gIsC_, tyN_t, tyN_l, tyN_n, tyN_b, tyN_i, seqP_t, seqP_l, ↓eEn1, ↓eEn2, ↓eSeqA, ↓ePar, ↓gAnyL_, ↓gAllL_, ↓gSumL_, boolsD_map, intsD_map, ↓gSl_t, ↓gSl_l, ↓gSl_a, ↓gAdd_i, ↓gAdd_t, ↓gAdd_s, ↓gAdd_l, ↓gI0_i, ↓gI_i, ↓gMul_i, ↓gMul_t, ↓gEq_, ↓gNe_, ↓gIs_n, ↓gIs_b, ↓gIsNot_n, ↓gIsNot_b, ↓gIn_, ↓gNotIn_, ↓gIx_t, ↓gIx_l, ↓gIx_a, ↓gLen_, ↓gLen_l, ↓gLen_a, ↓gInt_, ↓gInt_b, ↓gTuple_, ↓gTuple_l, ↓gTuple_a, ↓gMax_, ↓gMin_, ↓gIsBool_b, ↓gIsBool_i, seqOf_t, seqOf_l, seqOf_a, lstOf_l, lstOf_a, rsv_i, rsv_b, rsv_s, rsv_n, rsv_t, rsv_l, dle_i, dle_b, dle_n, eqD_i, eqD_b, isNon, bNm_, bTup_, bCons_, bNil_, Option.bind_some, i40, i41, i42, i43, atI0, atI1, atI2, atI3, atI4, atI5, mset_same, true_and, beq_self_eq_true, Bool.false_eq_true, c0, c1, Int.cast_ofNat_Int, Int.reduceEq, Int.reduceLT, Int.reduceLE, Int.reduceAdd, Int.reduceSub, ↓reduceIte, List.length_map]
        refine ⟨by decide, by have := List.length_filter_le (fun o => !Below x o) f; omega, ?_⟩
        refine hn _ _ ⟨rfl, _, some (stD x), hf.put O hpre hx hnx ha, ?_⟩
        rw [List.map_append]; rfl
  · rintro ρ M' ⟨rfl, f, o2, hf, rfl⟩
    have hs : ∀ y ∈ srtS xs, Shd c qq y := fun y hy => hp y ((srtS_mem xs y).mp hy)
    have fl : f.length ≤ 76 := Nat.le_trans (nodup_len f xs hf.nd fun y hy => (srtS_mem xs y).mp (hf.sub y hy)) hl
    have ef : srt (f.map stD) = (leastF xs).map stD := by
      obtain ⟨ys, e, h1, h2⟩ := srt_ex (fun _ _ => stD_inj) (srtOk_st f) hf.nd
      rw [e]
      congr 1
      refine h2.one (leastF_asc xs) fun y => ?_
      rw [h1, hf.mem O hs y, leastF_mem, srtS_mem]
      have em : mini Below (srtS xs) y = mini Below xs y := by
        rw [Bool.eq_iff_iff, mini_iff, mini_iff]
        exact ⟨fun k x hx => k x ((srtS_mem xs x).mpr hx), fun k x hx => k x ((srtS_mem xs x).mp hx)⟩
      rw [em]
    try simp -dsimp only [bodyE, startD, List.map_cons, List.map_nil, List.length_cons, List.length_nil, List.replicate_succ, List.replicate_zero, List.cons_append, List.nil_append, Nat.reduceAdd, Nat.reduceSub, List.set_cons_zero, List.set_cons_succ, List.getElem?_cons_zero, List.getElem?_cons_succ, Bool.not_true, Bool.not_false, decide_true, decide_false, ↓IfS_t, ↓IfS_f, ↓IfE_t, ↓IfE_f, ↓AndT_t, ↓AndT_f, ↓OrT_t, ↓OrT_f, ↓AndV_t, ↓AndV_f, ↓OrV_t, ↓OrV_f, IfS_t, IfS_f, IfE_t, IfE_f, AndT_t, AndT_f, OrT_t, OrT_f, AndV_t, AndV_f, OrV_t, OrV_f, ↓eThen, ↓ePass, ↓eBreak, ↓eCont, ↓eExpr, ↓eRet, ↓eRetN, ↓eIfS, ↓eSet, ↓eOwn, ↓eAsg, ↓eSetIx, ↓eGSetIx, ↓eAug, ↓eIadd, ↓eIaddL, ↓eFrz, ↓eFor, ↓eWhile, ↓eNm, ↓eC, ↓eOp, ↓eB, ↓eTr, ↓eTrB, ↓eTrI, ↓eTrN, ↓eTrT, ↓eTrL, ↓eTrA, ↓eAnd, ↓eOr, ↓eNot, ↓eAndV, ↓eOrV, ↓eNotV, ↓eIf, ↓eNil, ↓eCons, ↓eTup, ↓eOfL, ↓eLstL, ↓eListL, ↓eCatL, ↓eLc, ↓eWipe0, ↓eWipe, ↓eSeq, ↓eRng1, ↓eRng2, ↓eCall, ↓eCallL, ↓eRetL, ↓eSrt, ↓eSrtU, ↓eCB, ↓eNeg, ↓eChain, ↓eAppend, ↓ePop, ↓eNo, ↓eSome, ↓eSl, ↓eAnyG, ↓eAllG, ↓eZip, ↓eZip3, ↓gIsC_, tyN_t, tyN_l, tyN_n, tyN_b, tyN_i, seqP_t, seqP_l, ↓eEn1, ↓eEn2, ↓eSeqA, ↓ePar, ↓gAnyL_, ↓gAllL_, ↓gSumL_, boolsD_map, intsD_map, ↓gSl_t, ↓gSl_l, ↓gSl_a, ↓gAdd_i, ↓gAdd_t, ↓gAdd_s, ↓gAdd_l, ↓gI0_i, ↓gI_i, ↓gMul_i, ↓gMul_t, ↓gEq_, ↓gNe_, ↓gIs_n, ↓gIs_b, ↓gIsNot_n, ↓gIsNot_b, ↓gIn_, ↓gNotIn_, ↓gIx_t, ↓gIx_l, ↓gIx_a, ↓gLen_, ↓gLen_l, ↓gLen_a, ↓gInt_, ↓gInt_b, ↓gTuple_, ↓gTuple_l, ↓gTuple_a, ↓gMax_, ↓gMin_, ↓gIsBool_b, ↓gIsBool_i, seqOf_t, seqOf_l, seqOf_a, lstOf_l, lstOf_a, rsv_i, rsv_b, rsv_s, rsv_n, rsv_t, rsv_l, dle_i, dle_b, dle_n, eqD_i, eqD_b, isNon, bNm_, bTup_, bCons_, bNil_, Option.bind_some, i40, i41, i42, i43, atI0, atI1, atI2, atI3, atI4, atI5, mset_same, true_and, beq_self_eq_true, Bool.false_eq_true, c0, c1, Int.cast_ofNat_Int, Int.reduceEq, Int.reduceLT, Int.reduceLE, Int.reduceAdd, Int.reduceSub, ↓reduceIte, okQ_st (n := 1000) (Nat.le_trans fl (by decide)), ef]
    exact fun p h1 h2 => retL_ok q p h2 h1
theorem b_is_floor_in (ds : List D) (M : Mu) (Q : D → Mu → Prop) (xw : XW) (h : S_is_floor_in ds M Q xw) : bodyE N_is_floor_in (f_is_floor_in S_is_above) ds M Q xw := by
  obtain ⟨a, b, d, e, rfl, hd, he, q⟩ := h
  have q : Q (.bl (FloorIn a b)) (mres M M) := by rw [mres_self]; exact q
  simp only [bodyE, bodyL, startD, N_is_floor_in, List.map_cons, List.map_nil, List.length_cons, List.length_nil, List.replicate_succ, List.replicate_zero, List.cons_append, List.nil_append, Nat.reduceAdd, Nat.reduceSub]
  unfold f_is_floor_in
  try simp -dsimp only [bodyE, startD, List.map_cons, List.map_nil, List.length_cons, List.length_nil, List.replicate_succ, List.replicate_zero, List.cons_append, List.nil_append, Nat.reduceAdd, Nat.reduceSub, List.set_cons_zero, List.set_cons_succ, List.getElem?_cons_zero, List.getElem?_cons_succ, Bool.not_true, Bool.not_false, decide_true, decide_false, ↓IfS_t, ↓IfS_f, ↓IfE_t, ↓IfE_f, ↓AndT_t, ↓AndT_f, ↓OrT_t, ↓OrT_f, ↓AndV_t, ↓AndV_f, ↓OrV_t, ↓OrV_f, IfS_t, IfS_f, IfE_t, IfE_f, AndT_t, AndT_f, OrT_t, OrT_f, AndV_t, AndV_f, OrV_t, OrV_f, ↓eThen, ↓ePass, ↓eBreak, ↓eCont, ↓eExpr, ↓eRet, ↓eRetN, ↓eIfS, ↓eSet, ↓eOwn, ↓eAsg, ↓eSetIx, ↓eGSetIx, ↓eAug, ↓eIadd, ↓eIaddL, ↓eFrz, ↓eFor, ↓eWhile, ↓eNm, ↓eC, ↓eOp, ↓eB, ↓eTr, ↓eTrB, ↓eTrI, ↓eTrN, ↓eTrT, ↓eTrL, ↓eTrA, ↓eAnd, ↓eOr, ↓eNot, ↓eAndV, ↓eOrV, ↓eNotV, ↓eIf, ↓eNil, ↓eCons, ↓eTup, ↓eOfL, ↓eLstL, ↓eListL, ↓eCatL, ↓eLc, ↓eWipe0, ↓eWipe, ↓eSeq, ↓eRng1, ↓eRng2, ↓eCall, ↓eCallL, ↓eRetL, ↓eSrt, ↓eSrtU, ↓eCB, ↓eNeg, ↓eChain, ↓eAppend, ↓ePop, ↓eNo, ↓eSome, ↓eSl, ↓eAnyG, ↓eAllG, ↓eZip, ↓eZip3, ↓gIsC_, tyN_t, tyN_l, tyN_n, tyN_b, tyN_i, seqP_t, seqP_l, ↓eEn1, ↓eEn2, ↓eSeqA, ↓ePar, ↓gAnyL_, ↓gAllL_, ↓gSumL_, boolsD_map, intsD_map, ↓gSl_t, ↓gSl_l, ↓gSl_a, ↓gAdd_i, ↓gAdd_t, ↓gAdd_s, ↓gAdd_l, ↓gI0_i, ↓gI_i, ↓gMul_i, ↓gMul_t, ↓gEq_, ↓gNe_, ↓gIs_n, ↓gIs_b, ↓gIsNot_n, ↓gIsNot_b, ↓gIn_, ↓gNotIn_, ↓gIx_t, ↓gIx_l, ↓gIx_a, ↓gLen_, ↓gLen_l, ↓gLen_a, ↓gInt_, ↓gInt_b, ↓gTuple_, ↓gTuple_l, ↓gTuple_a, ↓gMax_, ↓gMin_, ↓gIsBool_b, ↓gIsBool_i, seqOf_t, seqOf_l, seqOf_a, lstOf_l, lstOf_a, rsv_i, rsv_b, rsv_s, rsv_n, rsv_t, rsv_l, dle_i, dle_b, dle_n, eqD_i, eqD_b, isNon, bNm_, bTup_, bCons_, bNil_, Option.bind_some, i40, i41, i42, i43, atI0, atI1, atI2, atI3, atI4, atI5, mset_same, true_and, beq_self_eq_true, Bool.false_eq_true, c0, c1, Int.cast_ofNat_Int, Int.reduceEq, Int.reduceLT, Int.reduceLE, Int.reduceAdd, Int.reduceSub, ↓reduceIte, hd]
  refine genS_map (fun s : Ste => Above s b) (fun p _ => ⟨_, rfl, fun Q hq => ?_⟩) ?_
  · try simp -dsimp only [bodyE, startD, List.map_cons, List.map_nil, List.length_cons, List.length_nil, List.replicate_succ, List.replicate_zero, List.cons_append, List.nil_append, Nat.reduceAdd, Nat.reduceSub, List.set_cons_zero, List.set_cons_succ, List.getElem?_cons_zero, List.getElem?_cons_succ, Bool.not_true, Bool.not_false, decide_true, decide_false, ↓IfS_t, ↓IfS_f, ↓IfE_t, ↓IfE_f, ↓AndT_t, ↓AndT_f, ↓OrT_t, ↓OrT_f, ↓AndV_t, ↓AndV_f, ↓OrV_t, ↓OrV_f, IfS_t, IfS_f, IfE_t, IfE_f, AndT_t, AndT_f, OrT_t, OrT_f, AndV_t, AndV_f, OrV_t, OrV_f, ↓eThen, ↓ePass, ↓eBreak, ↓eCont, ↓eExpr, ↓eRet, ↓eRetN, ↓eIfS, ↓eSet, ↓eOwn, ↓eAsg, ↓eSetIx, ↓eGSetIx, ↓eAug, ↓eIadd, ↓eIaddL, ↓eFrz, ↓eFor, ↓eWhile, ↓eNm, ↓eC, ↓eOp, ↓eB, ↓eTr, ↓eTrB, ↓eTrI, ↓eTrN, ↓eTrT, ↓eTrL, ↓eTrA, ↓eAnd, ↓eOr, ↓eNot, ↓eAndV, ↓eOrV, ↓eNotV, ↓eIf, ↓eNil, ↓eCons, ↓eTup, ↓eOfL, ↓eLstL, ↓eListL, ↓eCatL, ↓eLc, ↓eWipe0, ↓eWipe, ↓eSeq, ↓eRng1, ↓eRng2, ↓eCall, ↓eCallL, ↓eRetL, ↓eSrt, ↓eSrtU, ↓eCB, ↓eNeg, ↓eChain, ↓eAppend, ↓ePop, ↓eNo, ↓eSome, ↓eSl, ↓eAnyG, ↓eAllG, ↓eZip, ↓eZip3, ↓gIsC_, tyN_t, tyN_l, tyN_n, tyN_b, tyN_i, seqP_t, seqP_l, ↓eEn1, ↓eEn2, ↓eSeqA, ↓ePar, ↓gAnyL_, ↓gAllL_, ↓gSumL_, boolsD_map, intsD_map, ↓gSl_t, ↓gSl_l, ↓gSl_a, ↓gAdd_i, ↓gAdd_t, ↓gAdd_s, ↓gAdd_l, ↓gI0_i, ↓gI_i, ↓gMul_i, ↓gMul_t, ↓gEq_, ↓gNe_, ↓gIs_n, ↓gIs_b, ↓gIsNot_n, ↓gIsNot_b, ↓gIn_, ↓gNotIn_, ↓gIx_t, ↓gIx_l, ↓gIx_a, ↓gLen_, ↓gLen_l, ↓gLen_a, ↓gInt_, ↓gInt_b, ↓gTuple_, ↓gTuple_l, ↓gTuple_a, ↓gMax_, ↓gMin_, ↓gIsBool_b, ↓gIsBool_i, seqOf_t, seqOf_l, seqOf_a, lstOf_l, lstOf_a, rsv_i, rsv_b, rsv_s, rsv_n, rsv_t, rsv_l, dle_i, dle_b, dle_n, eqD_i, eqD_b, isNon, bNm_, bTup_, bCons_, bNil_, Option.bind_some, i40, i41, i42, i43, atI0, atI1, atI2, atI3, atI4, atI5, mset_same, true_and, beq_self_eq_true, Bool.false_eq_true, c0, c1, Int.cast_ofNat_Int, Int.reduceEq, Int.reduceLT, Int.reduceLE, Int.reduceAdd, Int.reduceSub, ↓reduceIte]
    exact ⟨p, b, e, rfl, he, hq⟩
  · rw [all_map_id]
    exact q
theorem b_is_same_floor (ds : List D) (M : Mu) (Q : D → Mu → Prop) (xw : XW) (h : S_is_same_floor ds M Q xw) : bodyE N_is_same_floor (f_is_same_floor S_is_floor_in) ds M Q xw := by
  obtain ⟨a, b, d, e, rfl, hd, he, q⟩ := h
  have q : Q (.bl (FloorIn a b && FloorIn b a)) (mres M M) := by rw [mres_self]; exact q
  simp only [bodyE, bodyL, startD, N_is_same_floor, List.map_cons, List.map_nil, List.length_cons, List.length_nil, List.replicate_succ, List.replicate_zero, List.cons_append, List.nil_append, Nat.reduceAdd, Nat.reduceSub]
  unfold f_is_same_floor
  try simp -dsimp only [bodyE, startD, List.map_cons, List.map_nil, List.length_cons, List.length_nil, List.replicate_succ, List.replicate_zero, List.cons_append, List.nil_append, Nat.reduceAdd, Nat.reduceSub, List.set_cons_zero, List.set_cons_succ, List.getElem?_cons_zero, List.getElem?_cons_succ, Bool.not_true, Bool.not_false, decide_true, decide_false, ↓IfS_t, ↓IfS_f, ↓IfE_t, ↓IfE_f, ↓AndT_t, ↓AndT_f, ↓OrT_t, ↓OrT_f, ↓AndV_t, ↓AndV_f, ↓OrV_t, ↓OrV_f, IfS_t, IfS_f, IfE_t, IfE_f, AndT_t, AndT_f, OrT_t, OrT_f, AndV_t, AndV_f, OrV_t, OrV_f, ↓eThen, ↓ePass, ↓eBreak, ↓eCont, ↓eExpr, ↓eRet, ↓eRetN, ↓eIfS, ↓eSet, ↓eOwn, ↓eAsg, ↓eSetIx, ↓eGSetIx, ↓eAug, ↓eIadd, ↓eIaddL, ↓eFrz, ↓eFor, ↓eWhile, ↓eNm, ↓eC, ↓eOp, ↓eB, ↓eTr, ↓eTrB, ↓eTrI, ↓eTrN, ↓eTrT, ↓eTrL, ↓eTrA, ↓eAnd, ↓eOr, ↓eNot, ↓eAndV, ↓eOrV, ↓eNotV, ↓eIf, ↓eNil, ↓eCons, ↓eTup, ↓eOfL, ↓eLstL, ↓eListL, ↓eCatL, ↓eLc, ↓eWipe0, ↓eWipe, ↓eSeq, ↓eRng1, ↓eRng2, ↓eCall, ↓eCallL, ↓eRetL, ↓eSrt, ↓eSrtU, ↓eCB, ↓eNeg, ↓eChain, ↓eAppend, ↓ePop, ↓eNo, ↓eSome, ↓eSl, ↓eAnyG, ↓eAllG, ↓eZip, ↓eZip3, ↓gIsC_, tyN_t, tyN_l, tyN_n, tyN_b, tyN_i, seqP_t, seqP_l, ↓eEn1, ↓eEn2, ↓eSeqA, ↓ePar, ↓gAnyL_, ↓gAllL_, ↓gSumL_, boolsD_map, intsD_map, ↓gSl_t, ↓gSl_l, ↓gSl_a, ↓gAdd_i, ↓gAdd_t, ↓gAdd_s, ↓gAdd_l, ↓gI0_i, ↓gI_i, ↓gMul_i, ↓gMul_t, ↓gEq_, ↓gNe_, ↓gIs_n, ↓gIs_b, ↓gIsNot_n, ↓gIsNot_b, ↓gIn_, ↓gNotIn_, ↓gIx_t, ↓gIx_l, ↓gIx_a, ↓gLen_, ↓gLen_l, ↓gLen_a, ↓gInt_, ↓gInt_b, ↓gTuple_, ↓gTuple_l, ↓gTuple_a, ↓gMax_, ↓gMin_, ↓gIsBool_b, ↓gIsBool_i, seqOf_t, seqOf_l, seqOf_a, lstOf_l, lstOf_a, rsv_i, rsv_b, rsv_s, rsv_n, rsv_t, rsv_l, dle_i, dle_b, dle_n, eqD_i, eqD_b, isNon, bNm_, bTup_, bCons_, bNil_, Option.bind_some, i40, i41, i42, i43, atI0, atI1, atI2, atI3, atI4, atI5, mset_same, true_and, beq_self_eq_true, Bool.false_eq_true, c0, c1, Int.cast_ofNat_Int, Int.reduceEq, Int.reduceLT, Int.reduceLE, Int.reduceAdd, Int.reduceSub, ↓reduceIte]
  refine ⟨a, b, d, e, rfl, hd, he, ?_⟩
  cases h1 : FloorIn a b with
  | true =>
    try simp -dsimp only [bodyE, startD, List.map_cons, List.map_nil, List.length_cons, List.length_nil, List.replicate_succ, List.replicate_zero, List.cons_append, List.nil_append, Nat.reduceAdd, Nat.reduceSub, List.set_cons_zero, List.set_cons_succ, List.getElem?_cons_zero, List.getElem?_cons_succ, Bool.not_true, Bool.not_false, decide_true, decide_false, ↓IfS_t, ↓IfS_f, ↓IfE_t, ↓IfE_f, ↓AndT_t, ↓AndT_f, ↓OrT_t, ↓OrT_f, ↓AndV_t, ↓AndV_f, ↓OrV_t, ↓OrV_f, IfS_t, IfS_f, IfE_t, IfE_f, AndT_t, AndT_f, OrT_t, OrT_f, AndV_t, AndV_f, OrV_t, OrV_f, ↓eThen, ↓ePass, ↓eBreak, ↓eCont, ↓eExpr, ↓eRet, ↓eRetN, ↓eIfS, ↓eSet, ↓eOwn, ↓eAsg, ↓eSetIx, ↓eGSetIx, ↓eAug, ↓eIadd, ↓eIaddL, ↓eFrz, ↓eFor, ↓eWhile, ↓eNm, ↓eC, ↓eOp, ↓eB, ↓eTr, ↓eTrB, ↓eTrI, ↓eTrN, ↓eTrT, ↓eTrL, ↓eTrA, ↓eAnd, ↓eOr, ↓eNot, ↓eAndV, ↓eOrV, ↓eNotV, ↓eIf, ↓eNil, ↓eCons, ↓eTup, ↓eOfL, ↓eLstL, ↓eListL, ↓eCatL, ↓eLc, ↓eWipe0, ↓eWipe, ↓eSeq, ↓eRng1, ↓eRng2, ↓eCall, ↓eCallL, ↓eRetL, ↓eSrt, ↓eSrtU, ↓eCB, ↓eNeg, ↓eChain, ↓eAppend, ↓ePop, ↓eNo, ↓eSome, ↓eSl, ↓eAnyG, ↓eAllG, ↓eZip, ↓eZip3, ↓gIsC_, tyN_t, tyN_l, tyN_n, tyN_b, tyN_i, seqP_t, seqP_l, ↓eEn1, ↓eEn2, ↓eSeqA, ↓ePar, ↓gAnyL_, ↓gAllL_, ↓gSumL_, boolsD_map, intsD_map, ↓gSl_t, ↓gSl_l, ↓gSl_a, ↓gAdd_i, ↓gAdd_t, ↓gAdd_s, ↓gAdd_l, ↓gI0_i, ↓gI_i, ↓gMul_i, ↓gMul_t, ↓gEq_, ↓gNe_, ↓gIs_n, ↓gIs_b, ↓gIsNot_n, ↓gIsNot_b, ↓gIn_, ↓gNotIn_, ↓gIx_t, ↓gIx_l, ↓gIx_a, ↓gLen_, ↓gLen_l, ↓gLen_a, ↓gInt_, ↓gInt_b, ↓gTuple_, ↓gTuple_l, ↓gTuple_a, ↓gMax_, ↓gMin_, ↓gIsBool_b, ↓gIsBool_i, seqOf_t, seqOf_l, seqOf_a, lstOf_l, lstOf_a, rsv_i, rsv_b, rsv_s, rsv_n, rsv_t, rsv_l, dle_i, dle_b, dle_n, eqD_i, eqD_b, isNon, bNm_, bTup_, bCons_, bNil_, Option.bind_some, i40, i41, i42, i43, atI0, atI1, atI2, atI3, atI4, atI5, mset_same, true_and, beq_self_eq_true, Bool.false_eq_true, c0, c1, Int.cast_ofNat_Int, Int.reduceEq, Int.reduceLT, Int.reduceLE, Int.reduceAdd, Int.reduceSub, ↓reduceIte]
    refine ⟨b, a, e, d, rfl, he, hd, ?_⟩
    rw [h1] at q
    exact q
  | false =>
    try simp -dsimp only [bodyE, startD, List.map_cons, List.map_nil, List.length_cons, List.length_nil, List.replicate_succ, List.replicate_zero, List.cons_append, List.nil_append, Nat.reduceAdd, Nat.reduceSub, List.set_cons_zero, List.set_cons_succ, List.getElem?_cons_zero, List.getElem?_cons_succ, Bool.not_true, Bool.not_false, decide_true, decide_false, ↓IfS_t, ↓IfS_f, ↓IfE_t, ↓IfE_f, ↓AndT_t, ↓AndT_f, ↓OrT_t, ↓OrT_f, ↓AndV_t, ↓AndV_f, ↓OrV_t, ↓OrV_f, IfS_t, IfS_f, IfE_t, IfE_f, AndT_t, AndT_f, OrT_t, OrT_f, AndV_t, AndV_f, OrV_t, OrV_f, ↓eThen, ↓ePass, ↓eBreak, ↓eCont, ↓eExpr, ↓eRet, ↓eRetN, ↓eIfS, ↓eSet, ↓eOwn, ↓eAsg, ↓eSetIx, ↓eGSetIx, ↓eAug, ↓eIadd, ↓eIaddL, ↓eFrz, ↓eFor, ↓eWhile, ↓eNm, ↓eC, ↓eOp, ↓eB, ↓eTr, ↓eTrB, ↓eTrI, ↓eTrN, ↓eTrT, ↓eTrL, ↓eTrA, ↓eAnd, ↓eOr, ↓eNot, ↓eAndV, ↓eOrV, ↓eNotV, ↓eIf, ↓eNil, ↓eCons, ↓eTup, ↓eOfL, ↓eLstL, ↓eListL, ↓eCatL, ↓eLc, ↓eWipe0, ↓eWipe, ↓eSeq, ↓eRng1, ↓eRng2, ↓eCall, ↓eCallL, ↓eRetL, ↓eSrt, ↓eSrtU, ↓eCB, ↓eNeg, ↓eChain, ↓eAppend, ↓ePop, ↓eNo, ↓eSome, ↓eSl, ↓eAnyG, ↓eAllG, ↓eZip, ↓eZip3, ↓gIsC_, tyN_t, tyN_l, tyN_n, tyN_b, tyN_i, seqP_t, seqP_l, ↓eEn1, ↓eEn2, ↓eSeqA, ↓ePar, ↓gAnyL_, ↓gAllL_, ↓gSumL_, boolsD_map, intsD_map, ↓gSl_t, ↓gSl_l, ↓gSl_a, ↓gAdd_i, ↓gAdd_t, ↓gAdd_s, ↓gAdd_l, ↓gI0_i, ↓gI_i, ↓gMul_i, ↓gMul_t, ↓gEq_, ↓gNe_, ↓gIs_n, ↓gIs_b, ↓gIsNot_n, ↓gIsNot_b, ↓gIn_, ↓gNotIn_, ↓gIx_t, ↓gIx_l, ↓gIx_a, ↓gLen_, ↓gLen_l, ↓gLen_a, ↓gInt_, ↓gInt_b, ↓gTuple_, ↓gTuple_l, ↓gTuple_a, ↓gMax_, ↓gMin_, ↓gIsBool_b, ↓gIsBool_i, seqOf_t, seqOf_l, seqOf_a, lstOf_l, lstOf_a, rsv_i, rsv_b, rsv_s, rsv_n, rsv_t, rsv_l, dle_i, dle_b, dle_n, eqD_i, eqD_b, isNon, bNm_, bTup_, bCons_, bNil_, Option.bind_some, i40, i41, i42, i43, atI0, atI1, atI2, atI3, atI4, atI5, mset_same, true_and, beq_self_eq_true, Bool.false_eq_true, c0, c1, Int.cast_ofNat_Int, Int.reduceEq, Int.reduceLT, Int.reduceLE, Int.reduceAdd, Int.reduceSub, ↓reduceIte]
    rw [h1] at q
    exact q
theorem b_union (ds : List D) (M : Mu) (Q : List D → Mu → Prop) (xw : XW) (h : S_union ds M Q xw) : bodyL N_union (f_union S_least) ds M Q xw := by
  obtain ⟨a, b, c, qq, rfl, hp, hl, q⟩ := h
  have q : Q ((leastF (a ++ b)).map stD) (mres M M) := by rw [mres_self]; exact q
  have hsz : sizeLine = 16777216 := rfl
  rw [List.length_append] at hl
  simp only [bodyE, bodyL, startD, N_union, List.map_cons, List.map_nil, List.length_cons, List.length_nil, List.replicate_succ, List.replicate_zero, List.cons_append, List.nil_append, Nat.reduceAdd, Nat.reduceSub]
  unfold f_union
  try simp -dsimp only [bodyE, startD, List.map_cons, List.map_nil, List.length_cons, List.length_nil, List.replicate_succ, List.replicate_zero, List.cons_append, List.nil_append, Nat.reduceAdd, Nat.reduceSub, List.set_cons_zero, List.set_cons_succ, List.getElem?_cons_zero, List.getElem?_cons_succ, Bool.not_true, Bool.not_false, decide_true, decide_false, ↓IfS_t, ↓IfS_f, ↓IfE_t, ↓IfE_f, ↓AndT_t, ↓AndT_f, ↓OrT_t, ↓OrT_f, ↓AndV_t, ↓AndV_f, ↓OrV_t, ↓OrV_f, IfS_t, IfS_f, IfE_t, IfE_f, AndT_t, AndT_f, OrT_t, OrT_f, AndV_t, AndV_f, OrV_t, OrV_f, ↓eThen, ↓ePass, ↓eBreak, ↓eCont, ↓eExpr, ↓eRet, ↓eRetN, ↓eIfS, ↓eSet, ↓eOwn, ↓eAsg, ↓eSetIx, ↓eGSetIx, ↓eAug, ↓eIadd, ↓eIaddL, ↓eFrz, ↓eFor, ↓eWhile, ↓eNm, ↓eC, ↓eOp, ↓eB, ↓eTr, ↓eTrB, ↓eTrI, ↓eTrN, ↓eTrT, ↓eTrL, ↓eTrA, ↓eAnd, ↓eOr, ↓eNot, ↓eAndV, ↓eOrV, ↓eNotV, ↓eIf, ↓eNil, ↓eCons, ↓eTup, ↓eOfL, ↓eLstL, ↓eListL, ↓eCatL, ↓eLc, ↓eWipe0, ↓eWipe, ↓eSeq, ↓eRng1, ↓eRng2, ↓eCall, ↓eCallL, ↓eRetL, ↓eSrt, ↓eSrtU, ↓eCB, ↓eNeg, ↓eChain, ↓eAppend, ↓ePop, ↓eNo, ↓eSome, ↓eSl, ↓eAnyG, ↓eAllG, ↓eZip, ↓eZip3, ↓gIsC_, tyN_t, tyN_l, tyN_n, tyN_b, tyN_i, seqP_t, seqP_l, ↓eEn1, ↓eEn2, ↓eSeqA, ↓ePar, ↓gAnyL_, ↓gAllL_, ↓gSumL_, boolsD_map, intsD_map, ↓gSl_t, ↓gSl_l, ↓gSl_a, ↓gAdd_i, ↓gAdd_t, ↓gAdd_s, ↓gAdd_l, ↓gI0_i, ↓gI_i, ↓gMul_i, ↓gMul_t, ↓gEq_, ↓gNe_, ↓gIs_n, ↓gIs_b, ↓gIsNot_n, ↓gIsNot_b, ↓gIn_, ↓gNotIn_, ↓gIx_t, ↓gIx_l, ↓gIx_a, ↓gLen_, ↓gLen_l, ↓gLen_a, ↓gInt_, ↓gInt_b, ↓gTuple_, ↓gTuple_l, ↓gTuple_a, ↓gMax_, ↓gMin_, ↓gIsBool_b, ↓gIsBool_i, seqOf_t, seqOf_l, seqOf_a, lstOf_l, lstOf_a, rsv_i, rsv_b, rsv_s, rsv_n, rsv_t, rsv_l, dle_i, dle_b, dle_n, eqD_i, eqD_b, isNon, bNm_, bTup_, bCons_, bNil_, Option.bind_some, i40, i41, i42, i43, atI0, atI1, atI2, atI3, atI4, atI5, mset_same, true_and, beq_self_eq_true, Bool.false_eq_true, c0, c1, Int.cast_ofNat_Int, Int.reduceEq, Int.reduceLT, Int.reduceLE, Int.reduceAdd, Int.reduceSub, ↓reduceIte, List.length_map]
  refine ⟨by omega, a ++ b, c, qq, _, rfl, by rw [List.map_append]; rfl, hp, by rw [List.length_append]; exact hl, ?_⟩
  exact fun p h1 h2 => retL_ok q p h2 h1
theorem b_lleast (ds : List D) (M : Mu) (Q : D → Mu → Prop) (xw : XW) (h : S_lleast ds M Q xw) : bodyE N_lleast (f_lleast S_lbelow) ds M Q xw := by
  obtain ⟨xs, rfl, hp, hl, q⟩ := h
  have hsz : sizeLine = 16777216 := rfl
  have hll := srtS_len xs
  simp only [bodyE, bodyL, startD, N_lleast, List.map_cons, List.map_nil, List.length_cons, List.length_nil, List.replicate_succ, List.replicate_zero, List.cons_append, List.nil_append, Nat.reduceAdd, Nat.reduceSub]
  unfold f_lleast
  try simp -dsimp only [bodyE, startD, List.map_cons, List.map_nil, List.length_cons, List.length_nil, List.replicate_succ, List.replicate_zero, List.cons_append, List.nil_append, Nat.reduceAdd, Nat.reduceSub, List.set_cons_zero, List.set_cons_succ, List.getElem?_cons_zero, List.getElem?_cons_succ, Bool.not_true, Bool.not_false, decide_true, decide_false, ↓IfS_t, ↓IfS_f, ↓IfE_t, ↓IfE_f, ↓AndT_t, ↓AndT_f, ↓OrT_t, ↓OrT_f, ↓AndV_t, ↓AndV_f, ↓OrV_t, ↓OrV_f, IfS_t, IfS_f, IfE_t, IfE_f, AndT_t, AndT_f, OrT_t, OrT_f, AndV_t, AndV_f, OrV_t, OrV_f, ↓eThen, ↓ePass, ↓eBreak, ↓eCont, ↓eExpr, ↓eRet, ↓eRetN, ↓eIfS, ↓eSet, ↓eOwn, ↓eAsg, ↓eSetIx, ↓eGSetIx, ↓eAug, ↓eIadd, ↓eIaddL, ↓eFrz, ↓eFor, ↓eWhile, ↓eNm, ↓eC, ↓eOp, ↓eB, ↓eTr, ↓eTrB, ↓eTrI, ↓eTrN, ↓eTrT, ↓eTrL, ↓eTrA, ↓eAnd, ↓eOr, ↓eNot, ↓eAndV, ↓eOrV, ↓eNotV, ↓eIf, ↓eNil, ↓eCons, ↓eTup, ↓eOfL, ↓eLstL, ↓eListL, ↓eCatL, ↓eLc, ↓eWipe0, ↓eWipe, ↓eSeq, ↓eRng1, ↓eRng2, ↓eCall, ↓eCallL, ↓eRetL, ↓eSrt, ↓eSrtU, ↓eCB, ↓eNeg, ↓eChain, ↓eAppend, ↓ePop, ↓eNo, ↓eSome, ↓eSl, ↓eAnyG, ↓eAllG, ↓eZip, ↓eZip3, ↓gIsC_, tyN_t, tyN_l, tyN_n, tyN_b, tyN_i, seqP_t, seqP_l, ↓eEn1, ↓eEn2, ↓eSeqA, ↓ePar, ↓gAnyL_, ↓gAllL_, ↓gSumL_, boolsD_map, intsD_map, ↓gSl_t, ↓gSl_l, ↓gSl_a, ↓gAdd_i, ↓gAdd_t, ↓gAdd_s, ↓gAdd_l, ↓gI0_i, ↓gI_i, ↓gMul_i, ↓gMul_t, ↓gEq_, ↓gNe_, ↓gIs_n, ↓gIs_b, ↓gIsNot_n, ↓gIsNot_b, ↓gIn_, ↓gNotIn_, ↓gIx_t, ↓gIx_l, ↓gIx_a, ↓gLen_, ↓gLen_l, ↓gLen_a, ↓gInt_, ↓gInt_b, ↓gTuple_, ↓gTuple_l, ↓gTuple_a, ↓gMax_, ↓gMin_, ↓gIsBool_b, ↓gIsBool_i, seqOf_t, seqOf_l, seqOf_a, lstOf_l, lstOf_a, rsv_i, rsv_b, rsv_s, rsv_n, rsv_t, rsv_l, dle_i, dle_b, dle_n, eqD_i, eqD_b, isNon, bNm_, bTup_, bCons_, bNil_, Option.bind_some, i40, i41, i42, i43, atI0, atI1, atI2, atI3, atI4, atI5, mset_same, true_and, beq_self_eq_true, Bool.false_eq_true, c0, c1, Int.cast_ofNat_Int, Int.reduceEq, Int.reduceLT, Int.reduceLE, Int.reduceAdd, Int.reduceSub, ↓reduceIte]
  refine ⟨by decide, fun p hpM _ => ?_⟩
  have q : Q (.lst ((leastF xs).map stD)) (mres (mdel M p) M) := by rw [mres_mdel hpM, mres_self]; exact q
  try simp -dsimp only [bodyE, startD, List.map_cons, List.map_nil, List.length_cons, List.length_nil, List.replicate_succ, List.replicate_zero, List.cons_append, List.nil_append, Nat.reduceAdd, Nat.reduceSub, List.set_cons_zero, List.set_cons_succ, List.getElem?_cons_zero, List.getElem?_cons_succ, Bool.not_true, Bool.not_false, decide_true, decide_false, ↓IfS_t, ↓IfS_f, ↓IfE_t, ↓IfE_f, ↓AndT_t, ↓AndT_f, ↓OrT_t, ↓OrT_f, ↓AndV_t, ↓AndV_f, ↓OrV_t, ↓OrV_f, IfS_t, IfS_f, IfE_t, IfE_f, AndT_t, AndT_f, OrT_t, OrT_f, AndV_t, AndV_f, OrV_t, OrV_f, ↓eThen, ↓ePass, ↓eBreak, ↓eCont, ↓eExpr, ↓eRet, ↓eRetN, ↓eIfS, ↓eSet, ↓eOwn, ↓eAsg, ↓eSetIx, ↓eGSetIx, ↓eAug, ↓eIadd, ↓eIaddL, ↓eFrz, ↓eFor, ↓eWhile, ↓eNm, ↓eC, ↓eOp, ↓eB, ↓eTr, ↓eTrB, ↓eTrI, ↓eTrN, ↓eTrT, ↓eTrL, ↓eTrA, ↓eAnd, ↓eOr, ↓eNot, ↓eAndV, ↓eOrV, ↓eNotV, ↓eIf, ↓eNil, ↓eCons, ↓eTup, ↓eOfL, ↓eLstL, ↓eListL, ↓eCatL, ↓eLc, ↓eWipe0, ↓eWipe, ↓eSeq, ↓eRng1, ↓eRng2, ↓eCall, ↓eCallL, ↓eRetL, ↓eSrt, ↓eSrtU, ↓eCB, ↓eNeg, ↓eChain, ↓eAppend, ↓ePop, ↓eNo, ↓eSome, ↓eSl, ↓eAnyG, ↓eAllG, ↓eZip, ↓eZip3, ↓gIsC_, tyN_t, tyN_l, tyN_n, tyN_b, tyN_i, seqP_t, seqP_l, ↓eEn1, ↓eEn2, ↓eSeqA, ↓ePar, ↓gAnyL_, ↓gAllL_, ↓gSumL_, boolsD_map, intsD_map, ↓gSl_t, ↓gSl_l, ↓gSl_a, ↓gAdd_i, ↓gAdd_t, ↓gAdd_s, ↓gAdd_l, ↓gI0_i, ↓gI_i, ↓gMul_i, ↓gMul_t, ↓gEq_, ↓gNe_, ↓gIs_n, ↓gIs_b, ↓gIsNot_n, ↓gIsNot_b, ↓gIn_, ↓gNotIn_, ↓gIx_t, ↓gIx_l, ↓gIx_a, ↓gLen_, ↓gLen_l, ↓gLen_a, ↓gInt_, ↓gInt_b, ↓gTuple_, ↓gTuple_l, ↓gTuple_a, ↓gMax_, ↓gMin_, ↓gIsBool_b, ↓gIsBool_i, seqOf_t, seqOf_l, seqOf_a, lstOf_l, lstOf_a, rsv_i, rsv_b, rsv_s, rsv_n, rsv_t, rsv_l, dle_i, dle_b, dle_n, eqD_i, eqD_b, isNon, bNm_, bTup_, bCons_, bNil_, Option.bind_some, i40, i41, i42, i43, atI0, atI1, atI2, atI3, atI4, atI5, mset_same, true_and, beq_self_eq_true, Bool.false_eq_true, c0, c1, Int.cast_ofNat_Int, Int.reduceEq, Int.reduceLT, Int.reduceLE, Int.reduceAdd, Int.reduceSub, ↓reduceIte, okQ_st hl, srtS_eq]
  refine forS_map (fun pre ρ M' => M' = mset M p (.lst ((pre.filter (mini Below xs)).map stD)) ∧ ∃ (o2 : Option D), ρ = [some (.lst (xs.map stD)), some (.loc p), o2, none]) ⟨rfl, none, rfl⟩ ?_ ?_
  · rintro pre x suf ρ M' e ⟨rfl, o2, rfl⟩ nn cc hn hc
    have hx : x ∈ xs := (srtS_mem xs x).mp (by rw [← e]; exact List.mem_append_right _ List.mem_cons_self)
    have lp : (pre.filter (mini Below xs)).length ≤ 76 := by
      have h1 := List.length_filter_le (mini Below xs) pre
      have h2 := congrArg List.length e
      rw [List.length_append, List.length_cons] at h2
      omega
    try simp -dsimp only [bodyE, startD, List.map_cons, List.map_nil, List.length_cons, List.length_nil, List.replicate_succ, List.replicate_zero, List.cons_append, List.nil_append, Nat.reduceAdd, Nat.reduceSub, List.set_cons_zero, List.set_cons_succ, List.getElem?_cons_zero, List.getElem?_cons_succ, Bool.not_true, Bool.not_false, decide_true, decide_false, ↓IfS_t, ↓IfS_f, ↓IfE_t, ↓IfE_f, ↓AndT_t, ↓AndT_f, ↓OrT_t, ↓OrT_f, ↓AndV_t, ↓AndV_f, ↓OrV_t, ↓OrV_f, IfS_t, IfS_f, IfE_t, IfE_f, AndT_t, AndT_f, OrT_t, OrT_f, AndV_t, AndV_f, OrV_t, OrV_f, ↓eThen, ↓ePass, ↓eBreak, ↓eCont, ↓eExpr, ↓eRet, ↓eRetN, ↓eIfS, ↓eSet, ↓eOwn, ↓eAsg, ↓eSetIx, ↓eGSetIx, ↓eAug, ↓eIadd, ↓eIaddL, ↓eFrz, ↓eFor, ↓eWhile, ↓eNm, ↓eC, ↓eOp, ↓eB, ↓eTr, ↓eTrB, ↓eTrI, ↓eTrN, ↓eTrT, ↓eTrL, ↓eTrA, ↓eAnd, ↓eOr, ↓eNot, ↓eAndV, ↓eOrV, ↓eNotV, ↓eIf, ↓eNil, ↓eCons, ↓eTup, ↓eOfL, ↓eLstL, ↓eListL, ↓eCatL, ↓eLc, ↓eWipe0, ↓eWipe, ↓eSeq, ↓eRng1, ↓eRng2, ↓eCall, ↓eCallL, ↓eRetL, ↓eSrt, ↓eSrtU, ↓eCB, ↓eNeg, ↓eChain, ↓eAppend, ↓ePop, ↓eNo, ↓eSome, ↓eSl, ↓eAnyG, ↓eAllG, ↓eZip, ↓eZip3, ↓gIsC_, tyN_t, tyN_l, tyN_n, tyN_b, tyN_i, seqP_t, seqP_l, ↓eEn1, ↓eEn2, ↓eSeqA, ↓ePar, ↓gAnyL_, ↓gAllL_, ↓gSumL_, boolsD_map, intsD_map, ↓gSl_t, ↓gSl_l, ↓gSl_a, ↓gAdd_i, ↓gAdd_t, ↓gAdd_s, ↓gAdd_l, ↓gI0_i, ↓gI_i, ↓gMul_i, ↓gMul_t, ↓gEq_, ↓gNe_, ↓gIs_n, ↓gIs_b, ↓gIsNot_n, ↓gIsNot_b, ↓gIn_, ↓gNotIn_, ↓gIx_t, ↓gIx_l, ↓gIx_a, ↓gLen_, ↓gLen_l, ↓gLen_a, ↓gInt_, ↓gInt_b, ↓gTuple_, ↓gTuple_l, ↓gTuple_a, ↓gMax_, ↓gMin_, ↓gIsBool_b, ↓gIsBool_i, seqOf_t, seqOf_l, seqOf_a, lstOf_l, lstOf_a, rsv_i, rsv_b, rsv_s, rsv_n, rsv_t, rsv_l, dle_i, dle_b, dle_n, eqD_i, eqD_b, isNon, bNm_, bTup_, bCons_, bNil_, Option.bind_some, i40, i41, i42, i43, atI0, atI1, atI2, atI3, atI4, atI5, mset_same, true_and, beq_self_eq_true, Bool.false_eq_true, c0, c1, Int.cast_ofNat_Int, Int.reduceEq, Int.reduceLT, Int.reduceLE, Int.reduceAdd, Int.reduceSub, ↓reduceIte]
    refine lc_filt (fun o => decide (o ≠ x)) (fun o => .bl (Below o x)) (by omega) (fun o ho k hk => ?_) (fun o ho _ k hk => ?_) ?_
    · have hk : k (!decide (o = x)) (mset M p (.lst ((pre.filter (mini Below xs)).map stD))) := by rw [← decide_not]; exact hk
      try simp -dsimp only [bodyE, startD, List.map_cons, List.map_nil, List.length_cons, List.length_nil, List.replicate_succ, List.replicate_zero, List.cons_append, List.nil_append, Nat.reduceAdd, Nat.reduceSub, List.set_cons_zero, List.set_cons_succ, List.getElem?_cons_zero, List.getElem?_cons_succ, Bool.not_true, Bool.not_false, decide_true, decide_false, ↓IfS_t, ↓IfS_f, ↓IfE_t, ↓IfE_f, ↓AndT_t, ↓AndT_f, ↓OrT_t, ↓OrT_f, ↓AndV_t, ↓AndV_f, ↓OrV_t, ↓OrV_f, IfS_t, IfS_f, IfE_t, IfE_f, AndT_t, AndT_f, OrT_t, OrT_f, AndV_t, AndV_f, OrV_t, OrV_f, ↓eThen, ↓ePass, ↓eBreak, ↓eCont, ↓eExpr, ↓eRet, ↓eRetN, ↓eIfS, ↓eSet, ↓eOwn, ↓eAsg, ↓eSetIx, ↓eGSetIx, ↓eAug, ↓eIadd, ↓eIaddL, ↓eFrz, ↓eFor, ↓eWhile, ↓eNm, ↓eC, ↓eOp, ↓eB, ↓eTr, ↓eTrB, ↓eTrI, ↓eTrN, ↓eTrT, ↓eTrL, ↓eTrA, ↓eAnd, ↓eOr, ↓eNot, ↓eAndV, ↓eOrV, ↓eNotV, ↓eIf, ↓eNil, ↓eCons, ↓eTup, ↓eOfL, ↓eLstL, ↓eListL, ↓eCatL, ↓eLc, ↓eWipe0, ↓eWipe, ↓eSeq, ↓eRng1, ↓eRng2, ↓eCall, ↓eCallL, ↓eRetL, ↓eSrt, ↓eSrtU, ↓eCB, ↓eNeg, ↓eChain, ↓eAppend, ↓ePop, ↓eNo, ↓eSome, ↓eSl, ↓eAnyG, ↓eAllG, ↓eZip, ↓eZip3, ↓gIsC_, tyN_t, tyN_l, tyN_n, tyN_b, tyN_i, seqP_t, seqP_l, ↓eEn1, ↓eEn2, ↓eSeqA, ↓ePar, ↓gAnyL_, ↓gAllL_, ↓gSumL_, boolsD_map, intsD_map, ↓gSl_t, ↓gSl_l, ↓gSl_a, ↓gAdd_i, ↓gAdd_t, ↓gAdd_s, ↓gAdd_l, ↓gI0_i, ↓gI_i, ↓gMul_i, ↓gMul_t, ↓gEq_, ↓gNe_, ↓gIs_n, ↓gIs_b, ↓gIsNot_n, ↓gIsNot_b, ↓gIn_, ↓gNotIn_, ↓gIx_t, ↓gIx_l, ↓gIx_a, ↓gLen_, ↓gLen_l, ↓gLen_a, ↓gInt_, ↓gInt_b, ↓gTuple_, ↓gTuple_l, ↓gTuple_a, ↓gMax_, ↓gMin_, ↓gIsBool_b, ↓gIsBool_i, seqOf_t, seqOf_l, seqOf_a, lstOf_l, lstOf_a, rsv_i, rsv_b, rsv_s, rsv_n, rsv_t, rsv_l, dle_i, dle_b, dle_n, eqD_i, eqD_b, isNon, bNm_, bTup_, bCons_, bNil_, Option.bind_some, i40, i41, i42, i43, atI0, atI1, atI2, atI3, atI4, atI5, mset_same, true_and, beq_self_eq_true, Bool.false_eq_true, c0, c1, Int.cast_ofNat_Int, Int.reduceEq, Int.reduceLT, Int.reduceLE, Int.reduceAdd, Int.reduceSub, ↓reduceIte, rsv_st, dle_st60, eqD_st]
      exact hk
    · try simp -dsimp only [bodyE, startD, List.map_cons, List.map_nil, List.length_cons, List.length_nil, List.replicate_succ, List.replicate_zero, List.cons_append, List.nil_append, Nat.reduceAdd, Nat.reduceSub, List.set_cons_zero, List.set_cons_succ, List.getElem?_cons_zero, List.getElem?_cons_succ, Bool.not_true, Bool.not_false, decide_true, decide_false, ↓IfS_t, ↓IfS_f, ↓IfE_t, ↓IfE_f, ↓AndT_t, ↓AndT_f, ↓OrT_t, ↓OrT_f, ↓AndV_t, ↓AndV_f, ↓OrV_t, ↓OrV_f, IfS_t, IfS_f, IfE_t, IfE_f, AndT_t, AndT_f, OrT_t, OrT_f, AndV_t, AndV_f, OrV_t, OrV_f, ↓eThen, ↓ePass, ↓eBreak, ↓eCont, ↓eExpr, ↓eRet, ↓eRetN, ↓eIfS, ↓eSet, ↓eOwn, ↓eAsg, ↓eSetIx, ↓eGSetIx, ↓eAug, ↓eIadd, ↓eIaddL, ↓eFrz, ↓eFor, ↓eWhile, ↓eNm, ↓eC, ↓eOp, ↓eB, ↓eTr, ↓eTrB, ↓eTrI, ↓eTrN, ↓eTrT, ↓eTrL, ↓eTrA, ↓eAnd, ↓eOr, ↓eNot, ↓eAndV, ↓eOrV, ↓eNotV, ↓eIf, ↓eNil, ↓eCons, ↓eTup, ↓eOfL, ↓eLstL, ↓eListL, ↓eCatL, ↓eLc, ↓eWipe0, ↓eWipe, ↓eSeq, ↓eRng1, ↓eRng2, ↓eCall, ↓eCallL, ↓eRetL, ↓eSrt, ↓eSrtU, ↓eCB, ↓eNeg, ↓eChain, ↓eAppend, ↓ePop, ↓eNo, ↓eSome, ↓eSl, ↓eAnyG, ↓eAllG, ↓eZip, ↓eZip3, ↓gIsC_, tyN_t, tyN_l, tyN_n, tyN_b, tyN_i, seqP_t, seqP_l, ↓eEn1, ↓eEn2, ↓eSeqA, ↓ePar, ↓gAnyL_, ↓gAllL_, ↓gSumL_, boolsD_map, intsD_map, ↓gSl_t, ↓gSl_l, ↓gSl_a, ↓gAdd_i, ↓gAdd_t, ↓gAdd_s, ↓gAdd_l, ↓gI0_i, ↓gI_i, ↓gMul_i, ↓gMul_t, ↓gEq_, ↓gNe_, ↓gIs_n, ↓gIs_b, ↓gIsNot_n, ↓gIsNot_b, ↓gIn_, ↓gNotIn_, ↓gIx_t, ↓gIx_l, ↓gIx_a, ↓gLen_, ↓gLen_l, ↓gLen_a, ↓gInt_, ↓gInt_b, ↓gTuple_, ↓gTuple_l, ↓gTuple_a, ↓gMax_, ↓gMin_, ↓gIsBool_b, ↓gIsBool_i, seqOf_t, seqOf_l, seqOf_a, lstOf_l, lstOf_a, rsv_i, rsv_b, rsv_s, rsv_n, rsv_t, rsv_l, dle_i, dle_b, dle_n, eqD_i, eqD_b, isNon, bNm_, bTup_, bCons_, bNil_, Option.bind_some, i40, i41, i42, i43, atI0, atI1, atI2, atI3, atI4, atI5, mset_same, true_and, beq_self_eq_true, Bool.false_eq_true, c0, c1, Int.cast_ofNat_Int, Int.reduceEq, Int.reduceLT, Int.reduceLE, Int.reduceAdd, Int.reduceSub, ↓reduceIte]
      exact ⟨o, x, rfl, hp o ho x hx, hk⟩
    · rw [show ((xs.filter fun o => decide (o ≠ x)).map fun o => D.bl (Below o x)) = ((xs.filter fun o => decide (o ≠ x)).map fun o => Below o x).map D.bl by rw [List.map_map]; rfl]
      try simp -dsimp only [bodyE, startD, List.map_cons, List.map_nil, List.length_cons, List.length_nil, List.replicate_succ, List.replicate_zero, List.cons_append, List.nil_append, Nat.reduceAdd, Nat.reduceSub, List.set_cons_zero, List.set_cons_succ, List.getElem?_cons_zero, List.getElem?_cons_succ, Bool.not_true, Bool.not_false, decide_true, decide_false, ↓IfS_t, ↓IfS_f, ↓IfE_t, ↓IfE_f, ↓AndT_t, ↓AndT_f, ↓OrT_t, ↓OrT_f, ↓AndV_t, ↓AndV_f, ↓OrV_t, ↓OrV_f, IfS_t, IfS_f, IfE_t, IfE_f, AndT_t, AndT_f, OrT_t, OrT_f, AndV_t, AndV_f, OrV_t, OrV_f, ↓eThen, ↓ePass, ↓eBreak, ↓eCont, ↓eExpr, ↓eRet, ↓eRetN, ↓eIfS, ↓eSet, ↓eOwn, ↓eAsg, ↓eSetIx, ↓eGSetIx, ↓eAug, ↓eIadd, ↓eIaddL, ↓eFrz, ↓eFor, ↓eWhile, ↓eNm, ↓eC, ↓eOp, ↓eB, ↓eTr, ↓eTrB, ↓eTrI, ↓eTrN, ↓eTrT, ↓eTrL, ↓eTrA, ↓eAnd, ↓eOr, ↓eNot, ↓eAndV, ↓eOrV, ↓eNotV, ↓eIf, ↓eNil, ↓eCons, ↓eTup, ↓eOfL, ↓eLstL, ↓eListL, ↓eCatL, ↓eLc, ↓eWipe0, ↓eWipe, ↓eSeq, ↓eRng1, ↓eRng2, ↓eCall, ↓eCallL, ↓eRetL, ↓eSrt, ↓eSrtU, ↓eCB, ↓eNeg, ↓eChain, ↓eAppend, ↓ePop, ↓eNo, ↓eSome, ↓eSl, ↓eAnyG, ↓eAllG, ↓eZip, ↓eZip3, ↓gIsC_, tyN_t, tyN_l, tyN_n, tyN_b, tyN_i, seqP_t, seqP_l, ↓eEn1, ↓eEn2, ↓eSeqA, ↓ePar, ↓gAnyL_, ↓gAllL_, ↓gSumL_, boolsD_map, intsD_map, ↓gSl_t, ↓gSl_l, ↓gSl_a, ↓gAdd_i, ↓gAdd_t, ↓gAdd_s, ↓gAdd_l, ↓gI0_i, ↓gI_i, ↓gMul_i, ↓gMul_t, ↓gEq_, ↓gNe_, ↓gIs_n, ↓gIs_b, ↓gIsNot_n, ↓gIsNot_b, ↓gIn_, ↓gNotIn_, ↓gIx_t, ↓gIx_l, ↓gIx_a, ↓gLen_, ↓gLen_l, ↓gLen_a, ↓gInt_, ↓gInt_b, ↓gTuple_, ↓gTuple_l, ↓gTuple_a, ↓gMax_, ↓gMin_, ↓gIsBool_b, ↓gIsBool_i, seqOf_t, seqOf_l, seqOf_a, lstOf_l, lstOf_a, rsv_i, rsv_b, rsv_s, rsv_n, rsv_t, rsv_l, dle_i, dle_b, dle_n, eqD_i, eqD_b, isNon, bNm_, bTup_, bCons_, bNil_, Option.bind_some, i40, i41, i42, i43, atI0, atI1, atI2, atI3, atI4, atI5, mset_same, true_and, beq_self_eq_true, Bool.false_eq_true, c0, c1, Int.cast_ofNat_Int, Int.reduceEq, Int.reduceLT, Int.reduceLE, Int.reduceAdd, Int.reduceSub, ↓reduceIte, boolsD_map]
      rw [any_map_id]
      have em : (!((xs.filter fun o => decide (o ≠ x)).any fun o => Below o x)) = mini Below xs x := rfl
      rw [em]
      have fa : (pre ++ [x]).filter (mini Below xs) = pre.filter (mini Below xs) ++ if mini Below xs x = true then [x] else [] := by
        rw [List.filter_append]
        cases hm : mini Below xs x with
        | true => rw [List.filter_cons_of_pos hm]; simp
        | false => rw [List.filter_cons_of_neg (by rw [hm]; exact Bool.false_ne_true)]; simp
      cases hm : mini Below xs x with
      | true =>
        try simp -dsimp only [bodyE, startD, List.map_cons, List.map_nil, List.length_cons, List.length_nil, List.replicate_succ, List.replicate_zero, List.cons_append, List.nil_append, Nat.reduceAdd, Nat.reduceSub, List.set_cons_zero, List.set_cons_succ, List.getElem?_cons_zero, List.getElem?_cons_succ, Bool.not_true, Bool.not_false, decide_true, decide_false, ↓IfS_t, ↓IfS_f, ↓IfE_t, ↓IfE_f, ↓AndT_t, ↓AndT_f, ↓OrT_t, ↓OrT_f, ↓AndV_t, ↓AndV_f, ↓OrV_t, ↓OrV_f, IfS_t, IfS_f, IfE_t, IfE_f, AndT_t, AndT_f, OrT_t, OrT_f, AndV_t, AndV_f, OrV_t, OrV_f, ↓eThen, ↓ePass, ↓eBreak, ↓eCont, ↓eExpr, ↓eRet, ↓eRetN, ↓eIfS, ↓eSet, ↓eOwn, ↓eAsg, ↓eSetIx, ↓eGSetIx, ↓eAug, ↓eIadd, ↓eIaddL, ↓eFrz, ↓eFor, ↓eWhile, ↓eNm, ↓eC, ↓eOp, ↓eB, ↓eTr, ↓eTrB, ↓eTrI, ↓eTrN, ↓eTrT, ↓eTrL, ↓eTrA, ↓eAnd, ↓eOr, ↓eNot, ↓eAndV, ↓eOrV, ↓eNotV, ↓eIf, ↓eNil, ↓eCons, ↓eTup, ↓eOfL, ↓eLstL, ↓eListL, ↓eCatL, ↓eLc, ↓eWipe0, ↓eWipe, ↓eSeq, ↓eRng1, ↓eRng2, ↓eCall, ↓eCallL, ↓eRetL, ↓eSrt, ↓eSrtU, ↓eCB, ↓eNeg, ↓eChain, ↓eAppend, ↓ePop, ↓eNo, ↓eSome, ↓eSl, ↓eAnyG, ↓eAllG, ↓eZip, ↓eZip3, ↓gIsC_, tyN_t, tyN_l, tyN_n, tyN_b, tyN_i, seqP_t, seqP_l, ↓eEn1, ↓eEn2, ↓eSeqA, ↓ePar, ↓gAnyL_, ↓gAllL_, ↓gSumL_, boolsD_map, intsD_map, ↓gSl_t, ↓gSl_l, ↓gSl_a, ↓gAdd_i, ↓gAdd_t, ↓gAdd_s, ↓gAdd_l, ↓gI0_i, ↓gI_i, ↓gMul_i, ↓gMul_t, ↓gEq_, ↓gNe_, ↓gIs_n, ↓gIs_b, ↓gIsNot_n, ↓gIsNot_b, ↓gIn_, ↓gNotIn_, ↓gIx_t, ↓gIx_l, ↓gIx_a, ↓gLen_, ↓gLen_l, ↓gLen_a, ↓gInt_, ↓gInt_b, ↓gTuple_, ↓gTuple_l, ↓gTuple_a, ↓gMax_, ↓gMin_, ↓gIsBool_b, ↓gIsBool_i, seqOf_t, seqOf_l, seqOf_a, lstOf_l, lstOf_a, rsv_i, rsv_b, rsv_s, rsv_n, rsv_t, rsv_l, dle_i, dle_b, dle_n, eqD_i, eqD_b, isNon, bNm_, bTup_, bCons_, bNil_, Option.bind_some, i40, i41, i42, i43, atI0, atI1, atI2, atI3, atI4, atI5, mset_same, true_and, beq_self_eq_true, Bool.false_eq_true, c0, c1, Int.cast_ofNat_Int, Int.reduceEq, Int.reduceLT, Int.reduceLE, Int.reduceAdd, Int.reduceSub, ↓reduceIte, List.length_map]
        refine ⟨by omega, hn _ _ ⟨?_, _, rfl⟩⟩
        rw [fa, hm, mset_mset, if_pos rfl, List.map_append]; rfl
      | false =>
        try simp -dsimp only [bodyE, startD, List.map_cons, List.map_nil, List.length_cons, List.length_nil, List.replicate_succ, List.replicate_zero, List.cons_append, List.nil_append, Nat.reduceAdd, Nat.reduceSub, List.set_cons_zero, List.set_cons_succ, List.getElem?_cons_zero, List.getElem?_cons_succ, Bool.not_true, Bool.not_false, decide_true, decide_false, ↓IfS_t, ↓IfS_f, ↓IfE_t, ↓IfE_f, ↓AndT_t, ↓AndT_f, ↓OrT_t, ↓OrT_f, ↓AndV_t, ↓AndV_f, ↓OrV_t, ↓OrV_f, IfS_t, IfS_f, IfE_t, IfE_f, AndT_t, AndT_f, OrT_t, OrT_f, AndV_t, AndV_f, OrV_t, OrV_f, ↓eThen, ↓ePass, ↓eBreak, ↓eCont, ↓eExpr, ↓eRet, ↓eRetN, ↓eIfS, ↓eSet, ↓eOwn, ↓eAsg, ↓eSetIx, ↓eGSetIx, ↓eAug, ↓eIadd, ↓eIaddL, ↓eFrz, ↓eFor, ↓eWhile, ↓eNm, ↓eC, ↓eOp, ↓eB, ↓eTr, ↓eTrB, ↓eTrI, ↓eTrN, ↓eTrT, ↓eTrL, ↓eTrA, ↓eAnd, ↓eOr, ↓eNot, ↓eAndV, ↓eOrV, ↓eNotV, ↓eIf, ↓eNil, ↓eCons, ↓eTup, ↓eOfL, ↓eLstL, ↓eListL, ↓eCatL, ↓eLc, ↓eWipe0, ↓eWipe, ↓eSeq, ↓eRng1, ↓eRng2, ↓eCall, ↓eCallL, ↓eRetL, ↓eSrt, ↓eSrtU, ↓eCB, ↓eNeg, ↓eChain, ↓eAppend, ↓ePop, ↓eNo, ↓eSome, ↓eSl, ↓eAnyG, ↓eAllG, ↓eZip, ↓eZip3, ↓gIsC_, tyN_t, tyN_l, tyN_n, tyN_b, tyN_i, seqP_t, seqP_l, ↓eEn1, ↓eEn2, ↓eSeqA, ↓ePar, ↓gAnyL_, ↓gAllL_, ↓gSumL_, boolsD_map, intsD_map, ↓gSl_t, ↓gSl_l, ↓gSl_a, ↓gAdd_i, ↓gAdd_t, ↓gAdd_s, ↓gAdd_l, ↓gI0_i, ↓gI_i, ↓gMul_i, ↓gMul_t, ↓gEq_, ↓gNe_, ↓gIs_n, ↓gIs_b, ↓gIsNot_n, ↓gIsNot_b, ↓gIn_, ↓gNotIn_, ↓gIx_t, ↓gIx_l, ↓gIx_a, ↓gLen_, ↓gLen_l, ↓gLen_a, ↓gInt_, ↓gInt_b, ↓gTuple_, ↓gTuple_l, ↓gTuple_a, ↓gMax_, ↓gMin_, ↓gIsBool_b, ↓gIsBool_i, seqOf_t, seqOf_l, seqOf_a, lstOf_l, lstOf_a, rsv_i, rsv_b, rsv_s, rsv_n, rsv_t, rsv_l, dle_i, dle_b, dle_n, eqD_i, eqD_b, isNon, bNm_, bTup_, bCons_, bNil_, Option.bind_some, i40, i41, i42, i43, atI0, atI1, atI2, atI3, atI4, atI5, mset_same, true_and, beq_self_eq_true, Bool.false_eq_true, c0, c1, Int.cast_ofNat_Int, Int.reduceEq, Int.reduceLT, Int.reduceLE, Int.reduceAdd, Int.reduceSub, ↓reduceIte]
        refine hn _ _ ⟨?_, _, rfl⟩
        rw [fa, hm]; simp
  · rintro ρ M' ⟨rfl, o2, rfl⟩
    try simp -dsimp only [bodyE, startD, List.map_cons, List.map_nil, List.length_cons, List.length_nil, List.replicate_succ, List.replicate_zero, List.cons_append, List.nil_append, Nat.reduceAdd, Nat.reduceSub, List.set_cons_zero, List.set_cons_succ, List.getElem?_cons_zero, List.getElem?_cons_succ, Bool.not_true, Bool.not_false, decide_true, decide_false, ↓IfS_t, ↓IfS_f, ↓IfE_t, ↓IfE_f, ↓AndT_t, ↓AndT_f, ↓OrT_t, ↓OrT_f, ↓AndV_t, ↓AndV_f, ↓OrV_t, ↓OrV_f, IfS_t, IfS_f, IfE_t, IfE_f, AndT_t, AndT_f, OrT_t, OrT_f, AndV_t, AndV_f, OrV_t, OrV_f, ↓eThen, ↓ePass, ↓eBreak, ↓eCont, ↓eExpr, ↓eRet, ↓eRetN, ↓eIfS, ↓eSet, ↓eOwn, ↓eAsg, ↓eSetIx, ↓eGSetIx, ↓eAug, ↓eIadd, ↓eIaddL, ↓eFrz, ↓eFor, ↓eWhile, ↓eNm, ↓eC, ↓eOp, ↓eB, ↓eTr, ↓eTrB, ↓eTrI, ↓eTrN, ↓eTrT, ↓eTrL, ↓eTrA, ↓eAnd, ↓eOr, ↓eNot, ↓eAndV, ↓eOrV, ↓eNotV, ↓eIf, ↓eNil, ↓eCons, ↓eTup, ↓eOfL, ↓eLstL, ↓eListL, ↓eCatL, ↓eLc, ↓eWipe0, ↓eWipe, ↓eSeq, ↓eRng1, ↓eRng2, ↓eCall, ↓eCallL, ↓eRetL, ↓eSrt, ↓eSrtU, ↓eCB, ↓eNeg, ↓eChain, ↓eAppend, ↓ePop, ↓eNo, ↓eSome, ↓eSl, ↓eAnyG, ↓eAllG, ↓eZip, ↓eZip3, ↓gIsC_, tyN_t, tyN_l, tyN_n, tyN_b, tyN_i, seqP_t, seqP_l, ↓eEn1, ↓eEn2, ↓eSeqA, ↓ePar, ↓gAnyL_, ↓gAllL_, ↓gSumL_, boolsD_map, intsD_map, ↓gSl_t, ↓gSl_l, ↓gSl_a, ↓gAdd_i, ↓gAdd_t, ↓gAdd_s, ↓gAdd_l, ↓gI0_i, ↓gI_i, ↓gMul_i, ↓gMul_t, ↓gEq_, ↓gNe_, ↓gIs_n, ↓gIs_b, ↓gIsNot_n, ↓gIsNot_b, ↓gIn_, ↓gNotIn_, ↓gIx_t, ↓gIx_l, ↓gIx_a, ↓gLen_, ↓gLen_l, ↓gLen_a, ↓gInt_, ↓gInt_b, ↓gTuple_, ↓gTuple_l, ↓gTuple_a, ↓gMax_, ↓gMin_, ↓gIsBool_b, ↓gIsBool_i, seqOf_t, seqOf_l, seqOf_a, lstOf_l, lstOf_a, rsv_i, rsv_b, rsv_s, rsv_n, rsv_t, rsv_l, dle_i, dle_b, dle_n, eqD_i, eqD_b, isNon, bNm_, bTup_, bCons_, bNil_, Option.bind_some, i40, i41, i42, i43, atI0, atI1, atI2, atI3, atI4, atI5, mset_same, true_and, beq_self_eq_true, Bool.false_eq_true, c0, c1, Int.cast_ofNat_Int, Int.reduceEq, Int.reduceLT, Int.reduceLE, Int.reduceAdd, Int.reduceSub, ↓reduceIte]
    rw [mdel_mset hpM]
    rw [mres_mdel hpM] at q
    exact q
end U

set_option Elab.async false
set_option linter.all false
set_option maxRecDepth 100000
set_option maxHeartbeats 1000000
/-! L03: the law of least superwords, plain. -/
namespace U
open PySem PySem.Spec PyProof.Rows L2
open PySem.W (dataLt keyToks keyToksAll)

/-! ### words -/
theorem word_ord : OrdOn SubW (fun _ : List Int => True) := ⟨fun x _ => sub_refl x, fun _ _ _ _ _ _ h k => sub_trans h k, fun _ _ _ _ h k => sub_anti h k⟩
theorem lt_cons (a : Int) (u v : List Int) : ltD (wD (a :: u)) (wD (a :: v)) = ltD (wD u) (wD v) := by
  show dataLt (.tuple (PyData.int a :: D.pds (u.map .int))) (.tuple (PyData.int a :: D.pds (v.map .int))) = dataLt (.tuple (D.pds (u.map .int))) (.tuple (D.pds (v.map .int)))
  rw [PySem.W.dataLt_tuple, PySem.W.dataLt_tuple, PySem.W.dataLt_cons (by simp [PySem.W.alike])]
  rw [if_pos (by simp [PyData.eqv])]
theorem asc_cons {a : Int} {R : List (List Int)} (h : Asc wD R) : Asc wD (R.map (a :: ·)) :=
  List.pairwise_map.mpr (List.Pairwise.imp (fun {u v} k => by rw [lt_cons]; exact k) h)
theorem sub_head (a : Int) (u v : List Int) : SubW (a :: u) (a :: v) = SubW u v := by rw [sub_cons, if_pos rfl]
/-- both are subwords -/
def Both (u v w : List Int) : Prop := SubW u w = true ∧ SubW v w = true
/-- the least words that have both as subwords, ascending -/
structure Sup (u v : List Int) (R : List (List Int)) : Prop where
  asc : Asc wD R
  apart : ∀ x ∈ R, ∀ y ∈ R, SubW x y = true → x = y
  both : ∀ r ∈ R, Both u v r
  all : ∀ w, Both u v w → ∃ r ∈ R, SubW r w = true
  len : ∀ r ∈ R, r.length ≤ u.length + v.length
  let_ : ∀ r ∈ R, ∀ x ∈ r, x ∈ u ∨ x ∈ v
def bin : Nat → Nat → Nat
  | 0 => fun _ => 1
  | m + 1 => fun n => Nat.rec 1 (fun k r => bin m (k + 1) + r) n
theorem sup_nil {u v : List Int} (h : u = [] ∨ v = []) : Sup u v [u ++ v] := by
  refine ⟨List.pairwise_singleton _ _, fun x hx y hy _ => by rw [List.mem_singleton.mp hx, List.mem_singleton.mp hy], fun r hr => ?_, fun w hw => ⟨u ++ v, List.mem_singleton.mpr rfl, ?_⟩, fun r hr => by rw [List.mem_singleton.mp hr, List.length_append]; exact Nat.le_refl _, fun r hr x hx => ?_⟩
  · rw [List.mem_singleton.mp hr]
    rcases h with rfl | rfl
    · exact ⟨sub_nil _, sub_refl _⟩
    · rw [List.append_nil]; exact ⟨sub_refl _, sub_nil _⟩
  · rcases h with rfl | rfl
    · exact hw.2
    · rw [List.append_nil]; exact hw.1
  · rw [List.mem_singleton.mp hr] at hx
    exact List.mem_append.mp hx
/-- the first of the letters of l in w -/
theorem first_in (l : List Int) : ∀ w : List Int, (∃ x ∈ w, x ∈ l) → ∃ p x r, w = p ++ x :: r ∧ x ∈ l ∧ ∀ y ∈ p, y ∉ l
  | [], h => by obtain ⟨x, hx, _⟩ := h; cases hx
  | y :: w, h => by
    by_cases hy : y ∈ l
    · exact ⟨[], y, w, rfl, hy, fun z hz => (nomatch hz)⟩
    · obtain ⟨x, hx, hxl⟩ := h
      rcases List.mem_cons.mp hx with e | hx
      · rw [e] at hxl; exact absurd hxl hy
      · obtain ⟨p, x, r, e, h1, h2⟩ := first_in l w ⟨x, hx, hxl⟩
        refine ⟨y :: p, x, r, by rw [e]; rfl, h1, fun z hz => ?_⟩
        rcases List.mem_cons.mp hz with e | hz
        · rw [e]; exact hy
        · exact h2 z hz
theorem sub_skip {a : Int} {u r : List Int} : ∀ {p : List Int}, (∀ y ∈ p, y ≠ a) → SubW (a :: u) (p ++ r) = SubW (a :: u) r
  | [], _ => rfl
  | y :: p, h => by
    rw [List.cons_append, sub_cons, if_neg (h y List.mem_cons_self)]
    exact sub_skip fun z hz => h z (List.mem_cons_of_mem _ hz)
theorem sub_mem {v w : List Int} (h : SubW v w = true) : ∀ x ∈ v, x ∈ w := fun x hx => ((sub_iff w v).mp h).subset hx
theorem sub_app {p w : List Int} : SubW w (p ++ w) = true := (sub_iff _ _).mpr (List.sublist_append_right _ _)
theorem sub_one {a : Int} {r p q : List Int} (h : SubW r q = true) : SubW (a :: r) (p ++ a :: q) = true :=
  (sub_iff _ _).mpr ((((sub_iff q r).mp h).cons_cons a).trans (List.sublist_append_right _ _))
theorem sup_same {a : Int} {u v : List Int} {R : List (List Int)} (h : Sup u v R) : Sup (a :: u) (a :: v) (R.map (a :: ·)) := by
  refine ⟨asc_cons h.asc, fun x hx y hy hs => ?_, fun r hr => ?_, fun w hw => ?_, fun r hr => ?_, fun r hr x hx => ?_⟩
  · obtain ⟨x', hx', rfl⟩ := List.mem_map.mp hx
    obtain ⟨y', hy', rfl⟩ := List.mem_map.mp hy
    rw [sub_head] at hs
    rw [h.apart x' hx' y' hy' hs]
  · obtain ⟨r', hr', rfl⟩ := List.mem_map.mp hr
    exact ⟨by rw [sub_head]; exact (h.both r' hr').1, by rw [sub_head]; exact (h.both r' hr').2⟩
  · obtain ⟨p, x, r, rfl, h1, h2⟩ := first_in [a] w ⟨a, sub_mem hw.1 a List.mem_cons_self, by simp⟩
    have hx : x = a := by simpa using h1
    subst hx
    have hp : ∀ y ∈ p, y ≠ x := fun y hy => by simpa using h2 y hy
    have k1 := hw.1
    have k2 := hw.2
    rw [sub_skip hp, sub_head] at k1 k2
    obtain ⟨r', hr', hs⟩ := h.all r ⟨k1, k2⟩
    exact ⟨x :: r', List.mem_map.mpr ⟨r', hr', rfl⟩, sub_one hs⟩
  · obtain ⟨r', hr', rfl⟩ := List.mem_map.mp hr
    have := h.len r' hr'
    simp only [List.length_cons]; omega
  · obtain ⟨r', hr', rfl⟩ := List.mem_map.mp hr
    rcases List.mem_cons.mp hx with e | hx
    · rw [e]; exact .inl List.mem_cons_self
    · exact (h.let_ r' hr' x hx).imp (List.mem_cons_of_mem _) (List.mem_cons_of_mem _)
/-- ys are the least of xs, ascending -/
def IsLeast (xs ys : List (List Int)) : Prop := Asc wD ys ∧ ∀ y, y ∈ ys ↔ y ∈ xs ∧ mini SubW xs y = true
theorem IsLeast.one {xs ys zs : List (List Int)} (h : IsLeast xs ys) (k : IsLeast xs zs) : ys = zs := h.1.one k.1 fun y => by rw [h.2, k.2]
theorem sup_diff {a b : Int} {u v : List Int} {R1 R2 R : List (List Int)} (ne : a ≠ b) (h1 : Sup u (b :: v) R1) (h2 : Sup (a :: u) v R2) (hl : IsLeast (R1.map (a :: ·) ++ R2.map (b :: ·)) R) : Sup (a :: u) (b :: v) R := by
  have mem : ∀ r ∈ R1.map (a :: ·) ++ R2.map (b :: ·), Both (a :: u) (b :: v) r ∧ r.length ≤ (a :: u).length + (b :: v).length ∧ ∀ x ∈ r, x ∈ a :: u ∨ x ∈ b :: v := by
    intro r hr
    rcases List.mem_append.mp hr with z | z
    · obtain ⟨r', hr', rfl⟩ := List.mem_map.mp z
      obtain ⟨k1, k2⟩ := h1.both r' hr'
      refine ⟨⟨by rw [sub_head]; exact k1, ?_⟩, ?_, fun x hx => ?_⟩
      · rw [sub_cons, if_neg ne]; exact k2
      · have := h1.len r' hr'
        simp only [List.length_cons] at this ⊢; omega
      · rcases List.mem_cons.mp hx with e | hx
        · rw [e]; exact .inl List.mem_cons_self
        · exact (h1.let_ r' hr' x hx).imp (List.mem_cons_of_mem _) id
    · obtain ⟨r', hr', rfl⟩ := List.mem_map.mp z
      obtain ⟨k1, k2⟩ := h2.both r' hr'
      refine ⟨⟨?_, by rw [sub_head]; exact k2⟩, ?_, fun x hx => ?_⟩
      · rw [sub_cons, if_neg (fun e => ne e.symm)]; exact k1
      · have := h2.len r' hr'
        simp only [List.length_cons] at this ⊢; omega
      · rcases List.mem_cons.mp hx with e | hx
        · rw [e]; exact .inr List.mem_cons_self
        · exact (h2.let_ r' hr' x hx).imp id (List.mem_cons_of_mem _)
  have sub : ∀ r ∈ R, r ∈ R1.map (a :: ·) ++ R2.map (b :: ·) := fun r hr => ((hl.2 r).mp hr).1
  refine ⟨hl.1, fun x hx y hy hs => ?_, fun r hr => (mem r (sub r hr)).1, fun w hw => ?_, fun r hr => (mem r (sub r hr)).2.1, fun r hr => (mem r (sub r hr)).2.2⟩
  · exact (mini_iff SubW).mp ((hl.2 y).mp hy).2 x (sub x hx) hs
  · have low : ∃ r ∈ R1.map (a :: ·) ++ R2.map (b :: ·), SubW r w = true := by
      obtain ⟨p, x, r, rfl, k1, k2⟩ := first_in [a, b] w ⟨a, sub_mem hw.1 a List.mem_cons_self, by simp⟩
      have pa : ∀ y ∈ p, y ≠ a := fun y hy e => k2 y hy (by rw [e]; simp)
      have pb : ∀ y ∈ p, y ≠ b := fun y hy e => k2 y hy (by rw [e]; simp)
      have w1 := hw.1
      have w2 := hw.2
      rw [sub_skip pa] at w1
      rw [sub_skip pb] at w2
      have hx : x = a ∨ x = b := by simpa using k1
      rcases hx with rfl | rfl
      · rw [sub_head] at w1
        rw [sub_cons, if_neg ne] at w2
        obtain ⟨r', hr', hs⟩ := h1.all r ⟨w1, w2⟩
        exact ⟨x :: r', List.mem_append_left _ (List.mem_map.mpr ⟨r', hr', rfl⟩), sub_one hs⟩
      · rw [sub_head] at w2
        rw [sub_cons, if_neg (fun e => ne e.symm)] at w1
        obtain ⟨r', hr', hs⟩ := h2.all r ⟨w1, w2⟩
        exact ⟨x :: r', List.mem_append_right _ (List.mem_map.mpr ⟨r', hr', rfl⟩), sub_one hs⟩
    obtain ⟨r, hr, hs⟩ := low
    obtain ⟨y, m1, m2, m3⟩ := min_under word_ord (fun _ _ => trivial) r hr
    exact ⟨y, (hl.2 y).mpr ⟨m1, m3⟩, sub_trans m2 hs⟩
/-- the least of all words that have both -/
theorem sup_least {u v : List Int} {R F ys : List (List Int)} (h : Sup u v R) (hF : ∀ w ∈ F, Both u v w) (hR : ∀ r ∈ R, r ∈ F) (hl : IsLeast F ys) : R = ys := by
  refine h.asc.one hl.1 fun y => ?_
  rw [hl.2, mini_iff]
  constructor
  · intro hy
    refine ⟨hR y hy, fun x hx hs => ?_⟩
    obtain ⟨r, hr, hrx⟩ := h.all x (hF x hx)
    have e := h.apart r hr y hy (sub_trans hrx hs)
    rw [e] at hrx
    exact sub_anti hs hrx
  · rintro ⟨hy, hm⟩
    obtain ⟨r, hr, hry⟩ := h.all y (hF y hy)
    rw [← hm r (hR r hr) hry]; exact hr
theorem isLeast_ex {xs : List (List Int)} (ok : SrtOk (xs.map wD)) : ∃ ys, IsLeast xs ys ∧ ys.length ≤ xs.length := by
  obtain ⟨zs, _, h1, h2⟩ := srtU_ex (fun _ _ => wD_inj) ok
  refine ⟨zs.filter (mini SubW xs), ⟨List.Pairwise.filter _ h2, fun y => by rw [List.mem_filter, h1]⟩, ?_⟩
  exact Nat.le_trans (List.length_filter_le _ _) (nodup_len _ _ h2.nodup fun y hy => (h1 y).mp hy)
theorem okQ_w {n : Nat} {xs : List (List Int)} (ne : xs.length ≤ 1 ∨ ∀ x ∈ xs, x ≠ []) (h : xs.length ≤ n) : okQ n (xs.map wD) = true :=
  okQ_of (fun w => ky_w w) alike_w (fun _ => rfl) (ne.imp id fun q x hx => by
    cases x with
    | nil => exact absurd rfl (q [] hx)
    | cons => rfl) h
theorem srtOk_w {xs : List (List Int)} (ne : xs.length ≤ 1 ∨ ∀ x ∈ xs, x ≠ []) : SrtOk (xs.map wD) := srtOk_of (by
  have := okQ_w ne (Nat.le_refl xs.length)
  unfold okQ at this
  simp only [Bool.and_eq_true] at this
  exact this.1.1)

/-! ### all words -/
def lev (L : Nat) : Nat → List (List Int)
  | 0 => [[]]
  | k + 1 => (lev L k).flatMap fun w => (List.range L).map fun a : Nat => w ++ [(a : Int)]
def upto (L : Nat) : Nat → List (List Int)
  | 0 => [[]]
  | k + 1 => upto L k ++ lev L (k + 1)
theorem mem_lev (L : Nat) : ∀ (k : Nat) (w : List Int), w ∈ lev L k ↔ w.length = k ∧ ∀ x ∈ w, 0 ≤ x ∧ x < L
  | 0, w => by
    unfold lev
    rw [List.mem_singleton]
    constructor
    · rintro rfl; exact ⟨rfl, fun x hx => (nomatch hx)⟩
    · rintro ⟨h, _⟩; exact List.eq_nil_of_length_eq_zero h
  | k + 1, w => by
    unfold lev
    rw [List.mem_flatMap]
    constructor
    · rintro ⟨u, hu, hw⟩
      obtain ⟨a, ha, rfl⟩ := List.mem_map.mp hw
      obtain ⟨h1, h2⟩ := (mem_lev L k u).mp hu
      have := List.mem_range.mp ha
      refine ⟨by simp [h1], fun x hx => ?_⟩
      rcases List.mem_append.mp hx with z | z
      · exact h2 x z
      · rw [List.mem_singleton.mp z]; omega
    · rintro ⟨h1, h2⟩
      have hne : w ≠ [] := by rintro rfl; cases h1
      obtain ⟨x0, x1⟩ := h2 (w.getLast hne) (List.getLast_mem hne)
      refine ⟨w.dropLast, (mem_lev L k _).mpr ⟨by rw [List.length_dropLast, h1]; rfl, fun x hx => h2 x (List.dropLast_subset _ hx)⟩, List.mem_map.mpr ⟨(w.getLast hne).toNat, List.mem_range.mpr (by omega), ?_⟩⟩
      rw [Int.toNat_of_nonneg x0]
      exact List.dropLast_concat_getLast hne
theorem mem_upto (L : Nat) : ∀ (k : Nat) (w : List Int), w ∈ upto L k ↔ w.length ≤ k ∧ ∀ x ∈ w, 0 ≤ x ∧ x < L
  | 0, w => by
    have := mem_lev L 0 w
    unfold lev at this
    unfold upto
    rw [this, Nat.le_zero]
  | k + 1, w => by
    unfold upto
    rw [List.mem_append, mem_upto L k, mem_lev]
    constructor
    · rintro (⟨h1, h2⟩ | ⟨h1, h2⟩)
      · exact ⟨by omega, h2⟩
      · exact ⟨by omega, h2⟩
    · rintro ⟨h1, h2⟩
      by_cases h : w.length = k + 1
      · exact .inr ⟨h, h2⟩
      · exact .inl ⟨by omega, h2⟩
theorem lev_len (L : Nat) : ∀ k, (lev L k).length = L ^ k
  | 0 => rfl
  | k + 1 => by
    unfold lev
    rw [List.length_flatMap]
    simp only [List.length_map, List.length_range]
    rw [List.map_const', lev_len L k, Nat.pow_succ]
    simp
theorem few_words : ((List.range 4).all fun L => (upto L 3).all fun w => (List.range 4).all fun n => (decide (w.length < n) || (decide (L = 3) && decide (n = 3))) || decide (((upto L (w.length + n)).filter fun x => SubW w x).length ≤ 76)) = true := by decide +kernel
def N_least_words : List Str := ["words", "found", "word", "other"]
def f_least_words (S_is_subword : FSpec) : FS := fThen (fSet 1 (fOfL (fLstL fNil))) (fThen (fFor (fSeq (fOfL (fSrtU (fNm 0)))) (bNm 2) (fIfS (fNot (fTr (fAnyG (fSeqA (fNm 1)) (bNm 3) (fCall S_is_subword (fCons (fNm 3) (fCons (fNm 2) fNil))) [3]))) (fSet 1 (fOp gAdd (fOfL (fLc (fSeq (fNm 1)) (bNm 3) (fNot (fTr (fCall S_is_subword (fCons (fNm 2) (fCons (fNm 3) fNil))))) (fNm 3) [3])) (fOfL (fLstL (fCons (fNm 2) fNil))))) fPass)) (fRet (fOfL (fSrt (fCons (fNm 1) fNil)))))
def N_superwords : List Str := ["word", "other", "made", "rest"]
def f_superwords (S_superwords : FSpec) (S_least_words : FSpec) : FS := fThen (fIfS (fOr (fNot (fTr (fNm 0))) (fNot (fTr (fNm 1)))) (fRet (fOfL (fLstL (fCons (fOp gAdd (fNm 0) (fNm 1)) fNil)))) fPass) (fThen (fIfS (fB (fOp gEq (fOp gIx (fNm 0) (fC (.int 0))) (fOp gIx (fNm 1) (fC (.int 0))))) (fRet (fOfL (fLc (fSeq (fCall S_superwords (fCons (fSl' (fNm 0) (fSome (fC (.int 1))) fNo) (fCons (fSl' (fNm 1) (fSome (fC (.int 1))) fNo) fNil)))) (bNm 3) fYes (fOp gAdd (fSl' (fNm 0) fNo (fSome (fC (.int 1)))) (fNm 3)) [3]))) fPass) (fThen (fOwn 2 (fLc (fSeq (fCall S_superwords (fCons (fSl' (fNm 0) (fSome (fC (.int 1))) fNo) (fCons (fNm 1) fNil)))) (bNm 3) fYes (fOp gAdd (fSl' (fNm 0) fNo (fSome (fC (.int 1)))) (fNm 3)) [3])) (fThen (fAug 2 gIadd (fOfL (fLc (fSeq (fCall S_superwords (fCons (fNm 0) (fCons (fSl' (fNm 1) (fSome (fC (.int 1))) fNo) fNil)))) (bNm 3) fYes (fOp gAdd (fSl' (fNm 1) fNo (fSome (fC (.int 1)))) (fNm 3)) [3]))) (fFrz 2 (fRet (fCall S_least_words (fCons (fNm 2) fNil)))))))
def N_lwords : List Str := ["_law_letters", "_law_most", "_law_found", "_law_here", "_law_k", "_law_made", "_law_word_here", "_law_a"]
def f_lwords : FS := fThen (fSet 2 (fOfL (fLstL (fCons (fTup fNil) fNil)))) (fThen (fSet 3 (fOfL (fLstL (fCons (fTup fNil) fNil)))) (fThen (fFor (fRng1 (fCons (fNm 1) fNil)) (bNm 4) (fThen (fSet 5 (fOfL (fLstL fNil))) (fThen (fFor (fSeq (fNm 3)) (bNm 6) (fSet 5 (fOp gAdd (fNm 5) (fOfL (fLc (fRng1 (fCons (fNm 0) fNil)) (bNm 7) fYes (fOp gAdd (fNm 6) (fTup (fCons (fNm 7) fNil))) [7]))))) (fThen (fSet 3 (fNm 5)) (fSet 2 (fOp gAdd (fNm 2) (fNm 5))))))) (fRet (fNm 2))))
def N_lleast_words : List Str := ["_law_words_here", "_law_found", "_law_word_here", "_law_other"]
def f_lleast_words (S_lsub : FSpec) : FS := fThen (fOwn 1 (fLstL fNil)) (fThen (fFor (fSeq (fOfL (fSrtU (fNm 0)))) (bNm 2) (fIfS (fNot (fTr (fCB gAnyL (fCons (fOfL (fLc (fSeq (fNm 0)) (bNm 3) (fB (fOp gNe (fNm 3) (fNm 2))) (fCall S_lsub (fCons (fNm 3) (fCons (fNm 2) fNil))) [3])) fNil)))) (fExpr (fAppend (fNm 1) (fCons (fNm 2) fNil))) fPass)) (fFrz 1 (fRet (fNm 1))))
def N_law : List Str := ["_law_script", "_law_state", "_law_letters", "_law_one", "_law_two", "_law_found", "_law_actual", "_law_word_here"]
def f_law (S_ldraw : FSpec) (S_lword : FSpec) (S_lwords : FSpec) (S_lsub : FSpec) (S_superwords : FSpec) (S_lleast_words : FSpec) : FS := fThen (fOwn 1 (fLstL (fCons (fC (.int 0)) (fCons (fC (.int 0)) (fCons (fOfL (fListL (fCons (fNm 0) fNil))) (fCons (fC (.int 1)) fNil)))))) (fThen (fSet 2 (fOp gAdd (fC (.int 1)) (fCall S_ldraw (fCons (fNm 1) (fCons (fC (.int 3)) fNil))))) (fThen (fSet 3 (fCall S_lword (fCons (fNm 1) (fCons (fNm 2) (fCons (fC (.int 3)) fNil))))) (fThen (fSet 4 (fCall S_lword (fCons (fNm 1) (fCons (fNm 2) (fCons (fC (.int 3)) fNil))))) (fThen (fIfS (fB (fOp gEq (fNm 2) (fC (.int 3)))) (fSet 4 (fSl' (fNm 4) fNo (fSome (fC (.int 2))))) fPass) (fThen (fSet 5 (fOfL (fLc (fSeq (fCall S_lwords (fCons (fNm 2) (fCons (fOp gAdd (fCB gLen (fCons (fNm 3) fNil)) (fCB gLen (fCons (fNm 4) fNil))) fNil)))) (bNm 7) (fAnd (fTr (fCall S_lsub (fCons (fNm 3) (fCons (fNm 7) fNil)))) (fTr (fCall S_lsub (fCons (fNm 4) (fCons (fNm 7) fNil))))) (fNm 7) [7]))) (fThen (fSet 6 (fCall S_superwords (fCons (fNm 3) (fCons (fNm 4) fNil)))) (fRet (fAndV (fCB (gIsC "list") (fCons (fNm 6) (fCons (fC (.ty "list")) fNil))) (fOp gEq (fNm 6) (fCall S_lleast_words (fCons (fNm 5) fNil)))))))))))

def S_least_words : FSpec := fun ds M Q _ => ∃ (xs : List (List Int)) (d : D), ds = [d] ∧ lstOf M d = some (xs.map wD) ∧ (xs.length ≤ 1 ∨ ∀ x ∈ xs, x ≠ []) ∧ xs.length ≤ 76 ∧ ∀ ys, IsLeast xs ys → ys.length ≤ xs.length → Q (.lst (ys.map wD)) M
def S_superwords (n : Nat) : FSpec := fun ds M Q _ => ∃ u v : List Int, ds = [wD u, wD v] ∧ u.length + v.length < n ∧ u.length ≤ 3 ∧ v.length ≤ 3 ∧ ∀ R, Sup u v R → R.length ≤ bin u.length v.length → Q (.lst (R.map wD)) M
theorem z_superwords (ds : List D) (M : Mu) (Q : D → Mu → Prop) (xw : XW) : ¬ S_superwords 0 ds M Q xw := fun ⟨_, _, _, h, _⟩ => absurd h (Nat.not_lt_zero _)
def S_lwords : FSpec := fun ds M Q _ => ∃ l k : Nat, ds = [.int (l : Nat), .int (k : Nat)] ∧ l ≤ 3 ∧ k ≤ 6 ∧ Q (.lst ((upto l k).map wD)) M
def S_lleast_words : FSpec := fun ds M Q _ => ∃ xs : List (List Int), ds = [.lst (xs.map wD)] ∧ (xs.length ≤ 1 ∨ ∀ x ∈ xs, x ≠ []) ∧ xs.length ≤ 76 ∧ (∀ x ∈ xs, x.length < 50) ∧ ∀ ys, IsLeast xs ys → Q (.lst (ys.map wD)) M
theorem rsv_w' {M : Mu} {w : List Int} : rsv M (wD w) = wD w := rfl
theorem dle_w60 (w : List Int) : dle 60 (wD w) = true := dle_w (n := 59) w
theorem mini_srt {xs zs : List (List Int)} (h : ∀ y, y ∈ zs ↔ y ∈ xs) (y : List Int) : mini SubW zs y = mini SubW xs y := by
  rw [Bool.eq_iff_iff, mini_iff, mini_iff]
  exact ⟨fun k x hx => k x ((h x).mpr hx), fun k x hx => k x ((h x).mp hx)⟩
theorem b_least_words (ds : List D) (M : Mu) (Q : D → Mu → Prop) (xw : XW) (h : S_least_words ds M Q xw) : bodyE N_least_words (f_least_words S_is_subword) ds M Q xw := by
  obtain ⟨xs, d, rfl, hd, hp, hl, q⟩ := h
  have q : ∀ ys, IsLeast xs ys → ys.length ≤ xs.length → Q (.lst (ys.map wD)) (mres M M) := fun ys h k => by rw [mres_self]; exact q ys h k
  have hsz : sizeLine = 16777216 := rfl
  obtain ⟨zs, ez, hz, za⟩ := srtU_ex (fun _ _ => wD_inj) (srtOk_w hp)
  simp only [bodyE, bodyL, startD, N_least_words, List.map_cons, List.map_nil, List.length_cons, List.length_nil, List.replicate_succ, List.replicate_zero, List.cons_append, List.nil_append, Nat.reduceAdd, Nat.reduceSub]
  unfold f_least_words
  try simp -dsimp only [bodyE, startD, List.map_cons, List.map_nil, List.length_cons, List.length_nil, List.replicate_succ, List.replicate_zero, List.cons_append, List.nil_append, Nat.reduceAdd, Nat.reduceSub, List.set_cons_zero, List.set_cons_succ, List.getElem?_cons_zero, List.getElem?_cons_succ, Bool.not_true, Bool.not_false, decide_true, decide_false, ↓IfS_t, ↓IfS_f, ↓IfE_t, ↓IfE_f, ↓AndT_t, ↓AndT_f, ↓OrT_t, ↓OrT_f, ↓AndV_t, ↓AndV_f, ↓OrV_t, ↓OrV_f, IfS_t, IfS_f, IfE_t, IfE_f, AndT_t, AndT_f, OrT_t, OrT_f, AndV_t, AndV_f, OrV_t, OrV_f, ↓eThen, ↓ePass, ↓eBreak, ↓eCont, ↓eExpr, ↓eRet, ↓eRetN, ↓eIfS, ↓eSet, ↓eOwn, ↓eAsg, ↓eSetIx, ↓eGSetIx, ↓eAug, ↓eIadd, ↓eIaddL, ↓eFrz, ↓eFor, ↓eWhile, ↓eNm, ↓eC, ↓eOp, ↓eB, ↓eTr, ↓eTrB, ↓eTrI, ↓eTrN, ↓eTrT, ↓eTrL, ↓eTrA, ↓eAnd, ↓eOr, ↓eNot, ↓eAndV, ↓eOrV, ↓eNotV, ↓eIf, ↓eNil, ↓eCons, ↓eTup, ↓eOfL, ↓eLstL, ↓eListL, ↓eCatL, ↓eLc, ↓eWipe0, ↓eWipe, ↓eSeq, ↓eRng1, ↓eRng2, ↓eCall, ↓eCallL, ↓eRetL, ↓eSrt, ↓eSrtU, ↓eCB, ↓eNeg, ↓eChain, ↓eAppend, ↓ePop, ↓eNo, ↓eSome, ↓eSl, ↓eAnyG, ↓eAllG, ↓eZip, ↓eZip3, ↓gIsC_, tyN_t, tyN_l, tyN_n, tyN_b, tyN_i, seqP_t, seqP_l, ↓eEn1, ↓eEn2, ↓eSeqA, ↓ePar, ↓gAnyL_, ↓gAllL_, ↓gSumL_, boolsD_map, intsD_map, ↓gSl_t, ↓gSl_l, ↓gSl_a, ↓gAdd_i, ↓gAdd_t, ↓gAdd_s, ↓gAdd_l, ↓gI0_i, ↓gI_i, ↓gMul_i, ↓gMul_t, ↓gEq_, ↓gNe_, ↓gIs_n, ↓gIs_b, ↓gIsNot_n, ↓gIsNot_b, ↓gIn_, ↓gNotIn_, ↓gIx_t, ↓gIx_l, ↓gIx_a, ↓gLen_, ↓gLen_l, ↓gLen_a, ↓gInt_, ↓gInt_b, ↓gTuple_, ↓gTuple_l, ↓gTuple_a, ↓gMax_, ↓gMin_, ↓gIsBool_b, ↓gIsBool_i, seqOf_t, seqOf_l, seqOf_a, lstOf_l, lstOf_a, rsv_i, rsv_b, rsv_s, rsv_n, rsv_t, rsv_l, dle_i, dle_b, dle_n, eqD_i, eqD_b, isNon, bNm_, bTup_, bCons_, bNil_, Option.bind_some, i40, i41, i42, i43, atI0, atI1, atI2, atI3, atI4, atI5, mset_same, true_and, beq_self_eq_true, Bool.false_eq_true, c0, c1, Int.cast_ofNat_Int, Int.reduceEq, Int.reduceLT, Int.reduceLE, Int.reduceAdd, Int.reduceSub, ↓reduceIte, hd, okQ_w hp hl, ez]
  refine ⟨by decide, forS_map (fun pre ρ M' => M = M' ∧ ∃ (f : List (List Int)) (o2 : Option D), Lst SubW (fun _ => True) pre f ∧ ρ = [some d, some (.lst (f.map wD)), o2, none]) ⟨rfl, [], none, Lst.nil, rfl⟩ ?_ ?_⟩
  · rintro pre x suf ρ M' e ⟨rfl, f, o2, hf, rfl⟩ nn cc hn hc
    have nd : (pre ++ x :: suf).Nodup := by rw [e]; exact za.nodup
    have hm : ∀ y, y ∈ pre ++ x :: suf → y ∈ xs := fun y hy => (hz y).mp (by rw [← e]; exact hy)
    have hnx : x ∉ pre := fun h => (List.nodup_append.mp nd).2.2 x h x List.mem_cons_self rfl
    have fl : f.length ≤ 76 := Nat.le_trans (nodup_len f xs hf.nd fun y hy => hm y (List.mem_append_left _ (hf.sub y hy))) hl
    try simp -dsimp only [bodyE, startD, List.map_cons, List.map_nil, List.length_cons, List.length_nil, List.replicate_succ, List.replicate_zero, List.cons_append, List.nil_append, Nat.reduceAdd, Nat.reduceSub, List.set_cons_zero, List.set_cons_succ, List.getElem?_cons_zero, List.getElem?_cons_succ, Bool.not_true, Bool.not_false, decide_true, decide_false, ↓IfS_t, ↓IfS_f, ↓IfE_t, ↓IfE_f, ↓AndT_t, ↓AndT_f, ↓OrT_t, ↓OrT_f, ↓AndV_t, ↓AndV_f, ↓OrV_t, ↓OrV_f, IfS_t, IfS_f, IfE_t, IfE_f, AndT_t, AndT_f, OrT_t, OrT_f, AndV_t, AndV_f, OrV_t, OrV_f, ↓eThen, ↓ePass, ↓eBreak, ↓eCont, ↓eExpr, ↓eRet, ↓eRetN, ↓eIfS, ↓eSet, ↓eOwn, ↓eAsg, ↓eSetIx, ↓eGSetIx, ↓eAug, ↓eIadd, ↓eIaddL, ↓eFrz, ↓eFor, ↓eWhile, ↓eNm, ↓eC, ↓eOp, ↓eB, ↓eTr, ↓eTrB, ↓eTrI, ↓eTrN, ↓eTrT, ↓eTrL, ↓eTrA, ↓eAnd, ↓eOr, ↓eNot, ↓eAndV, ↓eOrV, ↓eNotV, ↓eIf, ↓eNil, ↓eCons, ↓eTup, ↓eOfL, ↓eLstL, ↓eListL, ↓eCatL, ↓eLc, ↓eWipe0, ↓eWipe, ↓eSeq, ↓eRng1, ↓eRng2, ↓eCall, ↓eCallL, ↓eRetL, ↓eSrt, ↓eSrtU, ↓eCB, ↓eNeg, ↓eChain, ↓eAppend, ↓ePop, ↓eNo, ↓eSome, ↓eSl, ↓eAnyG, ↓eAllG, ↓eZip, ↓eZip3, ↓gIsC_, tyN_t, tyN_l, tyN_n, tyN_b, tyN_i, seqP_t, seqP_l, ↓eEn1, ↓eEn2, ↓eSeqA, ↓ePar, ↓gAnyL_, ↓gAllL_, ↓gSumL_, boolsD_map, intsD_map, ↓gSl_t, ↓gSl_l, ↓gSl_a, ↓gAdd_i, ↓gAdd_t, ↓gAdd_s, ↓gAdd_l, ↓gI0_i, ↓gI_i, ↓gMul_i, ↓gMul_t, ↓gEq_, ↓gNe_, ↓gIs_n, ↓gIs_b, ↓gIsNot_n, ↓gIsNot_b, ↓gIn_, ↓gNotIn_, ↓gIx_t, ↓gIx_l, ↓gIx_a, ↓gLen_, ↓gLen_l, ↓gLen_a, ↓gInt_, ↓gInt_b, ↓gTuple_, ↓gTuple_l, ↓gTuple_a, ↓gMax_, ↓gMin_, ↓gIsBool_b, ↓gIsBool_i, seqOf_t, seqOf_l, seqOf_a, lstOf_l, lstOf_a, rsv_i, rsv_b, rsv_s, rsv_n, rsv_t, rsv_l, dle_i, dle_b, dle_n, eqD_i, eqD_b, isNon, bNm_, bTup_, bCons_, bNil_, Option.bind_some, i40, i41, i42, i43, atI0, atI1, atI2, atI3, atI4, atI5, mset_same, true_and, beq_self_eq_true, Bool.false_eq_true, c0, c1, Int.cast_ofNat_Int, Int.reduceEq, Int.reduceLT, Int.reduceLE, Int.reduceAdd, Int.reduceSub, ↓reduceIte]
    refine genS_map (fun l : List Int => SubW l x) (fun l _ => ⟨_, rfl, fun Q hq => ?_⟩) ?_
    · try simp -dsimp only [bodyE, startD, List.map_cons, List.map_nil, List.length_cons, List.length_nil, List.replicate_succ, List.replicate_zero, List.cons_append, List.nil_append, Nat.reduceAdd, Nat.reduceSub, List.set_cons_zero, List.set_cons_succ, List.getElem?_cons_zero, List.getElem?_cons_succ, Bool.not_true, Bool.not_false, decide_true, decide_false, ↓IfS_t, ↓IfS_f, ↓IfE_t, ↓IfE_f, ↓AndT_t, ↓AndT_f, ↓OrT_t, ↓OrT_f, ↓AndV_t, ↓AndV_f, ↓OrV_t, ↓OrV_f, IfS_t, IfS_f, IfE_t, IfE_f, AndT_t, AndT_f, OrT_t, OrT_f, AndV_t, AndV_f, OrV_t, OrV_f, ↓eThen, ↓ePass, ↓eBreak, ↓eCont, ↓eExpr, ↓eRet, ↓eRetN, ↓eIfS, ↓eSet, ↓eOwn, ↓eAsg, ↓eSetIx, ↓eGSetIx, ↓eAug, ↓eIadd, ↓eIaddL, ↓eFrz, ↓eFor, ↓eWhile, ↓eNm, ↓eC, ↓eOp, ↓eB, ↓eTr, ↓eTrB, ↓eTrI, ↓eTrN, ↓eTrT, ↓eTrL, ↓eTrA, ↓eAnd, ↓eOr, ↓eNot, ↓eAndV, ↓eOrV, ↓eNotV, ↓eIf, ↓eNil, ↓eCons, ↓eTup, ↓eOfL, ↓eLstL, ↓eListL, ↓eCatL, ↓eLc, ↓eWipe0, ↓eWipe, ↓eSeq, ↓eRng1, ↓eRng2, ↓eCall, ↓eCallL, ↓eRetL, ↓eSrt, ↓eSrtU, ↓eCB, ↓eNeg, ↓eChain, ↓eAppend, ↓ePop, ↓eNo, ↓eSome, ↓eSl, ↓eAnyG, ↓eAllG, ↓eZip, ↓eZip3, ↓gIsC_, tyN_t, tyN_l, tyN_n, tyN_b, tyN_i, seqP_t, seqP_l, ↓eEn1, ↓eEn2, ↓eSeqA, ↓ePar, ↓gAnyL_, ↓gAllL_, ↓gSumL_, boolsD_map, intsD_map, ↓gSl_t, ↓gSl_l, ↓gSl_a, ↓gAdd_i, ↓gAdd_t, ↓gAdd_s, ↓gAdd_l, ↓gI0_i, ↓gI_i, ↓gMul_i, ↓gMul_t, ↓gEq_, ↓gNe_, ↓gIs_n, ↓gIs_b, ↓gIsNot_n, ↓gIsNot_b, ↓gIn_, ↓gNotIn_, ↓gIx_t, ↓gIx_l, ↓gIx_a, ↓gLen_, ↓gLen_l, ↓gLen_a, ↓gInt_, ↓gInt_b, ↓gTuple_, ↓gTuple_l, ↓gTuple_a, ↓gMax_, ↓gMin_, ↓gIsBool_b, ↓gIsBool_i, seqOf_t, seqOf_l, seqOf_a, lstOf_l, lstOf_a, rsv_i, rsv_b, rsv_s, rsv_n, rsv_t, rsv_l, dle_i, dle_b, dle_n, eqD_i, eqD_b, isNon, bNm_, bTup_, bCons_, bNil_, Option.bind_some, i40, i41, i42, i43, atI0, atI1, atI2, atI3, atI4, atI5, mset_same, true_and, beq_self_eq_true, Bool.false_eq_true, c0, c1, Int.cast_ofNat_Int, Int.reduceEq, Int.reduceLT, Int.reduceLE, Int.reduceAdd, Int.reduceSub, ↓reduceIte]
      exact ⟨l, x, rfl, hq⟩
    rw [any_map_id]
    cases ha : f.any fun l => SubW l x with
    | true =>
      try simp -dsimp only [bodyE, startD, List.map_cons, List.map_nil, List.length_cons, List.length_nil, List.replicate_succ, List.replicate_zero, List.cons_append, List.nil_append, Nat.reduceAdd, Nat.reduceSub, List.set_cons_zero, List.set_cons_succ, List.getElem?_cons_zero, List.getElem?_cons_succ, Bool.not_true, Bool.not_false, decide_true, decide_false, ↓IfS_t, ↓IfS_f, ↓IfE_t, ↓IfE_f, ↓AndT_t, ↓AndT_f, ↓OrT_t, ↓OrT_f, ↓AndV_t, ↓AndV_f, ↓OrV_t, ↓OrV_f, IfS_t, IfS_f, IfE_t, IfE_f, AndT_t, AndT_f, OrT_t, OrT_f, AndV_t, AndV_f, OrV_t, OrV_f, ↓eThen, ↓ePass, ↓eBreak, ↓eCont, ↓eExpr, ↓eRet, ↓eRetN, ↓eIfS, ↓eSet, ↓eOwn, ↓eAsg, ↓eSetIx, ↓eGSetIx, ↓eAug, ↓eIadd, ↓eIaddL, ↓eFrz, ↓eFor, ↓eWhile, ↓eNm, ↓eC, ↓eOp, ↓eB, ↓eTr, ↓eTrB, ↓eTrI, ↓eTrN, ↓eTrT, ↓eTrL, ↓eTrA, ↓eAnd, ↓eOr, ↓eNot, ↓eAndV, ↓eOrV, ↓eNotV, ↓eIf, ↓eNil, ↓eCons, ↓eTup, ↓eOfL, ↓eLstL, ↓eListL, ↓eCatL, ↓eLc, ↓eWipe0, ↓eWipe, ↓eSeq, ↓eRng1, ↓eRng2, ↓eCall, ↓eCallL, ↓eRetL, ↓eSrt, ↓eSrtU, ↓eCB, ↓eNeg, ↓eChain, ↓eAppend, ↓ePop, ↓eNo, ↓eSome, ↓eSl, ↓eAnyG, ↓eAllG, ↓eZip, ↓eZip3, ↓gIsC_, tyN_t, tyN_l, tyN_n, tyN_b, tyN_i, seqP_t, seqP_l, ↓eEn1, ↓eEn2, ↓eSeqA, ↓ePar, ↓gAnyL_, ↓gAllL_, ↓gSumL_, boolsD_map, intsD_map, ↓gSl_t, ↓gSl_l, ↓gSl_a, ↓gAdd_i, ↓gAdd_t, ↓gAdd_s, ↓gAdd_l, ↓gI0_i, ↓gI_i, ↓gMul_i, ↓gMul_t, ↓gEq_, ↓gNe_, ↓gIs_n, ↓gIs_b, ↓gIsNot_n, ↓gIsNot_b, ↓gIn_, ↓gNotIn_, ↓gIx_t, ↓gIx_l, ↓gIx_a, ↓gLen_, ↓gLen_l, ↓gLen_a, ↓gInt_, ↓gInt_b, ↓gTuple_, ↓gTuple_l, ↓gTuple_a, ↓gMax_, ↓gMin_, ↓gIsBool_b, ↓gIsBool_i, seqOf_t, seqOf_l, seqOf_a, lstOf_l, lstOf_a, rsv_i, rsv_b, rsv_s, rsv_n, rsv_t, rsv_l, dle_i, dle_b, dle_n, eqD_i, eqD_b, isNon, bNm_, bTup_, bCons_, bNil_, Option.bind_some, i40, i41, i42, i43, atI0, atI1, atI2, atI3, atI4, atI5, mset_same, true_and, beq_self_eq_true, Bool.false_eq_true, c0, c1, Int.cast_ofNat_Int, Int.reduceEq, Int.reduceLT, Int.reduceLE, Int.reduceAdd, Int.reduceSub, ↓reduceIte]
      exact hn _ _ ⟨rfl, f, _, hf.skip ha, rfl⟩
    | false =>
      try simp -dsimp only [bodyE, startD, List.map_cons, List.map_nil, List.length_cons, List.length_nil, List.replicate_succ, List.replicate_zero, List.cons_append, List.nil_append, Nat.reduceAdd, Nat.reduceSub, List.set_cons_zero, List.set_cons_succ, List.getElem?_cons_zero, List.getElem?_cons_succ, Bool.not_true, Bool.not_false, decide_true, decide_false, ↓IfS_t, ↓IfS_f, ↓IfE_t, ↓IfE_f, ↓AndT_t, ↓AndT_f, ↓OrT_t, ↓OrT_f, ↓AndV_t, ↓AndV_f, ↓OrV_t, ↓OrV_f, IfS_t, IfS_f, IfE_t, IfE_f, AndT_t, AndT_f, OrT_t, OrT_f, AndV_t, AndV_f, OrV_t, OrV_f, ↓eThen, ↓ePass, ↓eBreak, ↓eCont, ↓eExpr, ↓eRet, ↓eRetN, ↓eIfS, ↓eSet, ↓eOwn, ↓eAsg, ↓eSetIx, ↓eGSetIx, ↓eAug, ↓eIadd, ↓eIaddL, ↓eFrz, ↓eFor, ↓eWhile, ↓eNm, ↓eC, ↓eOp, ↓eB, ↓eTr, ↓eTrB, ↓eTrI, ↓eTrN, ↓eTrT, ↓eTrL, ↓eTrA, ↓eAnd, ↓eOr, ↓eNot, ↓eAndV, ↓eOrV, ↓eNotV, ↓eIf, ↓eNil, ↓eCons, ↓eTup, ↓eOfL, ↓eLstL, ↓eListL, ↓eCatL, ↓eLc, ↓eWipe0, ↓eWipe, ↓eSeq, ↓eRng1, ↓eRng2, ↓eCall, ↓eCallL, ↓eRetL, ↓eSrt, ↓eSrtU, ↓eCB, ↓eNeg, ↓eChain, ↓eAppend, ↓ePop, ↓eNo, ↓eSome, ↓eSl, ↓eAnyG, ↓eAllG, ↓eZip, ↓eZip3, ↓gIsC_, tyN_t, tyN_l, tyN_n, tyN_b, tyN_i, seqP_t, seqP_l, ↓eEn1, ↓eEn2, ↓eSeqA, ↓ePar, ↓gAnyL_, ↓gAllL_, ↓gSumL_, boolsD_map, intsD_map, ↓gSl_t, ↓gSl_l, ↓gSl_a, ↓gAdd_i, ↓gAdd_t, ↓gAdd_s, ↓gAdd_l, ↓gI0_i, ↓gI_i, ↓gMul_i, ↓gMul_t, ↓gEq_, ↓gNe_, ↓gIs_n, ↓gIs_b, ↓gIsNot_n, ↓gIsNot_b, ↓gIn_, ↓gNotIn_, ↓gIx_t, ↓gIx_l, ↓gIx_a, ↓gLen_, ↓gLen_l, ↓gLen_a, ↓gInt_, ↓gInt_b, ↓gTuple_, ↓gTuple_l, ↓gTuple_a, ↓gMax_, ↓gMin_, ↓gIsBool_b, ↓gIsBool_i, seqOf_t, seqOf_l, seqOf_a, lstOf_l, lstOf_a, rsv_i, rsv_b, rsv_s, rsv_n, rsv_t, rsv_l, dle_i, dle_b, dle_n, eqD_i, eqD_b, isNon, bNm_, bTup_, bCons_, bNil_, Option.bind_some, i40, i41, i42, i43, atI0, atI1, atI2, atI3, atI4, atI5, mset_same, true_and, beq_self_eq_true, Bool.false_eq_true, c0, c1, Int.cast_ofNat_Int, Int.reduceEq, Int.reduceLT, Int.reduceLE, Int.reduceAdd, Int.reduceSub, ↓reduceIte]
      refine lc_filt (fun o => !SubW x o) wD (by omega) (fun o ho k hk => ?_) (fun o ho _ k hk => ?_) ?_
      · try simp -dsimp only [bodyE, startD, List.map_cons, List.map_nil, List.length_cons, List.length_nil, List.replicate_succ, List.replicate_zero, List.cons_append, List.nil_append, Nat.reduceAdd, Nat.reduceSub, List.set_cons_zero, List.set_cons_succ, List.getElem?_cons_zero, List.getElem?_cons_succ, Bool.not_true, Bool.not_false, decide_true, decide_false, ↓IfS_t, ↓IfS_f, ↓IfE_t, ↓IfE_f, ↓AndT_t, ↓AndT_f, ↓OrT_t, ↓OrT_f, ↓AndV_t, ↓AndV_f, ↓OrV_t, ↓OrV_f, IfS_t, IfS_f, IfE_t, IfE_f, AndT_t, AndT_f, OrT_t, OrT_f, AndV_t, AndV_f, OrV_t, OrV_f, ↓eThen, ↓ePass, ↓eBreak, ↓eCont, ↓eExpr, ↓eRet, ↓eRetN, ↓eIfS, ↓eSet, ↓eOwn, ↓eAsg, ↓eSetIx, ↓eGSetIx, ↓eAug, ↓eIadd, ↓eIaddL, ↓eFrz, ↓eFor, ↓eWhile, ↓eNm, ↓eC, ↓eOp, ↓eB, ↓eTr, ↓eTrB, ↓eTrI, ↓eTrN, ↓eTrT, ↓eTrL, ↓eTrA, ↓eAnd, ↓eOr, ↓eNot, ↓eAndV, ↓eOrV, ↓eNotV, ↓eIf, ↓eNil, ↓eCons, ↓eTup, ↓eOfL, ↓eLstL, ↓eListL, ↓eCatL, ↓eLc, ↓eWipe0, ↓eWipe, ↓eSeq, ↓eRng1, ↓eRng2, ↓eCall, ↓eCallL, ↓eRetL, ↓eSrt, ↓eSrtU, ↓eCB, ↓eNeg, ↓eChain, ↓eAppend, ↓ePop, ↓eNo, ↓eSome, ↓eSl, ↓eAnyG, ↓eAllG, ↓eZip, ↓eZip3, ↓gIsC_, tyN_t, tyN_l, tyN_n, tyN_b, tyN_i, seqP_t, seqP_l, ↓eEn1, ↓eEn2, ↓eSeqA, ↓ePar, ↓gAnyL_, ↓gAllL_, ↓gSumL_, boolsD_map, intsD_map, ↓gSl_t, ↓gSl_l, ↓gSl_a, ↓gAdd_i, ↓gAdd_t, ↓gAdd_s, ↓gAdd_l, ↓gI0_i, ↓gI_i, ↓gMul_i, ↓gMul_t, ↓gEq_, ↓gNe_, ↓gIs_n, ↓gIs_b, ↓gIsNot_n, ↓gIsNot_b, ↓gIn_, ↓gNotIn_, ↓gIx_t, ↓gIx_l, ↓gIx_a, ↓gLen_, ↓gLen_l, ↓gLen_a, ↓gInt_, ↓gInt_b, ↓gTuple_, ↓gTuple_l, ↓gTuple_a, ↓gMax_, ↓gMin_, ↓gIsBool_b, ↓gIsBool_i, seqOf_t, seqOf_l, seqOf_a, lstOf_l, lstOf_a, rsv_i, rsv_b, rsv_s, rsv_n, rsv_t, rsv_l, dle_i, dle_b, dle_n, eqD_i, eqD_b, isNon, bNm_, bTup_, bCons_, bNil_, Option.bind_some, i40, i41, i42, i43, atI0, atI1, atI2, atI3, atI4, atI5, mset_same, true_and, beq_self_eq_true, Bool.false_eq_true, c0, c1, Int.cast_ofNat_Int, Int.reduceEq, Int.reduceLT, Int.reduceLE, Int.reduceAdd, Int.reduceSub, ↓reduceIte]
        exact ⟨x, o, rfl, by try simp -dsimp only [bodyE, startD, List.map_cons, List.map_nil, List.length_cons, List.length_nil, List.replicate_succ, List.replicate_zero, List.cons_append, List.nil_append, Nat.reduceAdd, Nat.reduceSub, List.set_cons_zero, List.set_cons_succ, List.getElem?_cons_zero, List.getElem?_cons_succ, Bool.not_true, Bool.not_false, decide_true, decide_false, ↓IfS_t, ↓IfS_f, ↓IfE_t, ↓IfE_f, ↓AndT_t, ↓AndT_f, ↓OrT_t, ↓OrT_f, ↓AndV_t, ↓AndV_f, ↓OrV_t, ↓OrV_f, IfS_t, IfS_f, IfE_t, IfE_f, AndT_t, AndT_f, OrT_t, OrT_f, AndV_t, AndV_f, OrV_t, OrV_f, ↓eThen, ↓ePass, ↓eBreak, ↓eCont, ↓eExpr, ↓eRet, ↓eRetN, ↓eIfS, ↓eSet, ↓eOwn, ↓eAsg, ↓eSetIx, ↓eGSetIx, ↓eAug, ↓eIadd, ↓eIaddL, ↓eFrz, ↓eFor, ↓eWhile, ↓eNm, ↓eC, ↓eOp, ↓eB, ↓eTr, ↓eTrB, ↓eTrI, ↓eTrN, ↓eTrT, ↓eTrL, ↓eTrA, ↓eAnd, ↓eOr, ↓eNot, ↓eAndV, ↓eOrV, ↓eNotV, ↓eIf, ↓eNil, ↓eCons, ↓eTup, ↓eOfL, ↓eLstL, ↓eListL, ↓eCatL, ↓eLc, ↓eWipe0, ↓eWipe, ↓eSeq, ↓eRng1, ↓eRng2, ↓eCall, ↓eCallL, ↓eRetL, ↓eSrt, ↓eSrtU, ↓eCB, ↓eNeg, ↓eChain, ↓eAppend, ↓ePop, ↓eNo, ↓eSome, ↓eSl, ↓eAnyG, ↓eAllG, ↓eZip, ↓eZip3, ↓gIsC_, tyN_t, tyN_l, tyN_n, tyN_b, tyN_i, seqP_t, seqP_l, ↓eEn1, ↓eEn2, ↓eSeqA, ↓ePar, ↓gAnyL_, ↓gAllL_, ↓gSumL_, boolsD_map, intsD_map, ↓gSl_t, ↓gSl_l, ↓gSl_a, ↓gAdd_i, ↓gAdd_t, ↓gAdd_s, ↓gAdd_l, ↓gI0_i, ↓gI_i, ↓gMul_i, ↓gMul_t, ↓gEq_, ↓gNe_, ↓gIs_n, ↓gIs_b, ↓gIsNot_n, ↓gIsNot_b, ↓gIn_, ↓gNotIn_, ↓gIx_t, ↓gIx_l, ↓gIx_a, ↓gLen_, ↓gLen_l, ↓gLen_a, ↓gInt_, ↓gInt_b, ↓gTuple_, ↓gTuple_l, ↓gTuple_a, ↓gMax_, ↓gMin_, ↓gIsBool_b, ↓gIsBool_i, seqOf_t, seqOf_l, seqOf_a, lstOf_l, lstOf_a, rsv_i, rsv_b, rsv_s, rsv_n, rsv_t, rsv_l, dle_i, dle_b, dle_n, eqD_i, eqD_b, isNon, bNm_, bTup_, bCons_, bNil_, Option.bind_some, i40, i41, i42, i43, atI0, atI1, atI2, atI3, atI4, atI5, mset_same, true_and, beq_self_eq_true, Bool.false_eq_true, c0, c1, Int.cast_ofNat_Int, Int.reduceEq, Int.reduceLT, Int.reduceLE, Int.reduceAdd, Int.reduceSub, ↓reduceIte]; exact hk⟩
      · try simp -dsimp only [bodyE, startD, List.map_cons, List.map_nil, List.length_cons, List.length_nil, List.replicate_succ, List.replicate_zero, List.cons_append, List.nil_append, Nat.reduceAdd, Nat.reduceSub, List.set_cons_zero, List.set_cons_succ, List.getElem?_cons_zero, List.getElem?_cons_succ, Bool.not_true, Bool.not_false, decide_true, decide_false, ↓IfS_t, ↓IfS_f, ↓IfE_t, ↓IfE_f, ↓AndT_t, ↓AndT_f, ↓OrT_t, ↓OrT_f, ↓AndV_t, ↓AndV_f, ↓OrV_t, ↓OrV_f, IfS_t, IfS_f, IfE_t, IfE_f, AndT_t, AndT_f, OrT_t, OrT_f, AndV_t, AndV_f, OrV_t, OrV_f, ↓eThen, ↓ePass, ↓eBreak, ↓eCont, ↓eExpr, ↓eRet, ↓eRetN, ↓eIfS, ↓eSet, ↓eOwn, ↓eAsg, ↓eSetIx, ↓eGSetIx, ↓eAug, ↓eIadd, ↓eIaddL, ↓eFrz, ↓eFor, ↓eWhile, ↓eNm, ↓eC, ↓eOp, ↓eB, ↓eTr, ↓eTrB, ↓eTrI, ↓eTrN, ↓eTrT, ↓eTrL, ↓eTrA, ↓eAnd, ↓eOr, ↓eNot, ↓eAndV, ↓eOrV, ↓eNotV, ↓eIf, ↓eNil, ↓eCons, ↓eTup, ↓eOfL, ↓eLstL, ↓eListL, ↓eCatL, ↓eLc, ↓eWipe0, ↓eWipe, ↓eSeq, ↓eRng1, ↓eRng2, ↓eCall, ↓eCallL, ↓eRetL, ↓eSrt, ↓eSrtU, ↓eCB, ↓eNeg, ↓eChain, ↓eAppend, ↓ePop, ↓eNo, ↓eSome, ↓eSl, ↓eAnyG, ↓eAllG, ↓eZip, ↓eZip3, ↓gIsC_, tyN_t, tyN_l, tyN_n, tyN_b, tyN_i, seqP_t, seqP_l, ↓eEn1, ↓eEn2, ↓eSeqA, ↓ePar, ↓gAnyL_, ↓gAllL_, ↓gSumL_, boolsD_map, intsD_map, ↓gSl_t, ↓gSl_l, ↓gSl_a, ↓gAdd_i, ↓gAdd_t, ↓gAdd_s, ↓gAdd_l, ↓gI0_i, ↓gI_i, ↓gMul_i, ↓gMul_t, ↓gEq_, ↓gNe_, ↓gIs_n, ↓gIs_b, ↓gIsNot_n, ↓gIsNot_b, ↓gIn_, ↓gNotIn_, ↓gIx_t, ↓gIx_l, ↓gIx_a, ↓gLen_, ↓gLen_l, ↓gLen_a, ↓gInt_, ↓gInt_b, ↓gTuple_, ↓gTuple_l, ↓gTuple_a, ↓gMax_, ↓gMin_, ↓gIsBool_b, ↓gIsBool_i, seqOf_t, seqOf_l, seqOf_a, lstOf_l, lstOf_a, rsv_i, rsv_b, rsv_s, rsv_n, rsv_t, rsv_l, dle_i, dle_b, dle_n, eqD_i, eqD_b, isNon, bNm_, bTup_, bCons_, bNil_, Option.bind_some, i40, i41, i42, i43, atI0, atI1, atI2, atI3, atI4, atI5, mset_same, true_and, beq_self_eq_true, Bool.false_eq_true, c0, c1, Int.cast_ofNat_Int, Int.reduceEq, Int.reduceLT, Int.reduceLE, Int.reduceAdd, Int.reduceSub, ↓reduceIte]
        exact hk
      · try simp -dsimp only [bodyE, startD, List.map_cons, List.map_nil, List.length_cons, List.length_nil, List.replicate_succ, List.replicate_zero, List.cons_append, List.nil_append, Nat.reduceAdd, Nat.reduceSub, List.set_cons_zero, List.set_cons_succ, List.getElem?_cons_zero, List.getElem?_cons_succ, Bool.not_true, Bool.not_false, decide_true, decide_false, ↓IfS_t, ↓IfS_f, ↓IfE_t, ↓IfE_f, ↓AndT_t, ↓AndT_f, ↓OrT_t, ↓OrT_f, ↓AndV_t, ↓AndV_f, ↓OrV_t, ↓OrV_f, IfS_t, IfS_f, IfE_t, IfE_f, AndT_t, AndT_f, OrT_t, OrT_f, AndV_t, AndV_f, OrV_t, OrV_f, ↓eThen, ↓ePass, ↓eBreak, ↓eCont, ↓eExpr, ↓eRet, ↓eRetN, ↓eIfS, ↓eSet, ↓eOwn, ↓eAsg, ↓eSetIx, ↓eGSetIx, ↓eAug, ↓eIadd, ↓eIaddL, ↓eFrz, ↓eFor, ↓eWhile, ↓eNm, ↓eC, ↓eOp, ↓eB, ↓eTr, ↓eTrB, ↓eTrI, ↓eTrN, ↓eTrT, ↓eTrL, ↓eTrA, ↓eAnd, ↓eOr, ↓eNot, ↓eAndV, ↓eOrV, ↓eNotV, ↓eIf, ↓eNil, ↓eCons, ↓eTup, ↓eOfL, ↓eLstL, ↓eListL, ↓eCatL, ↓eLc, ↓eWipe0, ↓eWipe, ↓eSeq, ↓eRng1, ↓eRng2, ↓eCall, ↓eCallL, ↓eRetL, ↓eSrt, ↓eSrtU, ↓eCB, ↓eNeg, ↓eChain, ↓eAppend, ↓ePop, ↓eNo, ↓eSome, ↓eSl, ↓eAnyG, ↓eAllG, ↓eZip, ↓eZip3, ↓gIsC_, tyN_t, tyN_l, tyN_n, tyN_b, tyN_i, seqP_t, seqP_l, ↓eEn1, ↓eEn2, ↓eSeqA, ↓ePar, ↓gAnyL_, ↓gAllL_, ↓gSumL_, boolsD_map, intsD_map, ↓gSl_t, ↓gSl_l, ↓gSl_a, ↓gAdd_i, ↓gAdd_t, ↓gAdd_s, ↓gAdd_l, ↓gI0_i, ↓gI_i, ↓gMul_i, ↓gMul_t, ↓gEq_, ↓gNe_, ↓gIs_n, ↓gIs_b, ↓gIsNot_n, ↓gIsNot_b, ↓gIn_, ↓gNotIn_, ↓gIx_t, ↓gIx_l, ↓gIx_a, ↓gLen_, ↓gLen_l, ↓gLen_a, ↓gInt_, ↓gInt_b, ↓gTuple_, ↓gTuple_l, ↓gTuple_a, ↓gMax_, ↓gMin_, ↓gIsBool_b, ↓gIsBool_i, seqOf_t, seqOf_l, seqOf_a, lstOf_l, lstOf_a, rsv_i, rsv_b, rsv_s, rsv_n, rsv_t, rsv_l, dle_i, dle_b, dle_n, eqD_i, eqD_b, isNon, bNm_, bTup_, bCons_, bNil_, Option.bind_some, i40, i41, i42, i43, atI0, atI1, atI2, atI3, atI4, atI5, mset_same, true_and, beq_self_eq_true, Bool.false_eq_true, c0, c1, Int.cast_ofNat_Int, Int.reduceEq, Int.reduceLT, Int.reduceLE, Int.reduceAdd, Int.reduceSub, ↓reduceIte, List.length_map]
        refine ⟨by decide, by have := List.length_filter_le (fun o => !SubW x o) f; omega, ?_⟩
        refine hn _ _ ⟨rfl, _, some (wD x), hf.put word_ord (fun _ _ => trivial) trivial hnx ha, ?_⟩
        rw [List.map_append]; rfl
  · rintro ρ M' ⟨rfl, f, o2, hf, rfl⟩
    have fl' : f.length ≤ xs.length := nodup_len f xs hf.nd fun y hy => (hz y).mp (hf.sub y hy)
    have fsub : ∀ y ∈ f, y ∈ xs := fun y hy => (hz y).mp (hf.sub y hy)
    have fne : f.length ≤ 1 ∨ ∀ x ∈ f, x ≠ [] := hp.imp (fun h => Nat.le_trans fl' h) fun h x hx => h x (fsub x hx)
    obtain ⟨ys, e, h1, h2⟩ := srt_ex (fun _ _ => wD_inj) (srtOk_w fne) hf.nd
    have il : IsLeast xs ys := ⟨h2, fun y => by rw [h1, hf.mem word_ord (fun _ _ => trivial) y, hz, mini_srt hz]⟩
    try simp -dsimp only [bodyE, startD, List.map_cons, List.map_nil, List.length_cons, List.length_nil, List.replicate_succ, List.replicate_zero, List.cons_append, List.nil_append, Nat.reduceAdd, Nat.reduceSub, List.set_cons_zero, List.set_cons_succ, List.getElem?_cons_zero, List.getElem?_cons_succ, Bool.not_true, Bool.not_false, decide_true, decide_false, ↓IfS_t, ↓IfS_f, ↓IfE_t, ↓IfE_f, ↓AndT_t, ↓AndT_f, ↓OrT_t, ↓OrT_f, ↓AndV_t, ↓AndV_f, ↓OrV_t, ↓OrV_f, IfS_t, IfS_f, IfE_t, IfE_f, AndT_t, AndT_f, OrT_t, OrT_f, AndV_t, AndV_f, OrV_t, OrV_f, ↓eThen, ↓ePass, ↓eBreak, ↓eCont, ↓eExpr, ↓eRet, ↓eRetN, ↓eIfS, ↓eSet, ↓eOwn, ↓eAsg, ↓eSetIx, ↓eGSetIx, ↓eAug, ↓eIadd, ↓eIaddL, ↓eFrz, ↓eFor, ↓eWhile, ↓eNm, ↓eC, ↓eOp, ↓eB, ↓eTr, ↓eTrB, ↓eTrI, ↓eTrN, ↓eTrT, ↓eTrL, ↓eTrA, ↓eAnd, ↓eOr, ↓eNot, ↓eAndV, ↓eOrV, ↓eNotV, ↓eIf, ↓eNil, ↓eCons, ↓eTup, ↓eOfL, ↓eLstL, ↓eListL, ↓eCatL, ↓eLc, ↓eWipe0, ↓eWipe, ↓eSeq, ↓eRng1, ↓eRng2, ↓eCall, ↓eCallL, ↓eRetL, ↓eSrt, ↓eSrtU, ↓eCB, ↓eNeg, ↓eChain, ↓eAppend, ↓ePop, ↓eNo, ↓eSome, ↓eSl, ↓eAnyG, ↓eAllG, ↓eZip, ↓eZip3, ↓gIsC_, tyN_t, tyN_l, tyN_n, tyN_b, tyN_i, seqP_t, seqP_l, ↓eEn1, ↓eEn2, ↓eSeqA, ↓ePar, ↓gAnyL_, ↓gAllL_, ↓gSumL_, boolsD_map, intsD_map, ↓gSl_t, ↓gSl_l, ↓gSl_a, ↓gAdd_i, ↓gAdd_t, ↓gAdd_s, ↓gAdd_l, ↓gI0_i, ↓gI_i, ↓gMul_i, ↓gMul_t, ↓gEq_, ↓gNe_, ↓gIs_n, ↓gIs_b, ↓gIsNot_n, ↓gIsNot_b, ↓gIn_, ↓gNotIn_, ↓gIx_t, ↓gIx_l, ↓gIx_a, ↓gLen_, ↓gLen_l, ↓gLen_a, ↓gInt_, ↓gInt_b, ↓gTuple_, ↓gTuple_l, ↓gTuple_a, ↓gMax_, ↓gMin_, ↓gIsBool_b, ↓gIsBool_i, seqOf_t, seqOf_l, seqOf_a, lstOf_l, lstOf_a, rsv_i, rsv_b, rsv_s, rsv_n, rsv_t, rsv_l, dle_i, dle_b, dle_n, eqD_i, eqD_b, isNon, bNm_, bTup_, bCons_, bNil_, Option.bind_some, i40, i41, i42, i43, atI0, atI1, atI2, atI3, atI4, atI5, mset_same, true_and, beq_self_eq_true, Bool.false_eq_true, c0, c1, Int.cast_ofNat_Int, Int.reduceEq, Int.reduceLT, Int.reduceLE, Int.reduceAdd, Int.reduceSub, ↓reduceIte, okQ_w (n := 1000) fne (Nat.le_trans fl' (Nat.le_trans hl (by decide))), e]
    exact q ys il (nodup_len _ _ h2.nodup fun y hy => fsub y ((h1 y).mp hy))
theorem bin_le : ∀ i, i < 3 → ∀ j, j < 3 → bin i j ≤ bin (i + 1) (j + 1) ∧ bin i (j + 1) + bin (i + 1) j = bin (i + 1) (j + 1) ∧ bin (i + 1) (j + 1) ≤ 20 := by decide +kernel
theorem bin_z : ∀ i, i < 4 → bin i 0 = 1 ∧ bin 0 i = 1 := by decide +kernel
theorem b_superwords (n : Nat) (ds : List D) (M : Mu) (Q : D → Mu → Prop) (xw : XW) (h : S_superwords (n + 1) ds M Q xw) : bodyE N_superwords (f_superwords (S_superwords n) S_least_words) ds M Q xw := by
  obtain ⟨u, v, rfl, hn, hu, hv, q⟩ := h
  have q' := q
  have q : ∀ R, Sup u v R → R.length ≤ bin u.length v.length → Q (.lst (R.map wD)) (mres M M) := fun R h k => by rw [mres_self]; exact q R h k
  have hsz : sizeLine = 16777216 := rfl
  have small : u = [] ∨ v = [] → Q (.lst [wD (u ++ v)]) (mres M M) := fun h => by
    refine q [u ++ v] (sup_nil h) ?_
    rcases h with rfl | rfl
    · show 1 ≤ bin 0 v.length
      rw [(bin_z v.length (by omega)).2]; exact Nat.le_refl _
    · show 1 ≤ bin u.length 0
      rw [(bin_z u.length (by omega)).1]; exact Nat.le_refl _
  simp only [bodyE, bodyL, startD, N_superwords, List.map_cons, List.map_nil, List.length_cons, List.length_nil, List.replicate_succ, List.replicate_zero, List.cons_append, List.nil_append, Nat.reduceAdd, Nat.reduceSub]
  unfold f_superwords
  cases u with
  | nil =>
    unfold wD at small ⊢
    try simp -dsimp only [bodyE, startD, List.map_cons, List.map_nil, List.length_cons, List.length_nil, List.replicate_succ, List.replicate_zero, List.cons_append, List.nil_append, Nat.reduceAdd, Nat.reduceSub, List.set_cons_zero, List.set_cons_succ, List.getElem?_cons_zero, List.getElem?_cons_succ, Bool.not_true, Bool.not_false, decide_true, decide_false, ↓IfS_t, ↓IfS_f, ↓IfE_t, ↓IfE_f, ↓AndT_t, ↓AndT_f, ↓OrT_t, ↓OrT_f, ↓AndV_t, ↓AndV_f, ↓OrV_t, ↓OrV_f, IfS_t, IfS_f, IfE_t, IfE_f, AndT_t, AndT_f, OrT_t, OrT_f, AndV_t, AndV_f, OrV_t, OrV_f, ↓eThen, ↓ePass, ↓eBreak, ↓eCont, ↓eExpr, ↓eRet, ↓eRetN, ↓eIfS, ↓eSet, ↓eOwn, ↓eAsg, ↓eSetIx, ↓eGSetIx, ↓eAug, ↓eIadd, ↓eIaddL, ↓eFrz, ↓eFor, ↓eWhile, ↓eNm, ↓eC, ↓eOp, ↓eB, ↓eTr, ↓eTrB, ↓eTrI, ↓eTrN, ↓eTrT, ↓eTrL, ↓eTrA, ↓eAnd, ↓eOr, ↓eNot, ↓eAndV, ↓eOrV, ↓eNotV, ↓eIf, ↓eNil, ↓eCons, ↓eTup, ↓eOfL, ↓eLstL, ↓eListL, ↓eCatL, ↓eLc, ↓eWipe0, ↓eWipe, ↓eSeq, ↓eRng1, ↓eRng2, ↓eCall, ↓eCallL, ↓eRetL, ↓eSrt, ↓eSrtU, ↓eCB, ↓eNeg, ↓eChain, ↓eAppend, ↓ePop, ↓eNo, ↓eSome, ↓eSl, ↓eAnyG, ↓eAllG, ↓eZip, ↓eZip3, ↓gIsC_, tyN_t, tyN_l, tyN_n, tyN_b, tyN_i, seqP_t, seqP_l, ↓eEn1, ↓eEn2, ↓eSeqA, ↓ePar, ↓gAnyL_, ↓gAllL_, ↓gSumL_, boolsD_map, intsD_map, ↓gSl_t, ↓gSl_l, ↓gSl_a, ↓gAdd_i, ↓gAdd_t, ↓gAdd_s, ↓gAdd_l, ↓gI0_i, ↓gI_i, ↓gMul_i, ↓gMul_t, ↓gEq_, ↓gNe_, ↓gIs_n, ↓gIs_b, ↓gIsNot_n, ↓gIsNot_b, ↓gIn_, ↓gNotIn_, ↓gIx_t, ↓gIx_l, ↓gIx_a, ↓gLen_, ↓gLen_l, ↓gLen_a, ↓gInt_, ↓gInt_b, ↓gTuple_, ↓gTuple_l, ↓gTuple_a, ↓gMax_, ↓gMin_, ↓gIsBool_b, ↓gIsBool_i, seqOf_t, seqOf_l, seqOf_a, lstOf_l, lstOf_a, rsv_i, rsv_b, rsv_s, rsv_n, rsv_t, rsv_l, dle_i, dle_b, dle_n, eqD_i, eqD_b, isNon, bNm_, bTup_, bCons_, bNil_, Option.bind_some, i40, i41, i42, i43, atI0, atI1, atI2, atI3, atI4, atI5, mset_same, true_and, beq_self_eq_true, Bool.false_eq_true, c0, c1, Int.cast_ofNat_Int, Int.reduceEq, Int.reduceLT, Int.reduceLE, Int.reduceAdd, Int.reduceSub, ↓reduceIte, List.isEmpty_nil]
    refine ⟨by rw [List.length_map]; omega, by decide, small (.inl rfl)⟩
  | cons a u =>
    cases v with
    | nil =>
      unfold wD at small ⊢
      try simp -dsimp only [bodyE, startD, List.map_cons, List.map_nil, List.length_cons, List.length_nil, List.replicate_succ, List.replicate_zero, List.cons_append, List.nil_append, Nat.reduceAdd, Nat.reduceSub, List.set_cons_zero, List.set_cons_succ, List.getElem?_cons_zero, List.getElem?_cons_succ, Bool.not_true, Bool.not_false, decide_true, decide_false, ↓IfS_t, ↓IfS_f, ↓IfE_t, ↓IfE_f, ↓AndT_t, ↓AndT_f, ↓OrT_t, ↓OrT_f, ↓AndV_t, ↓AndV_f, ↓OrV_t, ↓OrV_f, IfS_t, IfS_f, IfE_t, IfE_f, AndT_t, AndT_f, OrT_t, OrT_f, AndV_t, AndV_f, OrV_t, OrV_f, ↓eThen, ↓ePass, ↓eBreak, ↓eCont, ↓eExpr, ↓eRet, ↓eRetN, ↓eIfS, ↓eSet, ↓eOwn, ↓eAsg, ↓eSetIx, ↓eGSetIx, ↓eAug, ↓eIadd, ↓eIaddL, ↓eFrz, ↓eFor, ↓eWhile, ↓eNm, ↓eC, ↓eOp, ↓eB, ↓eTr, ↓eTrB, ↓eTrI, ↓eTrN, ↓eTrT, ↓eTrL, ↓eTrA, ↓eAnd, ↓eOr, ↓eNot, ↓eAndV, ↓eOrV, ↓eNotV, ↓eIf, ↓eNil, ↓eCons, ↓eTup, ↓eOfL, ↓eLstL, ↓eListL, ↓eCatL, ↓eLc, ↓eWipe0, ↓eWipe, ↓eSeq, ↓eRng1, ↓eRng2, ↓eCall, ↓eCallL, ↓eRetL, ↓eSrt, ↓eSrtU, ↓eCB, ↓eNeg, ↓eChain, ↓eAppend, ↓ePop, ↓eNo, ↓eSome, ↓eSl, ↓eAnyG, ↓eAllG, ↓eZip, ↓eZip3, ↓gIsC_, tyN_t, tyN_l, tyN_n, tyN_b, tyN_i, seqP_t, seqP_l, ↓eEn1, ↓eEn2, ↓eSeqA, ↓ePar, ↓gAnyL_, ↓gAllL_, ↓gSumL_, boolsD_map, intsD_map, ↓gSl_t, ↓gSl_l, ↓gSl_a, ↓gAdd_i, ↓gAdd_t, ↓gAdd_s, ↓gAdd_l, ↓gI0_i, ↓gI_i, ↓gMul_i, ↓gMul_t, ↓gEq_, ↓gNe_, ↓gIs_n, ↓gIs_b, ↓gIsNot_n, ↓gIsNot_b, ↓gIn_, ↓gNotIn_, ↓gIx_t, ↓gIx_l, ↓gIx_a, ↓gLen_, ↓gLen_l, ↓gLen_a, ↓gInt_, ↓gInt_b, ↓gTuple_, ↓gTuple_l, ↓gTuple_a, ↓gMax_, ↓gMin_, ↓gIsBool_b, ↓gIsBool_i, seqOf_t, seqOf_l, seqOf_a, lstOf_l, lstOf_a, rsv_i, rsv_b, rsv_s, rsv_n, rsv_t, rsv_l, dle_i, dle_b, dle_n, eqD_i, eqD_b, isNon, bNm_, bTup_, bCons_, bNil_, Option.bind_some, i40, i41, i42, i43, atI0, atI1, atI2, atI3, atI4, atI5, mset_same, true_and, beq_self_eq_true, Bool.false_eq_true, c0, c1, Int.cast_ofNat_Int, Int.reduceEq, Int.reduceLT, Int.reduceLE, Int.reduceAdd, Int.reduceSub, ↓reduceIte, List.isEmpty_nil, List.isEmpty_cons]
      rw [List.map_append] at small
      simp only [List.map_cons, List.map_nil, List.append_nil, List.length_cons, List.length_map] at small hu ⊢
      exact ⟨by omega, by decide, small (.inr trivial)⟩
    | cons b v =>
      simp only [List.length_cons] at hu hv hn
      have bl := bin_le u.length (by omega) v.length (by omega)
      have sl : ∀ (w : List Int), D.tup (w.map D.int) = wD w := fun _ => rfl
      have hd : ∀ (x : Int) (w : List Int), cutD (D.int x :: w.map D.int) (some 1) none = w.map D.int := fun x w => cut1
      have tk : ∀ (x : Int) (w : List Int), cutD (D.int x :: w.map D.int) none (some 1) = [D.int x] := fun x w => by rw [cut_to (by decide)]; rfl
      unfold wD
      try simp -dsimp only [bodyE, startD, List.map_cons, List.map_nil, List.length_cons, List.length_nil, List.replicate_succ, List.replicate_zero, List.cons_append, List.nil_append, Nat.reduceAdd, Nat.reduceSub, List.set_cons_zero, List.set_cons_succ, List.getElem?_cons_zero, List.getElem?_cons_succ, Bool.not_true, Bool.not_false, decide_true, decide_false, ↓IfS_t, ↓IfS_f, ↓IfE_t, ↓IfE_f, ↓AndT_t, ↓AndT_f, ↓OrT_t, ↓OrT_f, ↓AndV_t, ↓AndV_f, ↓OrV_t, ↓OrV_f, IfS_t, IfS_f, IfE_t, IfE_f, AndT_t, AndT_f, OrT_t, OrT_f, AndV_t, AndV_f, OrV_t, OrV_f, ↓eThen, ↓ePass, ↓eBreak, ↓eCont, ↓eExpr, ↓eRet, ↓eRetN, ↓eIfS, ↓eSet, ↓eOwn, ↓eAsg, ↓eSetIx, ↓eGSetIx, ↓eAug, ↓eIadd, ↓eIaddL, ↓eFrz, ↓eFor, ↓eWhile, ↓eNm, ↓eC, ↓eOp, ↓eB, ↓eTr, ↓eTrB, ↓eTrI, ↓eTrN, ↓eTrT, ↓eTrL, ↓eTrA, ↓eAnd, ↓eOr, ↓eNot, ↓eAndV, ↓eOrV, ↓eNotV, ↓eIf, ↓eNil, ↓eCons, ↓eTup, ↓eOfL, ↓eLstL, ↓eListL, ↓eCatL, ↓eLc, ↓eWipe0, ↓eWipe, ↓eSeq, ↓eRng1, ↓eRng2, ↓eCall, ↓eCallL, ↓eRetL, ↓eSrt, ↓eSrtU, ↓eCB, ↓eNeg, ↓eChain, ↓eAppend, ↓ePop, ↓eNo, ↓eSome, ↓eSl, ↓eAnyG, ↓eAllG, ↓eZip, ↓eZip3, ↓gIsC_, tyN_t, tyN_l, tyN_n, tyN_b, tyN_i, seqP_t, seqP_l, ↓eEn1, ↓eEn2, ↓eSeqA, ↓ePar, ↓gAnyL_, ↓gAllL_, ↓gSumL_, boolsD_map, intsD_map, ↓gSl_t, ↓gSl_l, ↓gSl_a, ↓gAdd_i, ↓gAdd_t, ↓gAdd_s, ↓gAdd_l, ↓gI0_i, ↓gI_i, ↓gMul_i, ↓gMul_t, ↓gEq_, ↓gNe_, ↓gIs_n, ↓gIs_b, ↓gIsNot_n, ↓gIsNot_b, ↓gIn_, ↓gNotIn_, ↓gIx_t, ↓gIx_l, ↓gIx_a, ↓gLen_, ↓gLen_l, ↓gLen_a, ↓gInt_, ↓gInt_b, ↓gTuple_, ↓gTuple_l, ↓gTuple_a, ↓gMax_, ↓gMin_, ↓gIsBool_b, ↓gIsBool_i, seqOf_t, seqOf_l, seqOf_a, lstOf_l, lstOf_a, rsv_i, rsv_b, rsv_s, rsv_n, rsv_t, rsv_l, dle_i, dle_b, dle_n, eqD_i, eqD_b, isNon, bNm_, bTup_, bCons_, bNil_, Option.bind_some, i40, i41, i42, i43, atI0, atI1, atI2, atI3, atI4, atI5, mset_same, true_and, beq_self_eq_true, Bool.false_eq_true, c0, c1, Int.cast_ofNat_Int, Int.reduceEq, Int.reduceLT, Int.reduceLE, Int.reduceAdd, Int.reduceSub, ↓reduceIte, List.isEmpty_cons, hd, tk, sl]
      by_cases hab : a = b
      · subst hab
        rw [decide_eq_true rfl]
        try simp -dsimp only [bodyE, startD, List.map_cons, List.map_nil, List.length_cons, List.length_nil, List.replicate_succ, List.replicate_zero, List.cons_append, List.nil_append, Nat.reduceAdd, Nat.reduceSub, List.set_cons_zero, List.set_cons_succ, List.getElem?_cons_zero, List.getElem?_cons_succ, Bool.not_true, Bool.not_false, decide_true, decide_false, ↓IfS_t, ↓IfS_f, ↓IfE_t, ↓IfE_f, ↓AndT_t, ↓AndT_f, ↓OrT_t, ↓OrT_f, ↓AndV_t, ↓AndV_f, ↓OrV_t, ↓OrV_f, IfS_t, IfS_f, IfE_t, IfE_f, AndT_t, AndT_f, OrT_t, OrT_f, AndV_t, AndV_f, OrV_t, OrV_f, ↓eThen, ↓ePass, ↓eBreak, ↓eCont, ↓eExpr, ↓eRet, ↓eRetN, ↓eIfS, ↓eSet, ↓eOwn, ↓eAsg, ↓eSetIx, ↓eGSetIx, ↓eAug, ↓eIadd, ↓eIaddL, ↓eFrz, ↓eFor, ↓eWhile, ↓eNm, ↓eC, ↓eOp, ↓eB, ↓eTr, ↓eTrB, ↓eTrI, ↓eTrN, ↓eTrT, ↓eTrL, ↓eTrA, ↓eAnd, ↓eOr, ↓eNot, ↓eAndV, ↓eOrV, ↓eNotV, ↓eIf, ↓eNil, ↓eCons, ↓eTup, ↓eOfL, ↓eLstL, ↓eListL, ↓eCatL, ↓eLc, ↓eWipe0, ↓eWipe, ↓eSeq, ↓eRng1, ↓eRng2, ↓eCall, ↓eCallL, ↓eRetL, ↓eSrt, ↓eSrtU, ↓eCB, ↓eNeg, ↓eChain, ↓eAppend, ↓ePop, ↓eNo, ↓eSome, ↓eSl, ↓eAnyG, ↓eAllG, ↓eZip, ↓eZip3, ↓gIsC_, tyN_t, tyN_l, tyN_n, tyN_b, tyN_i, seqP_t, seqP_l, ↓eEn1, ↓eEn2, ↓eSeqA, ↓ePar, ↓gAnyL_, ↓gAllL_, ↓gSumL_, boolsD_map, intsD_map, ↓gSl_t, ↓gSl_l, ↓gSl_a, ↓gAdd_i, ↓gAdd_t, ↓gAdd_s, ↓gAdd_l, ↓gI0_i, ↓gI_i, ↓gMul_i, ↓gMul_t, ↓gEq_, ↓gNe_, ↓gIs_n, ↓gIs_b, ↓gIsNot_n, ↓gIsNot_b, ↓gIn_, ↓gNotIn_, ↓gIx_t, ↓gIx_l, ↓gIx_a, ↓gLen_, ↓gLen_l, ↓gLen_a, ↓gInt_, ↓gInt_b, ↓gTuple_, ↓gTuple_l, ↓gTuple_a, ↓gMax_, ↓gMin_, ↓gIsBool_b, ↓gIsBool_i, seqOf_t, seqOf_l, seqOf_a, lstOf_l, lstOf_a, rsv_i, rsv_b, rsv_s, rsv_n, rsv_t, rsv_l, dle_i, dle_b, dle_n, eqD_i, eqD_b, isNon, bNm_, bTup_, bCons_, bNil_, Option.bind_some, i40, i41, i42, i43, atI0, atI1, atI2, atI3, atI4, atI5, mset_same, true_and, beq_self_eq_true, Bool.false_eq_true, c0, c1, Int.cast_ofNat_Int, Int.reduceEq, Int.reduceLT, Int.reduceLE, Int.reduceAdd, Int.reduceSub, ↓reduceIte, hd, tk, sl]
        refine ⟨u, v, rfl, by omega, by omega, by omega, fun R hR hl => ?_⟩
        have nR : (R.map fun r => a :: r).length ≤ bin (a :: u).length (a :: v).length := by rw [List.length_map]; exact Nat.le_trans hl bl.1
        try simp -dsimp only [bodyE, startD, List.map_cons, List.map_nil, List.length_cons, List.length_nil, List.replicate_succ, List.replicate_zero, List.cons_append, List.nil_append, Nat.reduceAdd, Nat.reduceSub, List.set_cons_zero, List.set_cons_succ, List.getElem?_cons_zero, List.getElem?_cons_succ, Bool.not_true, Bool.not_false, decide_true, decide_false, ↓IfS_t, ↓IfS_f, ↓IfE_t, ↓IfE_f, ↓AndT_t, ↓AndT_f, ↓OrT_t, ↓OrT_f, ↓AndV_t, ↓AndV_f, ↓OrV_t, ↓OrV_f, IfS_t, IfS_f, IfE_t, IfE_f, AndT_t, AndT_f, OrT_t, OrT_f, AndV_t, AndV_f, OrV_t, OrV_f, ↓eThen, ↓ePass, ↓eBreak, ↓eCont, ↓eExpr, ↓eRet, ↓eRetN, ↓eIfS, ↓eSet, ↓eOwn, ↓eAsg, ↓eSetIx, ↓eGSetIx, ↓eAug, ↓eIadd, ↓eIaddL, ↓eFrz, ↓eFor, ↓eWhile, ↓eNm, ↓eC, ↓eOp, ↓eB, ↓eTr, ↓eTrB, ↓eTrI, ↓eTrN, ↓eTrT, ↓eTrL, ↓eTrA, ↓eAnd, ↓eOr, ↓eNot, ↓eAndV, ↓eOrV, ↓eNotV, ↓eIf, ↓eNil, ↓eCons, ↓eTup, ↓eOfL, ↓eLstL, ↓eListL, ↓eCatL, ↓eLc, ↓eWipe0, ↓eWipe, ↓eSeq, ↓eRng1, ↓eRng2, ↓eCall, ↓eCallL, ↓eRetL, ↓eSrt, ↓eSrtU, ↓eCB, ↓eNeg, ↓eChain, ↓eAppend, ↓ePop, ↓eNo, ↓eSome, ↓eSl, ↓eAnyG, ↓eAllG, ↓eZip, ↓eZip3, ↓gIsC_, tyN_t, tyN_l, tyN_n, tyN_b, tyN_i, seqP_t, seqP_l, ↓eEn1, ↓eEn2, ↓eSeqA, ↓ePar, ↓gAnyL_, ↓gAllL_, ↓gSumL_, boolsD_map, intsD_map, ↓gSl_t, ↓gSl_l, ↓gSl_a, ↓gAdd_i, ↓gAdd_t, ↓gAdd_s, ↓gAdd_l, ↓gI0_i, ↓gI_i, ↓gMul_i, ↓gMul_t, ↓gEq_, ↓gNe_, ↓gIs_n, ↓gIs_b, ↓gIsNot_n, ↓gIsNot_b, ↓gIn_, ↓gNotIn_, ↓gIx_t, ↓gIx_l, ↓gIx_a, ↓gLen_, ↓gLen_l, ↓gLen_a, ↓gInt_, ↓gInt_b, ↓gTuple_, ↓gTuple_l, ↓gTuple_a, ↓gMax_, ↓gMin_, ↓gIsBool_b, ↓gIsBool_i, seqOf_t, seqOf_l, seqOf_a, lstOf_l, lstOf_a, rsv_i, rsv_b, rsv_s, rsv_n, rsv_t, rsv_l, dle_i, dle_b, dle_n, eqD_i, eqD_b, isNon, bNm_, bTup_, bCons_, bNil_, Option.bind_some, i40, i41, i42, i43, atI0, atI1, atI2, atI3, atI4, atI5, mset_same, true_and, beq_self_eq_true, Bool.false_eq_true, c0, c1, Int.cast_ofNat_Int, Int.reduceEq, Int.reduceLT, Int.reduceLE, Int.reduceAdd, Int.reduceSub, ↓reduceIte]
        refine lc_map (fun r : List Int => wD (a :: r)) (by omega) (fun r hr k hk => ?_) ?_
        · have := hR.len r hr
          unfold wD at hk ⊢
          try simp -dsimp only [bodyE, startD, List.map_cons, List.map_nil, List.length_cons, List.length_nil, List.replicate_succ, List.replicate_zero, List.cons_append, List.nil_append, Nat.reduceAdd, Nat.reduceSub, List.set_cons_zero, List.set_cons_succ, List.getElem?_cons_zero, List.getElem?_cons_succ, Bool.not_true, Bool.not_false, decide_true, decide_false, ↓IfS_t, ↓IfS_f, ↓IfE_t, ↓IfE_f, ↓AndT_t, ↓AndT_f, ↓OrT_t, ↓OrT_f, ↓AndV_t, ↓AndV_f, ↓OrV_t, ↓OrV_f, IfS_t, IfS_f, IfE_t, IfE_f, AndT_t, AndT_f, OrT_t, OrT_f, AndV_t, AndV_f, OrV_t, OrV_f, ↓eThen, ↓ePass, ↓eBreak, ↓eCont, ↓eExpr, ↓eRet, ↓eRetN, ↓eIfS, ↓eSet, ↓eOwn, ↓eAsg, ↓eSetIx, ↓eGSetIx, ↓eAug, ↓eIadd, ↓eIaddL, ↓eFrz, ↓eFor, ↓eWhile, ↓eNm, ↓eC, ↓eOp, ↓eB, ↓eTr, ↓eTrB, ↓eTrI, ↓eTrN, ↓eTrT, ↓eTrL, ↓eTrA, ↓eAnd, ↓eOr, ↓eNot, ↓eAndV, ↓eOrV, ↓eNotV, ↓eIf, ↓eNil, ↓eCons, ↓eTup, ↓eOfL, ↓eLstL, ↓eListL, ↓eCatL, ↓eLc, ↓eWipe0, ↓eWipe, ↓eSeq, ↓eRng1, ↓eRng2, ↓eCall, ↓eCallL, ↓eRetL, ↓eSrt, ↓eSrtU, ↓eCB, ↓eNeg, ↓eChain, ↓eAppend, ↓ePop, ↓eNo, ↓eSome, ↓eSl, ↓eAnyG, ↓eAllG, ↓eZip, ↓eZip3, ↓gIsC_, tyN_t, tyN_l, tyN_n, tyN_b, tyN_i, seqP_t, seqP_l, ↓eEn1, ↓eEn2, ↓eSeqA, ↓ePar, ↓gAnyL_, ↓gAllL_, ↓gSumL_, boolsD_map, intsD_map, ↓gSl_t, ↓gSl_l, ↓gSl_a, ↓gAdd_i, ↓gAdd_t, ↓gAdd_s, ↓gAdd_l, ↓gI0_i, ↓gI_i, ↓gMul_i, ↓gMul_t, ↓gEq_, ↓gNe_, ↓gIs_n, ↓gIs_b, ↓gIsNot_n, ↓gIsNot_b, ↓gIn_, ↓gNotIn_, ↓gIx_t, ↓gIx_l, ↓gIx_a, ↓gLen_, ↓gLen_l, ↓gLen_a, ↓gInt_, ↓gInt_b, ↓gTuple_, ↓gTuple_l, ↓gTuple_a, ↓gMax_, ↓gMin_, ↓gIsBool_b, ↓gIsBool_i, seqOf_t, seqOf_l, seqOf_a, lstOf_l, lstOf_a, rsv_i, rsv_b, rsv_s, rsv_n, rsv_t, rsv_l, dle_i, dle_b, dle_n, eqD_i, eqD_b, isNon, bNm_, bTup_, bCons_, bNil_, Option.bind_some, i40, i41, i42, i43, atI0, atI1, atI2, atI3, atI4, atI5, mset_same, true_and, beq_self_eq_true, Bool.false_eq_true, c0, c1, Int.cast_ofNat_Int, Int.reduceEq, Int.reduceLT, Int.reduceLE, Int.reduceAdd, Int.reduceSub, ↓reduceIte, hd, tk, List.length_map]
          exact ⟨by omega, hk⟩
        · have e2 : (R.map fun r => wD (a :: r)) = (R.map fun r => a :: r).map wD := by rw [List.map_map]; rfl
          rw [e2]
          try simp -dsimp only [bodyE, startD, List.map_cons, List.map_nil, List.length_cons, List.length_nil, List.replicate_succ, List.replicate_zero, List.cons_append, List.nil_append, Nat.reduceAdd, Nat.reduceSub, List.set_cons_zero, List.set_cons_succ, List.getElem?_cons_zero, List.getElem?_cons_succ, Bool.not_true, Bool.not_false, decide_true, decide_false, ↓IfS_t, ↓IfS_f, ↓IfE_t, ↓IfE_f, ↓AndT_t, ↓AndT_f, ↓OrT_t, ↓OrT_f, ↓AndV_t, ↓AndV_f, ↓OrV_t, ↓OrV_f, IfS_t, IfS_f, IfE_t, IfE_f, AndT_t, AndT_f, OrT_t, OrT_f, AndV_t, AndV_f, OrV_t, OrV_f, ↓eThen, ↓ePass, ↓eBreak, ↓eCont, ↓eExpr, ↓eRet, ↓eRetN, ↓eIfS, ↓eSet, ↓eOwn, ↓eAsg, ↓eSetIx, ↓eGSetIx, ↓eAug, ↓eIadd, ↓eIaddL, ↓eFrz, ↓eFor, ↓eWhile, ↓eNm, ↓eC, ↓eOp, ↓eB, ↓eTr, ↓eTrB, ↓eTrI, ↓eTrN, ↓eTrT, ↓eTrL, ↓eTrA, ↓eAnd, ↓eOr, ↓eNot, ↓eAndV, ↓eOrV, ↓eNotV, ↓eIf, ↓eNil, ↓eCons, ↓eTup, ↓eOfL, ↓eLstL, ↓eListL, ↓eCatL, ↓eLc, ↓eWipe0, ↓eWipe, ↓eSeq, ↓eRng1, ↓eRng2, ↓eCall, ↓eCallL, ↓eRetL, ↓eSrt, ↓eSrtU, ↓eCB, ↓eNeg, ↓eChain, ↓eAppend, ↓ePop, ↓eNo, ↓eSome, ↓eSl, ↓eAnyG, ↓eAllG, ↓eZip, ↓eZip3, ↓gIsC_, tyN_t, tyN_l, tyN_n, tyN_b, tyN_i, seqP_t, seqP_l, ↓eEn1, ↓eEn2, ↓eSeqA, ↓ePar, ↓gAnyL_, ↓gAllL_, ↓gSumL_, boolsD_map, intsD_map, ↓gSl_t, ↓gSl_l, ↓gSl_a, ↓gAdd_i, ↓gAdd_t, ↓gAdd_s, ↓gAdd_l, ↓gI0_i, ↓gI_i, ↓gMul_i, ↓gMul_t, ↓gEq_, ↓gNe_, ↓gIs_n, ↓gIs_b, ↓gIsNot_n, ↓gIsNot_b, ↓gIn_, ↓gNotIn_, ↓gIx_t, ↓gIx_l, ↓gIx_a, ↓gLen_, ↓gLen_l, ↓gLen_a, ↓gInt_, ↓gInt_b, ↓gTuple_, ↓gTuple_l, ↓gTuple_a, ↓gMax_, ↓gMin_, ↓gIsBool_b, ↓gIsBool_i, seqOf_t, seqOf_l, seqOf_a, lstOf_l, lstOf_a, rsv_i, rsv_b, rsv_s, rsv_n, rsv_t, rsv_l, dle_i, dle_b, dle_n, eqD_i, eqD_b, isNon, bNm_, bTup_, bCons_, bNil_, Option.bind_some, i40, i41, i42, i43, atI0, atI1, atI2, atI3, atI4, atI5, mset_same, true_and, beq_self_eq_true, Bool.false_eq_true, c0, c1, Int.cast_ofNat_Int, Int.reduceEq, Int.reduceLT, Int.reduceLE, Int.reduceAdd, Int.reduceSub, ↓reduceIte]
          exact q _ (sup_same hR) nR
      · rw [decide_eq_false hab]
        try simp -dsimp only [bodyE, startD, List.map_cons, List.map_nil, List.length_cons, List.length_nil, List.replicate_succ, List.replicate_zero, List.cons_append, List.nil_append, Nat.reduceAdd, Nat.reduceSub, List.set_cons_zero, List.set_cons_succ, List.getElem?_cons_zero, List.getElem?_cons_succ, Bool.not_true, Bool.not_false, decide_true, decide_false, ↓IfS_t, ↓IfS_f, ↓IfE_t, ↓IfE_f, ↓AndT_t, ↓AndT_f, ↓OrT_t, ↓OrT_f, ↓AndV_t, ↓AndV_f, ↓OrV_t, ↓OrV_f, IfS_t, IfS_f, IfE_t, IfE_f, AndT_t, AndT_f, OrT_t, OrT_f, AndV_t, AndV_f, OrV_t, OrV_f, ↓eThen, ↓ePass, ↓eBreak, ↓eCont, ↓eExpr, ↓eRet, ↓eRetN, ↓eIfS, ↓eSet, ↓eOwn, ↓eAsg, ↓eSetIx, ↓eGSetIx, ↓eAug, ↓eIadd, ↓eIaddL, ↓eFrz, ↓eFor, ↓eWhile, ↓eNm, ↓eC, ↓eOp, ↓eB, ↓eTr, ↓eTrB, ↓eTrI, ↓eTrN, ↓eTrT, ↓eTrL, ↓eTrA, ↓eAnd, ↓eOr, ↓eNot, ↓eAndV, ↓eOrV, ↓eNotV, ↓eIf, ↓eNil, ↓eCons, ↓eTup, ↓eOfL, ↓eLstL, ↓eListL, ↓eCatL, ↓eLc, ↓eWipe0, ↓eWipe, ↓eSeq, ↓eRng1, ↓eRng2, ↓eCall, ↓eCallL, ↓eRetL, ↓eSrt, ↓eSrtU, ↓eCB, ↓eNeg, ↓eChain, ↓eAppend, ↓ePop, ↓eNo, ↓eSome, ↓eSl, ↓eAnyG, ↓eAllG, ↓eZip, ↓eZip3, ↓gIsC_, tyN_t, tyN_l, tyN_n, tyN_b, tyN_i, seqP_t, seqP_l, ↓eEn1, ↓eEn2, ↓eSeqA, ↓ePar, ↓gAnyL_, ↓gAllL_, ↓gSumL_, boolsD_map, intsD_map, ↓gSl_t, ↓gSl_l, ↓gSl_a, ↓gAdd_i, ↓gAdd_t, ↓gAdd_s, ↓gAdd_l, ↓gI0_i, ↓gI_i, ↓gMul_i, ↓gMul_t, ↓gEq_, ↓gNe_, ↓gIs_n, ↓gIs_b, ↓gIsNot_n, ↓gIsNot_b, ↓gIn_, ↓gNotIn_, ↓gIx_t, ↓gIx_l, ↓gIx_a, ↓gLen_, ↓gLen_l, ↓gLen_a, ↓gInt_, ↓gInt_b, ↓gTuple_, ↓gTuple_l, ↓gTuple_a, ↓gMax_, ↓gMin_, ↓gIsBool_b, ↓gIsBool_i, seqOf_t, seqOf_l, seqOf_a, lstOf_l, lstOf_a, rsv_i, rsv_b, rsv_s, rsv_n, rsv_t, rsv_l, dle_i, dle_b, dle_n, eqD_i, eqD_b, isNon, bNm_, bTup_, bCons_, bNil_, Option.bind_some, i40, i41, i42, i43, atI0, atI1, atI2, atI3, atI4, atI5, mset_same, true_and, beq_self_eq_true, Bool.false_eq_true, c0, c1, Int.cast_ofNat_Int, Int.reduceEq, Int.reduceLT, Int.reduceLE, Int.reduceAdd, Int.reduceSub, ↓reduceIte, hd, tk, sl]
        refine ⟨u, b :: v, rfl, by simp only [List.length_cons]; omega, by omega, by simp only [List.length_cons]; omega, fun R1 hR1 hl1 => ?_⟩
        have sl2 : ∀ (x : Int) (w : List Int), D.tup (D.int x :: w.map D.int) = wD (x :: w) := fun _ _ => rfl
        have n1 : R1.length ≤ 20 := Nat.le_trans hl1 (by show bin u.length (v.length + 1) ≤ 20; omega)
        try simp -dsimp only [bodyE, startD, List.map_cons, List.map_nil, List.length_cons, List.length_nil, List.replicate_succ, List.replicate_zero, List.cons_append, List.nil_append, Nat.reduceAdd, Nat.reduceSub, List.set_cons_zero, List.set_cons_succ, List.getElem?_cons_zero, List.getElem?_cons_succ, Bool.not_true, Bool.not_false, decide_true, decide_false, ↓IfS_t, ↓IfS_f, ↓IfE_t, ↓IfE_f, ↓AndT_t, ↓AndT_f, ↓OrT_t, ↓OrT_f, ↓AndV_t, ↓AndV_f, ↓OrV_t, ↓OrV_f, IfS_t, IfS_f, IfE_t, IfE_f, AndT_t, AndT_f, OrT_t, OrT_f, AndV_t, AndV_f, OrV_t, OrV_f, ↓eThen, ↓ePass, ↓eBreak, ↓eCont, ↓eExpr, ↓eRet, ↓eRetN, ↓eIfS, ↓eSet, ↓eOwn, ↓eAsg, ↓eSetIx, ↓eGSetIx, ↓eAug, ↓eIadd, ↓eIaddL, ↓eFrz, ↓eFor, ↓eWhile, ↓eNm, ↓eC, ↓eOp, ↓eB, ↓eTr, ↓eTrB, ↓eTrI, ↓eTrN, ↓eTrT, ↓eTrL, ↓eTrA, ↓eAnd, ↓eOr, ↓eNot, ↓eAndV, ↓eOrV, ↓eNotV, ↓eIf, ↓eNil, ↓eCons, ↓eTup, ↓eOfL, ↓eLstL, ↓eListL, ↓eCatL, ↓eLc, ↓eWipe0, ↓eWipe, ↓eSeq, ↓eRng1, ↓eRng2, ↓eCall, ↓eCallL, ↓eRetL, ↓eSrt, ↓eSrtU, ↓eCB, ↓eNeg, ↓eChain, ↓eAppend, ↓ePop, ↓eNo, ↓eSome, ↓eSl, ↓eAnyG, ↓eAllG, ↓eZip, ↓eZip3, ↓gIsC_, tyN_t, tyN_l, tyN_n, tyN_b, tyN_i, seqP_t, seqP_l, ↓eEn1, ↓eEn2, ↓eSeqA, ↓ePar, ↓gAnyL_, ↓gAllL_, ↓gSumL_, boolsD_map, intsD_map, ↓gSl_t, ↓gSl_l, ↓gSl_a, ↓gAdd_i, ↓gAdd_t, ↓gAdd_s, ↓gAdd_l, ↓gI0_i, ↓gI_i, ↓gMul_i, ↓gMul_t, ↓gEq_, ↓gNe_, ↓gIs_n, ↓gIs_b, ↓gIsNot_n, ↓gIsNot_b, ↓gIn_, ↓gNotIn_, ↓gIx_t, ↓gIx_l, ↓gIx_a, ↓gLen_, ↓gLen_l, ↓gLen_a, ↓gInt_, ↓gInt_b, ↓gTuple_, ↓gTuple_l, ↓gTuple_a, ↓gMax_, ↓gMin_, ↓gIsBool_b, ↓gIsBool_i, seqOf_t, seqOf_l, seqOf_a, lstOf_l, lstOf_a, rsv_i, rsv_b, rsv_s, rsv_n, rsv_t, rsv_l, dle_i, dle_b, dle_n, eqD_i, eqD_b, isNon, bNm_, bTup_, bCons_, bNil_, Option.bind_some, i40, i41, i42, i43, atI0, atI1, atI2, atI3, atI4, atI5, mset_same, true_and, beq_self_eq_true, Bool.false_eq_true, c0, c1, Int.cast_ofNat_Int, Int.reduceEq, Int.reduceLT, Int.reduceLE, Int.reduceAdd, Int.reduceSub, ↓reduceIte]
        refine lc_map (fun r : List Int => wD (a :: r)) (by omega) (fun r hr k hk => ?_) ?_
        · have := hR1.len r hr
          unfold wD at hk ⊢
          try simp -dsimp only [bodyE, startD, List.map_cons, List.map_nil, List.length_cons, List.length_nil, List.replicate_succ, List.replicate_zero, List.cons_append, List.nil_append, Nat.reduceAdd, Nat.reduceSub, List.set_cons_zero, List.set_cons_succ, List.getElem?_cons_zero, List.getElem?_cons_succ, Bool.not_true, Bool.not_false, decide_true, decide_false, ↓IfS_t, ↓IfS_f, ↓IfE_t, ↓IfE_f, ↓AndT_t, ↓AndT_f, ↓OrT_t, ↓OrT_f, ↓AndV_t, ↓AndV_f, ↓OrV_t, ↓OrV_f, IfS_t, IfS_f, IfE_t, IfE_f, AndT_t, AndT_f, OrT_t, OrT_f, AndV_t, AndV_f, OrV_t, OrV_f, ↓eThen, ↓ePass, ↓eBreak, ↓eCont, ↓eExpr, ↓eRet, ↓eRetN, ↓eIfS, ↓eSet, ↓eOwn, ↓eAsg, ↓eSetIx, ↓eGSetIx, ↓eAug, ↓eIadd, ↓eIaddL, ↓eFrz, ↓eFor, ↓eWhile, ↓eNm, ↓eC, ↓eOp, ↓eB, ↓eTr, ↓eTrB, ↓eTrI, ↓eTrN, ↓eTrT, ↓eTrL, ↓eTrA, ↓eAnd, ↓eOr, ↓eNot, ↓eAndV, ↓eOrV, ↓eNotV, ↓eIf, ↓eNil, ↓eCons, ↓eTup, ↓eOfL, ↓eLstL, ↓eListL, ↓eCatL, ↓eLc, ↓eWipe0, ↓eWipe, ↓eSeq, ↓eRng1, ↓eRng2, ↓eCall, ↓eCallL, ↓eRetL, ↓eSrt, ↓eSrtU, ↓eCB, ↓eNeg, ↓eChain, ↓eAppend, ↓ePop, ↓eNo, ↓eSome, ↓eSl, ↓eAnyG, ↓eAllG, ↓eZip, ↓eZip3, ↓gIsC_, tyN_t, tyN_l, tyN_n, tyN_b, tyN_i, seqP_t, seqP_l, ↓eEn1, ↓eEn2, ↓eSeqA, ↓ePar, ↓gAnyL_, ↓gAllL_, ↓gSumL_, boolsD_map, intsD_map, ↓gSl_t, ↓gSl_l, ↓gSl_a, ↓gAdd_i, ↓gAdd_t, ↓gAdd_s, ↓gAdd_l, ↓gI0_i, ↓gI_i, ↓gMul_i, ↓gMul_t, ↓gEq_, ↓gNe_, ↓gIs_n, ↓gIs_b, ↓gIsNot_n, ↓gIsNot_b, ↓gIn_, ↓gNotIn_, ↓gIx_t, ↓gIx_l, ↓gIx_a, ↓gLen_, ↓gLen_l, ↓gLen_a, ↓gInt_, ↓gInt_b, ↓gTuple_, ↓gTuple_l, ↓gTuple_a, ↓gMax_, ↓gMin_, ↓gIsBool_b, ↓gIsBool_i, seqOf_t, seqOf_l, seqOf_a, lstOf_l, lstOf_a, rsv_i, rsv_b, rsv_s, rsv_n, rsv_t, rsv_l, dle_i, dle_b, dle_n, eqD_i, eqD_b, isNon, bNm_, bTup_, bCons_, bNil_, Option.bind_some, i40, i41, i42, i43, atI0, atI1, atI2, atI3, atI4, atI5, mset_same, true_and, beq_self_eq_true, Bool.false_eq_true, c0, c1, Int.cast_ofNat_Int, Int.reduceEq, Int.reduceLT, Int.reduceLE, Int.reduceAdd, Int.reduceSub, ↓reduceIte, hd, tk, List.length_map]
          simp only [List.length_cons] at this
          exact ⟨by omega, hk⟩
        try simp -dsimp only [bodyE, startD, List.map_cons, List.map_nil, List.length_cons, List.length_nil, List.replicate_succ, List.replicate_zero, List.cons_append, List.nil_append, Nat.reduceAdd, Nat.reduceSub, List.set_cons_zero, List.set_cons_succ, List.getElem?_cons_zero, List.getElem?_cons_succ, Bool.not_true, Bool.not_false, decide_true, decide_false, ↓IfS_t, ↓IfS_f, ↓IfE_t, ↓IfE_f, ↓AndT_t, ↓AndT_f, ↓OrT_t, ↓OrT_f, ↓AndV_t, ↓AndV_f, ↓OrV_t, ↓OrV_f, IfS_t, IfS_f, IfE_t, IfE_f, AndT_t, AndT_f, OrT_t, OrT_f, AndV_t, AndV_f, OrV_t, OrV_f, ↓eThen, ↓ePass, ↓eBreak, ↓eCont, ↓eExpr, ↓eRet, ↓eRetN, ↓eIfS, ↓eSet, ↓eOwn, ↓eAsg, ↓eSetIx, ↓eGSetIx, ↓eAug, ↓eIadd, ↓eIaddL, ↓eFrz, ↓eFor, ↓eWhile, ↓eNm, ↓eC, ↓eOp, ↓eB, ↓eTr, ↓eTrB, ↓eTrI, ↓eTrN, ↓eTrT, ↓eTrL, ↓eTrA, ↓eAnd, ↓eOr, ↓eNot, ↓eAndV, ↓eOrV, ↓eNotV, ↓eIf, ↓eNil, ↓eCons, ↓eTup, ↓eOfL, ↓eLstL, ↓eListL, ↓eCatL, ↓eLc, ↓eWipe0, ↓eWipe, ↓eSeq, ↓eRng1, ↓eRng2, ↓eCall, ↓eCallL, ↓eRetL, ↓eSrt, ↓eSrtU, ↓eCB, ↓eNeg, ↓eChain, ↓eAppend, ↓ePop, ↓eNo, ↓eSome, ↓eSl, ↓eAnyG, ↓eAllG, ↓eZip, ↓eZip3, ↓gIsC_, tyN_t, tyN_l, tyN_n, tyN_b, tyN_i, seqP_t, seqP_l, ↓eEn1, ↓eEn2, ↓eSeqA, ↓ePar, ↓gAnyL_, ↓gAllL_, ↓gSumL_, boolsD_map, intsD_map, ↓gSl_t, ↓gSl_l, ↓gSl_a, ↓gAdd_i, ↓gAdd_t, ↓gAdd_s, ↓gAdd_l, ↓gI0_i, ↓gI_i, ↓gMul_i, ↓gMul_t, ↓gEq_, ↓gNe_, ↓gIs_n, ↓gIs_b, ↓gIsNot_n, ↓gIsNot_b, ↓gIn_, ↓gNotIn_, ↓gIx_t, ↓gIx_l, ↓gIx_a, ↓gLen_, ↓gLen_l, ↓gLen_a, ↓gInt_, ↓gInt_b, ↓gTuple_, ↓gTuple_l, ↓gTuple_a, ↓gMax_, ↓gMin_, ↓gIsBool_b, ↓gIsBool_i, seqOf_t, seqOf_l, seqOf_a, lstOf_l, lstOf_a, rsv_i, rsv_b, rsv_s, rsv_n, rsv_t, rsv_l, dle_i, dle_b, dle_n, eqD_i, eqD_b, isNon, bNm_, bTup_, bCons_, bNil_, Option.bind_some, i40, i41, i42, i43, atI0, atI1, atI2, atI3, atI4, atI5, mset_same, true_and, beq_self_eq_true, Bool.false_eq_true, c0, c1, Int.cast_ofNat_Int, Int.reduceEq, Int.reduceLT, Int.reduceLE, Int.reduceAdd, Int.reduceSub, ↓reduceIte]
        refine fun p hpM _ => ?_
        try simp -dsimp only [bodyE, startD, List.map_cons, List.map_nil, List.length_cons, List.length_nil, List.replicate_succ, List.replicate_zero, List.cons_append, List.nil_append, Nat.reduceAdd, Nat.reduceSub, List.set_cons_zero, List.set_cons_succ, List.getElem?_cons_zero, List.getElem?_cons_succ, Bool.not_true, Bool.not_false, decide_true, decide_false, ↓IfS_t, ↓IfS_f, ↓IfE_t, ↓IfE_f, ↓AndT_t, ↓AndT_f, ↓OrT_t, ↓OrT_f, ↓AndV_t, ↓AndV_f, ↓OrV_t, ↓OrV_f, IfS_t, IfS_f, IfE_t, IfE_f, AndT_t, AndT_f, OrT_t, OrT_f, AndV_t, AndV_f, OrV_t, OrV_f, ↓eThen, ↓ePass, ↓eBreak, ↓eCont, ↓eExpr, ↓eRet, ↓eRetN, ↓eIfS, ↓eSet, ↓eOwn, ↓eAsg, ↓eSetIx, ↓eGSetIx, ↓eAug, ↓eIadd, ↓eIaddL, ↓eFrz, ↓eFor, ↓eWhile, ↓eNm, ↓eC, ↓eOp, ↓eB, ↓eTr, ↓eTrB, ↓eTrI, ↓eTrN, ↓eTrT, ↓eTrL, ↓eTrA, ↓eAnd, ↓eOr, ↓eNot, ↓eAndV, ↓eOrV, ↓eNotV, ↓eIf, ↓eNil, ↓eCons, ↓eTup, ↓eOfL, ↓eLstL, ↓eListL, ↓eCatL, ↓eLc, ↓eWipe0, ↓eWipe, ↓eSeq, ↓eRng1, ↓eRng2, ↓eCall, ↓eCallL, ↓eRetL, ↓eSrt, ↓eSrtU, ↓eCB, ↓eNeg, ↓eChain, ↓eAppend, ↓ePop, ↓eNo, ↓eSome, ↓eSl, ↓eAnyG, ↓eAllG, ↓eZip, ↓eZip3, ↓gIsC_, tyN_t, tyN_l, tyN_n, tyN_b, tyN_i, seqP_t, seqP_l, ↓eEn1, ↓eEn2, ↓eSeqA, ↓ePar, ↓gAnyL_, ↓gAllL_, ↓gSumL_, boolsD_map, intsD_map, ↓gSl_t, ↓gSl_l, ↓gSl_a, ↓gAdd_i, ↓gAdd_t, ↓gAdd_s, ↓gAdd_l, ↓gI0_i, ↓gI_i, ↓gMul_i, ↓gMul_t, ↓gEq_, ↓gNe_, ↓gIs_n, ↓gIs_b, ↓gIsNot_n, ↓gIsNot_b, ↓gIn_, ↓gNotIn_, ↓gIx_t, ↓gIx_l, ↓gIx_a, ↓gLen_, ↓gLen_l, ↓gLen_a, ↓gInt_, ↓gInt_b, ↓gTuple_, ↓gTuple_l, ↓gTuple_a, ↓gMax_, ↓gMin_, ↓gIsBool_b, ↓gIsBool_i, seqOf_t, seqOf_l, seqOf_a, lstOf_l, lstOf_a, rsv_i, rsv_b, rsv_s, rsv_n, rsv_t, rsv_l, dle_i, dle_b, dle_n, eqD_i, eqD_b, isNon, bNm_, bTup_, bCons_, bNil_, Option.bind_some, i40, i41, i42, i43, atI0, atI1, atI2, atI3, atI4, atI5, mset_same, true_and, beq_self_eq_true, Bool.false_eq_true, c0, c1, Int.cast_ofNat_Int, Int.reduceEq, Int.reduceLT, Int.reduceLE, Int.reduceAdd, Int.reduceSub, ↓reduceIte, hd, tk, sl]
        refine ⟨a :: u, v, rfl, by simp only [List.length_cons]; omega, by simp only [List.length_cons]; omega, by omega, fun R2 hR2 hl2 => ?_⟩
        have n2 : R2.length ≤ 20 := Nat.le_trans hl2 (by show bin (u.length + 1) v.length ≤ 20; omega)
        try simp -dsimp only [bodyE, startD, List.map_cons, List.map_nil, List.length_cons, List.length_nil, List.replicate_succ, List.replicate_zero, List.cons_append, List.nil_append, Nat.reduceAdd, Nat.reduceSub, List.set_cons_zero, List.set_cons_succ, List.getElem?_cons_zero, List.getElem?_cons_succ, Bool.not_true, Bool.not_false, decide_true, decide_false, ↓IfS_t, ↓IfS_f, ↓IfE_t, ↓IfE_f, ↓AndT_t, ↓AndT_f, ↓OrT_t, ↓OrT_f, ↓AndV_t, ↓AndV_f, ↓OrV_t, ↓OrV_f, IfS_t, IfS_f, IfE_t, IfE_f, AndT_t, AndT_f, OrT_t, OrT_f, AndV_t, AndV_f, OrV_t, OrV_f, ↓eThen, ↓ePass, ↓eBreak, ↓eCont, ↓eExpr, ↓eRet, ↓eRetN, ↓eIfS, ↓eSet, ↓eOwn, ↓eAsg, ↓eSetIx, ↓eGSetIx, ↓eAug, ↓eIadd, ↓eIaddL, ↓eFrz, ↓eFor, ↓eWhile, ↓eNm, ↓eC, ↓eOp, ↓eB, ↓eTr, ↓eTrB, ↓eTrI, ↓eTrN, ↓eTrT, ↓eTrL, ↓eTrA, ↓eAnd, ↓eOr, ↓eNot, ↓eAndV, ↓eOrV, ↓eNotV, ↓eIf, ↓eNil, ↓eCons, ↓eTup, ↓eOfL, ↓eLstL, ↓eListL, ↓eCatL, ↓eLc, ↓eWipe0, ↓eWipe, ↓eSeq, ↓eRng1, ↓eRng2, ↓eCall, ↓eCallL, ↓eRetL, ↓eSrt, ↓eSrtU, ↓eCB, ↓eNeg, ↓eChain, ↓eAppend, ↓ePop, ↓eNo, ↓eSome, ↓eSl, ↓eAnyG, ↓eAllG, ↓eZip, ↓eZip3, ↓gIsC_, tyN_t, tyN_l, tyN_n, tyN_b, tyN_i, seqP_t, seqP_l, ↓eEn1, ↓eEn2, ↓eSeqA, ↓ePar, ↓gAnyL_, ↓gAllL_, ↓gSumL_, boolsD_map, intsD_map, ↓gSl_t, ↓gSl_l, ↓gSl_a, ↓gAdd_i, ↓gAdd_t, ↓gAdd_s, ↓gAdd_l, ↓gI0_i, ↓gI_i, ↓gMul_i, ↓gMul_t, ↓gEq_, ↓gNe_, ↓gIs_n, ↓gIs_b, ↓gIsNot_n, ↓gIsNot_b, ↓gIn_, ↓gNotIn_, ↓gIx_t, ↓gIx_l, ↓gIx_a, ↓gLen_, ↓gLen_l, ↓gLen_a, ↓gInt_, ↓gInt_b, ↓gTuple_, ↓gTuple_l, ↓gTuple_a, ↓gMax_, ↓gMin_, ↓gIsBool_b, ↓gIsBool_i, seqOf_t, seqOf_l, seqOf_a, lstOf_l, lstOf_a, rsv_i, rsv_b, rsv_s, rsv_n, rsv_t, rsv_l, dle_i, dle_b, dle_n, eqD_i, eqD_b, isNon, bNm_, bTup_, bCons_, bNil_, Option.bind_some, i40, i41, i42, i43, atI0, atI1, atI2, atI3, atI4, atI5, mset_same, true_and, beq_self_eq_true, Bool.false_eq_true, c0, c1, Int.cast_ofNat_Int, Int.reduceEq, Int.reduceLT, Int.reduceLE, Int.reduceAdd, Int.reduceSub, ↓reduceIte]
        refine lc_map (fun r : List Int => wD (b :: r)) (by omega) (fun r hr k hk => ?_) ?_
        · have := hR2.len r hr
          unfold wD at hk ⊢
          try simp -dsimp only [bodyE, startD, List.map_cons, List.map_nil, List.length_cons, List.length_nil, List.replicate_succ, List.replicate_zero, List.cons_append, List.nil_append, Nat.reduceAdd, Nat.reduceSub, List.set_cons_zero, List.set_cons_succ, List.getElem?_cons_zero, List.getElem?_cons_succ, Bool.not_true, Bool.not_false, decide_true, decide_false, ↓IfS_t, ↓IfS_f, ↓IfE_t, ↓IfE_f, ↓AndT_t, ↓AndT_f, ↓OrT_t, ↓OrT_f, ↓AndV_t, ↓AndV_f, ↓OrV_t, ↓OrV_f, IfS_t, IfS_f, IfE_t, IfE_f, AndT_t, AndT_f, OrT_t, OrT_f, AndV_t, AndV_f, OrV_t, OrV_f, ↓eThen, ↓ePass, ↓eBreak, ↓eCont, ↓eExpr, ↓eRet, ↓eRetN, ↓eIfS, ↓eSet, ↓eOwn, ↓eAsg, ↓eSetIx, ↓eGSetIx, ↓eAug, ↓eIadd, ↓eIaddL, ↓eFrz, ↓eFor, ↓eWhile, ↓eNm, ↓eC, ↓eOp, ↓eB, ↓eTr, ↓eTrB, ↓eTrI, ↓eTrN, ↓eTrT, ↓eTrL, ↓eTrA, ↓eAnd, ↓eOr, ↓eNot, ↓eAndV, ↓eOrV, ↓eNotV, ↓eIf, ↓eNil, ↓eCons, ↓eTup, ↓eOfL, ↓eLstL, ↓eListL, ↓eCatL, ↓eLc, ↓eWipe0, ↓eWipe, ↓eSeq, ↓eRng1, ↓eRng2, ↓eCall, ↓eCallL, ↓eRetL, ↓eSrt, ↓eSrtU, ↓eCB, ↓eNeg, ↓eChain, ↓eAppend, ↓ePop, ↓eNo, ↓eSome, ↓eSl, ↓eAnyG, ↓eAllG, ↓eZip, ↓eZip3, ↓gIsC_, tyN_t, tyN_l, tyN_n, tyN_b, tyN_i, seqP_t, seqP_l, ↓eEn1, ↓eEn2, ↓eSeqA, ↓ePar, ↓gAnyL_, ↓gAllL_, ↓gSumL_, boolsD_map, intsD_map, ↓gSl_t, ↓gSl_l, ↓gSl_a, ↓gAdd_i, ↓gAdd_t, ↓gAdd_s, ↓gAdd_l, ↓gI0_i, ↓gI_i, ↓gMul_i, ↓gMul_t, ↓gEq_, ↓gNe_, ↓gIs_n, ↓gIs_b, ↓gIsNot_n, ↓gIsNot_b, ↓gIn_, ↓gNotIn_, ↓gIx_t, ↓gIx_l, ↓gIx_a, ↓gLen_, ↓gLen_l, ↓gLen_a, ↓gInt_, ↓gInt_b, ↓gTuple_, ↓gTuple_l, ↓gTuple_a, ↓gMax_, ↓gMin_, ↓gIsBool_b, ↓gIsBool_i, seqOf_t, seqOf_l, seqOf_a, lstOf_l, lstOf_a, rsv_i, rsv_b, rsv_s, rsv_n, rsv_t, rsv_l, dle_i, dle_b, dle_n, eqD_i, eqD_b, isNon, bNm_, bTup_, bCons_, bNil_, Option.bind_some, i40, i41, i42, i43, atI0, atI1, atI2, atI3, atI4, atI5, mset_same, true_and, beq_self_eq_true, Bool.false_eq_true, c0, c1, Int.cast_ofNat_Int, Int.reduceEq, Int.reduceLT, Int.reduceLE, Int.reduceAdd, Int.reduceSub, ↓reduceIte, hd, tk, List.length_map]
          simp only [List.length_cons] at this
          exact ⟨by omega, hk⟩
        try simp -dsimp only [bodyE, startD, List.map_cons, List.map_nil, List.length_cons, List.length_nil, List.replicate_succ, List.replicate_zero, List.cons_append, List.nil_append, Nat.reduceAdd, Nat.reduceSub, List.set_cons_zero, List.set_cons_succ, List.getElem?_cons_zero, List.getElem?_cons_succ, Bool.not_true, Bool.not_false, decide_true, decide_false, ↓IfS_t, ↓IfS_f, ↓IfE_t, ↓IfE_f, ↓AndT_t, ↓AndT_f, ↓OrT_t, ↓OrT_f, ↓AndV_t, ↓AndV_f, ↓OrV_t, ↓OrV_f, IfS_t, IfS_f, IfE_t, IfE_f, AndT_t, AndT_f, OrT_t, OrT_f, AndV_t, AndV_f, OrV_t, OrV_f, ↓eThen, ↓ePass, ↓eBreak, ↓eCont, ↓eExpr, ↓eRet, ↓eRetN, ↓eIfS, ↓eSet, ↓eOwn, ↓eAsg, ↓eSetIx, ↓eGSetIx, ↓eAug, ↓eIadd, ↓eIaddL, ↓eFrz, ↓eFor, ↓eWhile, ↓eNm, ↓eC, ↓eOp, ↓eB, ↓eTr, ↓eTrB, ↓eTrI, ↓eTrN, ↓eTrT, ↓eTrL, ↓eTrA, ↓eAnd, ↓eOr, ↓eNot, ↓eAndV, ↓eOrV, ↓eNotV, ↓eIf, ↓eNil, ↓eCons, ↓eTup, ↓eOfL, ↓eLstL, ↓eListL, ↓eCatL, ↓eLc, ↓eWipe0, ↓eWipe, ↓eSeq, ↓eRng1, ↓eRng2, ↓eCall, ↓eCallL, ↓eRetL, ↓eSrt, ↓eSrtU, ↓eCB, ↓eNeg, ↓eChain, ↓eAppend, ↓ePop, ↓eNo, ↓eSome, ↓eSl, ↓eAnyG, ↓eAllG, ↓eZip, ↓eZip3, ↓gIsC_, tyN_t, tyN_l, tyN_n, tyN_b, tyN_i, seqP_t, seqP_l, ↓eEn1, ↓eEn2, ↓eSeqA, ↓ePar, ↓gAnyL_, ↓gAllL_, ↓gSumL_, boolsD_map, intsD_map, ↓gSl_t, ↓gSl_l, ↓gSl_a, ↓gAdd_i, ↓gAdd_t, ↓gAdd_s, ↓gAdd_l, ↓gI0_i, ↓gI_i, ↓gMul_i, ↓gMul_t, ↓gEq_, ↓gNe_, ↓gIs_n, ↓gIs_b, ↓gIsNot_n, ↓gIsNot_b, ↓gIn_, ↓gNotIn_, ↓gIx_t, ↓gIx_l, ↓gIx_a, ↓gLen_, ↓gLen_l, ↓gLen_a, ↓gInt_, ↓gInt_b, ↓gTuple_, ↓gTuple_l, ↓gTuple_a, ↓gMax_, ↓gMin_, ↓gIsBool_b, ↓gIsBool_i, seqOf_t, seqOf_l, seqOf_a, lstOf_l, lstOf_a, rsv_i, rsv_b, rsv_s, rsv_n, rsv_t, rsv_l, dle_i, dle_b, dle_n, eqD_i, eqD_b, isNon, bNm_, bTup_, bCons_, bNil_, Option.bind_some, i40, i41, i42, i43, atI0, atI1, atI2, atI3, atI4, atI5, mset_same, true_and, beq_self_eq_true, Bool.false_eq_true, c0, c1, Int.cast_ofNat_Int, Int.reduceEq, Int.reduceLT, Int.reduceLE, Int.reduceAdd, Int.reduceSub, ↓reduceIte, List.length_map]
        have e2 : (R1.map fun r => wD (a :: r)) ++ (R2.map fun r => wD (b :: r)) = (R1.map (a :: ·) ++ R2.map (b :: ·)).map wD := by rw [List.map_append, List.map_map, List.map_map]; rfl
        rw [mset_mset, mdel_mset hpM, e2]
        have nb : (R1.map (a :: ·) ++ R2.map (b :: ·)).length ≤ bin (a :: u).length (b :: v).length := by
          rw [List.length_append, List.length_map, List.length_map]
          have h1 : R1.length ≤ bin u.length (v.length + 1) := hl1
          have h2 : R2.length ≤ bin (u.length + 1) v.length := hl2
          show R1.length + R2.length ≤ bin (u.length + 1) (v.length + 1)
          omega
        refine ⟨by omega, R1.map (a :: ·) ++ R2.map (b :: ·), _, rfl, rfl, .inr fun x hx => ?_, by rw [List.length_append, List.length_map, List.length_map]; omega, fun ys hy hyl => ?_⟩
        · rcases List.mem_append.mp hx with z | z
          · obtain ⟨r, _, rfl⟩ := List.mem_map.mp z; exact List.cons_ne_nil _ _
          · obtain ⟨r, _, rfl⟩ := List.mem_map.mp z; exact List.cons_ne_nil _ _
        · try simp -dsimp only [bodyE, startD, List.map_cons, List.map_nil, List.length_cons, List.length_nil, List.replicate_succ, List.replicate_zero, List.cons_append, List.nil_append, Nat.reduceAdd, Nat.reduceSub, List.set_cons_zero, List.set_cons_succ, List.getElem?_cons_zero, List.getElem?_cons_succ, Bool.not_true, Bool.not_false, decide_true, decide_false, ↓IfS_t, ↓IfS_f, ↓IfE_t, ↓IfE_f, ↓AndT_t, ↓AndT_f, ↓OrT_t, ↓OrT_f, ↓AndV_t, ↓AndV_f, ↓OrV_t, ↓OrV_f, IfS_t, IfS_f, IfE_t, IfE_f, AndT_t, AndT_f, OrT_t, OrT_f, AndV_t, AndV_f, OrV_t, OrV_f, ↓eThen, ↓ePass, ↓eBreak, ↓eCont, ↓eExpr, ↓eRet, ↓eRetN, ↓eIfS, ↓eSet, ↓eOwn, ↓eAsg, ↓eSetIx, ↓eGSetIx, ↓eAug, ↓eIadd, ↓eIaddL, ↓eFrz, ↓eFor, ↓eWhile, ↓eNm, ↓eC, ↓eOp, ↓eB, ↓eTr, ↓eTrB, ↓eTrI, ↓eTrN, ↓eTrT, ↓eTrL, ↓eTrA, ↓eAnd, ↓eOr, ↓eNot, ↓eAndV, ↓eOrV, ↓eNotV, ↓eIf, ↓eNil, ↓eCons, ↓eTup, ↓eOfL, ↓eLstL, ↓eListL, ↓eCatL, ↓eLc, ↓eWipe0, ↓eWipe, ↓eSeq, ↓eRng1, ↓eRng2, ↓eCall, ↓eCallL, ↓eRetL, ↓eSrt, ↓eSrtU, ↓eCB, ↓eNeg, ↓eChain, ↓eAppend, ↓ePop, ↓eNo, ↓eSome, ↓eSl, ↓eAnyG, ↓eAllG, ↓eZip, ↓eZip3, ↓gIsC_, tyN_t, tyN_l, tyN_n, tyN_b, tyN_i, seqP_t, seqP_l, ↓eEn1, ↓eEn2, ↓eSeqA, ↓ePar, ↓gAnyL_, ↓gAllL_, ↓gSumL_, boolsD_map, intsD_map, ↓gSl_t, ↓gSl_l, ↓gSl_a, ↓gAdd_i, ↓gAdd_t, ↓gAdd_s, ↓gAdd_l, ↓gI0_i, ↓gI_i, ↓gMul_i, ↓gMul_t, ↓gEq_, ↓gNe_, ↓gIs_n, ↓gIs_b, ↓gIsNot_n, ↓gIsNot_b, ↓gIn_, ↓gNotIn_, ↓gIx_t, ↓gIx_l, ↓gIx_a, ↓gLen_, ↓gLen_l, ↓gLen_a, ↓gInt_, ↓gInt_b, ↓gTuple_, ↓gTuple_l, ↓gTuple_a, ↓gMax_, ↓gMin_, ↓gIsBool_b, ↓gIsBool_i, seqOf_t, seqOf_l, seqOf_a, lstOf_l, lstOf_a, rsv_i, rsv_b, rsv_s, rsv_n, rsv_t, rsv_l, dle_i, dle_b, dle_n, eqD_i, eqD_b, isNon, bNm_, bTup_, bCons_, bNil_, Option.bind_some, i40, i41, i42, i43, atI0, atI1, atI2, atI3, atI4, atI5, mset_same, true_and, beq_self_eq_true, Bool.false_eq_true, c0, c1, Int.cast_ofNat_Int, Int.reduceEq, Int.reduceLT, Int.reduceLE, Int.reduceAdd, Int.reduceSub, ↓reduceIte]
          exact q ys (sup_diff hab hR1 hR2 hy) (Nat.le_trans hyl nb)
theorem lev_flat {l : Nat} (k : Nat) : lev l (k + 1) = (lev l k).flatMap fun w => (List.range l).map fun a : Nat => w ++ [(a : Int)] := rfl
theorem b_lwords (ds : List D) (M : Mu) (Q : D → Mu → Prop) (xw : XW) (h : S_lwords ds M Q xw) : bodyE N_lwords f_lwords ds M Q xw := by
  obtain ⟨l, k, rfl, hl, hk, q⟩ := h
  have q : Q (.lst ((upto l k).map wD)) (mres M M) := by rw [mres_self]; exact q
  have hsz : sizeLine = 16777216 := rfl
  have lv : ∀ i, i ≤ 6 → l ^ i ≤ 729 := fun i hi => by
    have h1 : l ^ i ≤ 3 ^ i := Nat.pow_le_pow_left hl i
    have h2 : 3 ^ i ≤ 3 ^ 6 := Nat.pow_le_pow_right (by decide) hi
    exact Nat.le_trans h1 h2
  have ul : ∀ i, i ≤ 6 → (upto l i).length ≤ 729 * (i + 1) := by
    intro i
    induction i with
    | zero => intro _; show 1 ≤ _; omega
    | succ i ih =>
      intro hi
      have h1 := ih (by omega)
      have h2 := lv (i + 1) hi
      unfold upto
      rw [List.length_append, lev_len]
      omega
  simp only [bodyE, bodyL, startD, N_lwords, List.map_cons, List.map_nil, List.length_cons, List.length_nil, List.replicate_succ, List.replicate_zero, List.cons_append, List.nil_append, Nat.reduceAdd, Nat.reduceSub]
  unfold f_lwords
  try simp -dsimp only [bodyE, startD, List.map_cons, List.map_nil, List.length_cons, List.length_nil, List.replicate_succ, List.replicate_zero, List.cons_append, List.nil_append, Nat.reduceAdd, Nat.reduceSub, List.set_cons_zero, List.set_cons_succ, List.getElem?_cons_zero, List.getElem?_cons_succ, Bool.not_true, Bool.not_false, decide_true, decide_false, ↓IfS_t, ↓IfS_f, ↓IfE_t, ↓IfE_f, ↓AndT_t, ↓AndT_f, ↓OrT_t, ↓OrT_f, ↓AndV_t, ↓AndV_f, ↓OrV_t, ↓OrV_f, IfS_t, IfS_f, IfE_t, IfE_f, AndT_t, AndT_f, OrT_t, OrT_f, AndV_t, AndV_f, OrV_t, OrV_f, ↓eThen, ↓ePass, ↓eBreak, ↓eCont, ↓eExpr, ↓eRet, ↓eRetN, ↓eIfS, ↓eSet, ↓eOwn, ↓eAsg, ↓eSetIx, ↓eGSetIx, ↓eAug, ↓eIadd, ↓eIaddL, ↓eFrz, ↓eFor, ↓eWhile, ↓eNm, ↓eC, ↓eOp, ↓eB, ↓eTr, ↓eTrB, ↓eTrI, ↓eTrN, ↓eTrT, ↓eTrL, ↓eTrA, ↓eAnd, ↓eOr, ↓eNot, ↓eAndV, ↓eOrV, ↓eNotV, ↓eIf, ↓eNil, ↓eCons, ↓eTup, ↓eOfL, ↓eLstL, ↓eListL, ↓eCatL, ↓eLc, ↓eWipe0, ↓eWipe, ↓eSeq, ↓eRng1, ↓eRng2, ↓eCall, ↓eCallL, ↓eRetL, ↓eSrt, ↓eSrtU, ↓eCB, ↓eNeg, ↓eChain, ↓eAppend, ↓ePop, ↓eNo, ↓eSome, ↓eSl, ↓eAnyG, ↓eAllG, ↓eZip, ↓eZip3, ↓gIsC_, tyN_t, tyN_l, tyN_n, tyN_b, tyN_i, seqP_t, seqP_l, ↓eEn1, ↓eEn2, ↓eSeqA, ↓ePar, ↓gAnyL_, ↓gAllL_, ↓gSumL_, boolsD_map, intsD_map, ↓gSl_t, ↓gSl_l, ↓gSl_a, ↓gAdd_i, ↓gAdd_t, ↓gAdd_s, ↓gAdd_l, ↓gI0_i, ↓gI_i, ↓gMul_i, ↓gMul_t, ↓gEq_, ↓gNe_, ↓gIs_n, ↓gIs_b, ↓gIsNot_n, ↓gIsNot_b, ↓gIn_, ↓gNotIn_, ↓gIx_t, ↓gIx_l, ↓gIx_a, ↓gLen_, ↓gLen_l, ↓gLen_a, ↓gInt_, ↓gInt_b, ↓gTuple_, ↓gTuple_l, ↓gTuple_a, ↓gMax_, ↓gMin_, ↓gIsBool_b, ↓gIsBool_i, seqOf_t, seqOf_l, seqOf_a, lstOf_l, lstOf_a, rsv_i, rsv_b, rsv_s, rsv_n, rsv_t, rsv_l, dle_i, dle_b, dle_n, eqD_i, eqD_b, isNon, bNm_, bTup_, bCons_, bNil_, Option.bind_some, i40, i41, i42, i43, atI0, atI1, atI2, atI3, atI4, atI5, mset_same, true_and, beq_self_eq_true, Bool.false_eq_true, c0, c1, Int.cast_ofNat_Int, Int.reduceEq, Int.reduceLT, Int.reduceLE, Int.reduceAdd, Int.reduceSub, ↓reduceIte]
  refine ⟨by decide, by decide, by decide, by decide, by omega, ?_⟩
  refine forS_rng (fun i ρ M' => M = M' ∧ ∃ o4 o5 o6 : Option D, ρ = [some (.int (l : Nat)), some (.int (k : Nat)), some (.lst ((upto l i).map wD)), some (.lst ((lev l i).map wD)), o4, o5, o6, none]) ⟨rfl, none, none, none, rfl⟩ ?_ ?_
  · rintro i ρ M' hi ⟨rfl, o4, o5, o6, rfl⟩ nn cc hn hc
    have hi : i < k := by omega
    try simp -dsimp only [bodyE, startD, List.map_cons, List.map_nil, List.length_cons, List.length_nil, List.replicate_succ, List.replicate_zero, List.cons_append, List.nil_append, Nat.reduceAdd, Nat.reduceSub, List.set_cons_zero, List.set_cons_succ, List.getElem?_cons_zero, List.getElem?_cons_succ, Bool.not_true, Bool.not_false, decide_true, decide_false, ↓IfS_t, ↓IfS_f, ↓IfE_t, ↓IfE_f, ↓AndT_t, ↓AndT_f, ↓OrT_t, ↓OrT_f, ↓AndV_t, ↓AndV_f, ↓OrV_t, ↓OrV_f, IfS_t, IfS_f, IfE_t, IfE_f, AndT_t, AndT_f, OrT_t, OrT_f, AndV_t, AndV_f, OrV_t, OrV_f, ↓eThen, ↓ePass, ↓eBreak, ↓eCont, ↓eExpr, ↓eRet, ↓eRetN, ↓eIfS, ↓eSet, ↓eOwn, ↓eAsg, ↓eSetIx, ↓eGSetIx, ↓eAug, ↓eIadd, ↓eIaddL, ↓eFrz, ↓eFor, ↓eWhile, ↓eNm, ↓eC, ↓eOp, ↓eB, ↓eTr, ↓eTrB, ↓eTrI, ↓eTrN, ↓eTrT, ↓eTrL, ↓eTrA, ↓eAnd, ↓eOr, ↓eNot, ↓eAndV, ↓eOrV, ↓eNotV, ↓eIf, ↓eNil, ↓eCons, ↓eTup, ↓eOfL, ↓eLstL, ↓eListL, ↓eCatL, ↓eLc, ↓eWipe0, ↓eWipe, ↓eSeq, ↓eRng1, ↓eRng2, ↓eCall, ↓eCallL, ↓eRetL, ↓eSrt, ↓eSrtU, ↓eCB, ↓eNeg, ↓eChain, ↓eAppend, ↓ePop, ↓eNo, ↓eSome, ↓eSl, ↓eAnyG, ↓eAllG, ↓eZip, ↓eZip3, ↓gIsC_, tyN_t, tyN_l, tyN_n, tyN_b, tyN_i, seqP_t, seqP_l, ↓eEn1, ↓eEn2, ↓eSeqA, ↓ePar, ↓gAnyL_, ↓gAllL_, ↓gSumL_, boolsD_map, intsD_map, ↓gSl_t, ↓gSl_l, ↓gSl_a, ↓gAdd_i, ↓gAdd_t, ↓gAdd_s, ↓gAdd_l, ↓gI0_i, ↓gI_i, ↓gMul_i, ↓gMul_t, ↓gEq_, ↓gNe_, ↓gIs_n, ↓gIs_b, ↓gIsNot_n, ↓gIsNot_b, ↓gIn_, ↓gNotIn_, ↓gIx_t, ↓gIx_l, ↓gIx_a, ↓gLen_, ↓gLen_l, ↓gLen_a, ↓gInt_, ↓gInt_b, ↓gTuple_, ↓gTuple_l, ↓gTuple_a, ↓gMax_, ↓gMin_, ↓gIsBool_b, ↓gIsBool_i, seqOf_t, seqOf_l, seqOf_a, lstOf_l, lstOf_a, rsv_i, rsv_b, rsv_s, rsv_n, rsv_t, rsv_l, dle_i, dle_b, dle_n, eqD_i, eqD_b, isNon, bNm_, bTup_, bCons_, bNil_, Option.bind_some, i40, i41, i42, i43, atI0, atI1, atI2, atI3, atI4, atI5, mset_same, true_and, beq_self_eq_true, Bool.false_eq_true, c0, c1, Int.cast_ofNat_Int, Int.reduceEq, Int.reduceLT, Int.reduceLE, Int.reduceAdd, Int.reduceSub, ↓reduceIte]
    refine ⟨by decide, ?_⟩
    refine forS_map (fun pre ρ M' => M = M' ∧ ∃ o6 : Option D, ρ = [some (.int (l : Nat)), some (.int (k : Nat)), some (.lst ((upto l i).map wD)), some (.lst ((lev l i).map wD)), some (.int (0 + (i : Nat))), some (.lst ((pre.flatMap fun w => (List.range l).map fun a : Nat => w ++ [(a : Int)]).map wD)), o6, none]) ⟨rfl, o6, rfl⟩ ?_ ?_
    · rintro pre x suf ρ M' e ⟨rfl, o6, rfl⟩ nn2 cc2 hn2 hc2
      have hx : x ∈ lev l i := by rw [← e]; exact List.mem_append_right _ List.mem_cons_self
      have hxl := ((mem_lev l i x).mp hx).1
      try simp -dsimp only [bodyE, startD, List.map_cons, List.map_nil, List.length_cons, List.length_nil, List.replicate_succ, List.replicate_zero, List.cons_append, List.nil_append, Nat.reduceAdd, Nat.reduceSub, List.set_cons_zero, List.set_cons_succ, List.getElem?_cons_zero, List.getElem?_cons_succ, Bool.not_true, Bool.not_false, decide_true, decide_false, ↓IfS_t, ↓IfS_f, ↓IfE_t, ↓IfE_f, ↓AndT_t, ↓AndT_f, ↓OrT_t, ↓OrT_f, ↓AndV_t, ↓AndV_f, ↓OrV_t, ↓OrV_f, IfS_t, IfS_f, IfE_t, IfE_f, AndT_t, AndT_f, OrT_t, OrT_f, AndV_t, AndV_f, OrV_t, OrV_f, ↓eThen, ↓ePass, ↓eBreak, ↓eCont, ↓eExpr, ↓eRet, ↓eRetN, ↓eIfS, ↓eSet, ↓eOwn, ↓eAsg, ↓eSetIx, ↓eGSetIx, ↓eAug, ↓eIadd, ↓eIaddL, ↓eFrz, ↓eFor, ↓eWhile, ↓eNm, ↓eC, ↓eOp, ↓eB, ↓eTr, ↓eTrB, ↓eTrI, ↓eTrN, ↓eTrT, ↓eTrL, ↓eTrA, ↓eAnd, ↓eOr, ↓eNot, ↓eAndV, ↓eOrV, ↓eNotV, ↓eIf, ↓eNil, ↓eCons, ↓eTup, ↓eOfL, ↓eLstL, ↓eListL, ↓eCatL, ↓eLc, ↓eWipe0, ↓eWipe, ↓eSeq, ↓eRng1, ↓eRng2, ↓eCall, ↓eCallL, ↓eRetL, ↓eSrt, ↓eSrtU, ↓eCB, ↓eNeg, ↓eChain, ↓eAppend, ↓ePop, ↓eNo, ↓eSome, ↓eSl, ↓eAnyG, ↓eAllG, ↓eZip, ↓eZip3, ↓gIsC_, tyN_t, tyN_l, tyN_n, tyN_b, tyN_i, seqP_t, seqP_l, ↓eEn1, ↓eEn2, ↓eSeqA, ↓ePar, ↓gAnyL_, ↓gAllL_, ↓gSumL_, boolsD_map, intsD_map, ↓gSl_t, ↓gSl_l, ↓gSl_a, ↓gAdd_i, ↓gAdd_t, ↓gAdd_s, ↓gAdd_l, ↓gI0_i, ↓gI_i, ↓gMul_i, ↓gMul_t, ↓gEq_, ↓gNe_, ↓gIs_n, ↓gIs_b, ↓gIsNot_n, ↓gIsNot_b, ↓gIn_, ↓gNotIn_, ↓gIx_t, ↓gIx_l, ↓gIx_a, ↓gLen_, ↓gLen_l, ↓gLen_a, ↓gInt_, ↓gInt_b, ↓gTuple_, ↓gTuple_l, ↓gTuple_a, ↓gMax_, ↓gMin_, ↓gIsBool_b, ↓gIsBool_i, seqOf_t, seqOf_l, seqOf_a, lstOf_l, lstOf_a, rsv_i, rsv_b, rsv_s, rsv_n, rsv_t, rsv_l, dle_i, dle_b, dle_n, eqD_i, eqD_b, isNon, bNm_, bTup_, bCons_, bNil_, Option.bind_some, i40, i41, i42, i43, atI0, atI1, atI2, atI3, atI4, atI5, mset_same, true_and, beq_self_eq_true, Bool.false_eq_true, c0, c1, Int.cast_ofNat_Int, Int.reduceEq, Int.reduceLT, Int.reduceLE, Int.reduceAdd, Int.reduceSub, ↓reduceIte]
      refine ⟨by omega, ?_⟩
      rw [rngD_enc]
      refine lc_map (fun a : Nat => wD (x ++ [(a : Int)])) (by rw [List.length_range]; omega) (fun a ha kk hkk => ?_) ?_
      · unfold wD at hkk ⊢
        try simp -dsimp only [bodyE, startD, List.map_cons, List.map_nil, List.length_cons, List.length_nil, List.replicate_succ, List.replicate_zero, List.cons_append, List.nil_append, Nat.reduceAdd, Nat.reduceSub, List.set_cons_zero, List.set_cons_succ, List.getElem?_cons_zero, List.getElem?_cons_succ, Bool.not_true, Bool.not_false, decide_true, decide_false, ↓IfS_t, ↓IfS_f, ↓IfE_t, ↓IfE_f, ↓AndT_t, ↓AndT_f, ↓OrT_t, ↓OrT_f, ↓AndV_t, ↓AndV_f, ↓OrV_t, ↓OrV_f, IfS_t, IfS_f, IfE_t, IfE_f, AndT_t, AndT_f, OrT_t, OrT_f, AndV_t, AndV_f, OrV_t, OrV_f, ↓eThen, ↓ePass, ↓eBreak, ↓eCont, ↓eExpr, ↓eRet, ↓eRetN, ↓eIfS, ↓eSet, ↓eOwn, ↓eAsg, ↓eSetIx, ↓eGSetIx, ↓eAug, ↓eIadd, ↓eIaddL, ↓eFrz, ↓eFor, ↓eWhile, ↓eNm, ↓eC, ↓eOp, ↓eB, ↓eTr, ↓eTrB, ↓eTrI, ↓eTrN, ↓eTrT, ↓eTrL, ↓eTrA, ↓eAnd, ↓eOr, ↓eNot, ↓eAndV, ↓eOrV, ↓eNotV, ↓eIf, ↓eNil, ↓eCons, ↓eTup, ↓eOfL, ↓eLstL, ↓eListL, ↓eCatL, ↓eLc, ↓eWipe0, ↓eWipe, ↓eSeq, ↓eRng1, ↓eRng2, ↓eCall, ↓eCallL, ↓eRetL, ↓eSrt, ↓eSrtU, ↓eCB, ↓eNeg, ↓eChain, ↓eAppend, ↓ePop, ↓eNo, ↓eSome, ↓eSl, ↓eAnyG, ↓eAllG, ↓eZip, ↓eZip3, ↓gIsC_, tyN_t, tyN_l, tyN_n, tyN_b, tyN_i, seqP_t, seqP_l, ↓eEn1, ↓eEn2, ↓eSeqA, ↓ePar, ↓gAnyL_, ↓gAllL_, ↓gSumL_, boolsD_map, intsD_map, ↓gSl_t, ↓gSl_l, ↓gSl_a, ↓gAdd_i, ↓gAdd_t, ↓gAdd_s, ↓gAdd_l, ↓gI0_i, ↓gI_i, ↓gMul_i, ↓gMul_t, ↓gEq_, ↓gNe_, ↓gIs_n, ↓gIs_b, ↓gIsNot_n, ↓gIsNot_b, ↓gIn_, ↓gNotIn_, ↓gIx_t, ↓gIx_l, ↓gIx_a, ↓gLen_, ↓gLen_l, ↓gLen_a, ↓gInt_, ↓gInt_b, ↓gTuple_, ↓gTuple_l, ↓gTuple_a, ↓gMax_, ↓gMin_, ↓gIsBool_b, ↓gIsBool_i, seqOf_t, seqOf_l, seqOf_a, lstOf_l, lstOf_a, rsv_i, rsv_b, rsv_s, rsv_n, rsv_t, rsv_l, dle_i, dle_b, dle_n, eqD_i, eqD_b, isNon, bNm_, bTup_, bCons_, bNil_, Option.bind_some, i40, i41, i42, i43, atI0, atI1, atI2, atI3, atI4, atI5, mset_same, true_and, beq_self_eq_true, Bool.false_eq_true, c0, c1, Int.cast_ofNat_Int, Int.reduceEq, Int.reduceLT, Int.reduceLE, Int.reduceAdd, Int.reduceSub, ↓reduceIte, List.length_map, Int.zero_add]
        rw [List.map_append] at hkk
        exact ⟨by decide, by omega, hkk⟩
      · have plen : (pre.flatMap fun w => (List.range l).map fun a : Nat => w ++ [(a : Int)]).length ≤ 729 * 3 := by
          rw [List.length_flatMap]
          simp only [List.length_map, List.length_range]
          rw [List.map_const']
          have h1 := congrArg List.length e
          rw [List.length_append, List.length_cons, lev_len] at h1
          have h2 := lv i (by omega)
          simp only [List.sum_replicate_nat]
          have : pre.length * l ≤ 729 * 3 := Nat.mul_le_mul (by omega) hl
          exact this
        try simp -dsimp only [bodyE, startD, List.map_cons, List.map_nil, List.length_cons, List.length_nil, List.replicate_succ, List.replicate_zero, List.cons_append, List.nil_append, Nat.reduceAdd, Nat.reduceSub, List.set_cons_zero, List.set_cons_succ, List.getElem?_cons_zero, List.getElem?_cons_succ, Bool.not_true, Bool.not_false, decide_true, decide_false, ↓IfS_t, ↓IfS_f, ↓IfE_t, ↓IfE_f, ↓AndT_t, ↓AndT_f, ↓OrT_t, ↓OrT_f, ↓AndV_t, ↓AndV_f, ↓OrV_t, ↓OrV_f, IfS_t, IfS_f, IfE_t, IfE_f, AndT_t, AndT_f, OrT_t, OrT_f, AndV_t, AndV_f, OrV_t, OrV_f, ↓eThen, ↓ePass, ↓eBreak, ↓eCont, ↓eExpr, ↓eRet, ↓eRetN, ↓eIfS, ↓eSet, ↓eOwn, ↓eAsg, ↓eSetIx, ↓eGSetIx, ↓eAug, ↓eIadd, ↓eIaddL, ↓eFrz, ↓eFor, ↓eWhile, ↓eNm, ↓eC, ↓eOp, ↓eB, ↓eTr, ↓eTrB, ↓eTrI, ↓eTrN, ↓eTrT, ↓eTrL, ↓eTrA, ↓eAnd, ↓eOr, ↓eNot, ↓eAndV, ↓eOrV, ↓eNotV, ↓eIf, ↓eNil, ↓eCons, ↓eTup, ↓eOfL, ↓eLstL, ↓eListL, ↓eCatL, ↓eLc, ↓eWipe0, ↓eWipe, ↓eSeq, ↓eRng1, ↓eRng2, ↓eCall, ↓eCallL, ↓eRetL, ↓eSrt, ↓eSrtU, ↓eCB, ↓eNeg, ↓eChain, ↓eAppend, ↓ePop, ↓eNo, ↓eSome, ↓eSl, ↓eAnyG, ↓eAllG, ↓eZip, ↓eZip3, ↓gIsC_, tyN_t, tyN_l, tyN_n, tyN_b, tyN_i, seqP_t, seqP_l, ↓eEn1, ↓eEn2, ↓eSeqA, ↓ePar, ↓gAnyL_, ↓gAllL_, ↓gSumL_, boolsD_map, intsD_map, ↓gSl_t, ↓gSl_l, ↓gSl_a, ↓gAdd_i, ↓gAdd_t, ↓gAdd_s, ↓gAdd_l, ↓gI0_i, ↓gI_i, ↓gMul_i, ↓gMul_t, ↓gEq_, ↓gNe_, ↓gIs_n, ↓gIs_b, ↓gIsNot_n, ↓gIsNot_b, ↓gIn_, ↓gNotIn_, ↓gIx_t, ↓gIx_l, ↓gIx_a, ↓gLen_, ↓gLen_l, ↓gLen_a, ↓gInt_, ↓gInt_b, ↓gTuple_, ↓gTuple_l, ↓gTuple_a, ↓gMax_, ↓gMin_, ↓gIsBool_b, ↓gIsBool_i, seqOf_t, seqOf_l, seqOf_a, lstOf_l, lstOf_a, rsv_i, rsv_b, rsv_s, rsv_n, rsv_t, rsv_l, dle_i, dle_b, dle_n, eqD_i, eqD_b, isNon, bNm_, bTup_, bCons_, bNil_, Option.bind_some, i40, i41, i42, i43, atI0, atI1, atI2, atI3, atI4, atI5, mset_same, true_and, beq_self_eq_true, Bool.false_eq_true, c0, c1, Int.cast_ofNat_Int, Int.reduceEq, Int.reduceLT, Int.reduceLE, Int.reduceAdd, Int.reduceSub, ↓reduceIte, List.length_map, List.length_range]
        refine ⟨by omega, hn2 _ _ ⟨rfl, some (wD x), ?_⟩⟩
        have e3 : ((pre ++ [x]).flatMap fun w => (List.range l).map fun a : Nat => w ++ [(a : Int)]).map wD = ((pre.flatMap fun w => (List.range l).map fun a : Nat => w ++ [(a : Int)]).map wD) ++ ((List.range ((l : Nat) : Int).toNat).map fun a : Nat => wD (x ++ [(a : Int)])) := by
          rw [List.flatMap_append, List.map_append, List.flatMap_singleton, List.map_map, Int.toNat_natCast]; rfl
        rw [e3]
    · rintro ρ M' ⟨rfl, o6, rfl⟩
      rw [← lev_flat]
      have h1 := ul i (by omega)
      have h2 := lv (i + 1) (by omega)
      try simp -dsimp only [bodyE, startD, List.map_cons, List.map_nil, List.length_cons, List.length_nil, List.replicate_succ, List.replicate_zero, List.cons_append, List.nil_append, Nat.reduceAdd, Nat.reduceSub, List.set_cons_zero, List.set_cons_succ, List.getElem?_cons_zero, List.getElem?_cons_succ, Bool.not_true, Bool.not_false, decide_true, decide_false, ↓IfS_t, ↓IfS_f, ↓IfE_t, ↓IfE_f, ↓AndT_t, ↓AndT_f, ↓OrT_t, ↓OrT_f, ↓AndV_t, ↓AndV_f, ↓OrV_t, ↓OrV_f, IfS_t, IfS_f, IfE_t, IfE_f, AndT_t, AndT_f, OrT_t, OrT_f, AndV_t, AndV_f, OrV_t, OrV_f, ↓eThen, ↓ePass, ↓eBreak, ↓eCont, ↓eExpr, ↓eRet, ↓eRetN, ↓eIfS, ↓eSet, ↓eOwn, ↓eAsg, ↓eSetIx, ↓eGSetIx, ↓eAug, ↓eIadd, ↓eIaddL, ↓eFrz, ↓eFor, ↓eWhile, ↓eNm, ↓eC, ↓eOp, ↓eB, ↓eTr, ↓eTrB, ↓eTrI, ↓eTrN, ↓eTrT, ↓eTrL, ↓eTrA, ↓eAnd, ↓eOr, ↓eNot, ↓eAndV, ↓eOrV, ↓eNotV, ↓eIf, ↓eNil, ↓eCons, ↓eTup, ↓eOfL, ↓eLstL, ↓eListL, ↓eCatL, ↓eLc, ↓eWipe0, ↓eWipe, ↓eSeq, ↓eRng1, ↓eRng2, ↓eCall, ↓eCallL, ↓eRetL, ↓eSrt, ↓eSrtU, ↓eCB, ↓eNeg, ↓eChain, ↓eAppend, ↓ePop, ↓eNo, ↓eSome, ↓eSl, ↓eAnyG, ↓eAllG, ↓eZip, ↓eZip3, ↓gIsC_, tyN_t, tyN_l, tyN_n, tyN_b, tyN_i, seqP_t, seqP_l, ↓eEn1, ↓eEn2, ↓eSeqA, ↓ePar, ↓gAnyL_, ↓gAllL_, ↓gSumL_, boolsD_map, intsD_map, ↓gSl_t, ↓gSl_l, ↓gSl_a, ↓gAdd_i, ↓gAdd_t, ↓gAdd_s, ↓gAdd_l, ↓gI0_i, ↓gI_i, ↓gMul_i, ↓gMul_t, ↓gEq_, ↓gNe_, ↓gIs_n, ↓gIs_b, ↓gIsNot_n, ↓gIsNot_b, ↓gIn_, ↓gNotIn_, ↓gIx_t, ↓gIx_l, ↓gIx_a, ↓gLen_, ↓gLen_l, ↓gLen_a, ↓gInt_, ↓gInt_b, ↓gTuple_, ↓gTuple_l, ↓gTuple_a, ↓gMax_, ↓gMin_, ↓gIsBool_b, ↓gIsBool_i, seqOf_t, seqOf_l, seqOf_a, lstOf_l, lstOf_a, rsv_i, rsv_b, rsv_s, rsv_n, rsv_t, rsv_l, dle_i, dle_b, dle_n, eqD_i, eqD_b, isNon, bNm_, bTup_, bCons_, bNil_, Option.bind_some, i40, i41, i42, i43, atI0, atI1, atI2, atI3, atI4, atI5, mset_same, true_and, beq_self_eq_true, Bool.false_eq_true, c0, c1, Int.cast_ofNat_Int, Int.reduceEq, Int.reduceLT, Int.reduceLE, Int.reduceAdd, Int.reduceSub, ↓reduceIte, List.length_map, lev_len]
      refine ⟨by omega, hn _ _ ⟨rfl, some (.int (0 + (i : Nat))), some (.lst ((lev l (i + 1)).map wD)), o6, ?_⟩⟩
      show _ = [some (D.int (l : Nat)), some (D.int (k : Nat)), some (D.lst ((upto l i ++ lev l (i + 1)).map wD)), _, _, _, _, _]
      rw [List.map_append]
  · rintro ρ M' ⟨rfl, o4, o5, o6, rfl⟩
    try simp -dsimp only [bodyE, startD, List.map_cons, List.map_nil, List.length_cons, List.length_nil, List.replicate_succ, List.replicate_zero, List.cons_append, List.nil_append, Nat.reduceAdd, Nat.reduceSub, List.set_cons_zero, List.set_cons_succ, List.getElem?_cons_zero, List.getElem?_cons_succ, Bool.not_true, Bool.not_false, decide_true, decide_false, ↓IfS_t, ↓IfS_f, ↓IfE_t, ↓IfE_f, ↓AndT_t, ↓AndT_f, ↓OrT_t, ↓OrT_f, ↓AndV_t, ↓AndV_f, ↓OrV_t, ↓OrV_f, IfS_t, IfS_f, IfE_t, IfE_f, AndT_t, AndT_f, OrT_t, OrT_f, AndV_t, AndV_f, OrV_t, OrV_f, ↓eThen, ↓ePass, ↓eBreak, ↓eCont, ↓eExpr, ↓eRet, ↓eRetN, ↓eIfS, ↓eSet, ↓eOwn, ↓eAsg, ↓eSetIx, ↓eGSetIx, ↓eAug, ↓eIadd, ↓eIaddL, ↓eFrz, ↓eFor, ↓eWhile, ↓eNm, ↓eC, ↓eOp, ↓eB, ↓eTr, ↓eTrB, ↓eTrI, ↓eTrN, ↓eTrT, ↓eTrL, ↓eTrA, ↓eAnd, ↓eOr, ↓eNot, ↓eAndV, ↓eOrV, ↓eNotV, ↓eIf, ↓eNil, ↓eCons, ↓eTup, ↓eOfL, ↓eLstL, ↓eListL, ↓eCatL, ↓eLc, ↓eWipe0, ↓eWipe, ↓eSeq, ↓eRng1, ↓eRng2, ↓eCall, ↓eCallL, ↓eRetL, ↓eSrt, ↓eSrtU, ↓eCB, ↓eNeg, ↓eChain, ↓eAppend, ↓ePop, ↓eNo, ↓eSome, ↓eSl, ↓eAnyG, ↓eAllG, ↓eZip, ↓eZip3, ↓gIsC_, tyN_t, tyN_l, tyN_n, tyN_b, tyN_i, seqP_t, seqP_l, ↓eEn1, ↓eEn2, ↓eSeqA, ↓ePar, ↓gAnyL_, ↓gAllL_, ↓gSumL_, boolsD_map, intsD_map, ↓gSl_t, ↓gSl_l, ↓gSl_a, ↓gAdd_i, ↓gAdd_t, ↓gAdd_s, ↓gAdd_l, ↓gI0_i, ↓gI_i, ↓gMul_i, ↓gMul_t, ↓gEq_, ↓gNe_, ↓gIs_n, ↓gIs_b, ↓gIsNot_n, ↓gIsNot_b, ↓gIn_, ↓gNotIn_, ↓gIx_t, ↓gIx_l, ↓gIx_a, ↓gLen_, ↓gLen_l, ↓gLen_a, ↓gInt_, ↓gInt_b, ↓gTuple_, ↓gTuple_l, ↓gTuple_a, ↓gMax_, ↓gMin_, ↓gIsBool_b, ↓gIsBool_i, seqOf_t, seqOf_l, seqOf_a, lstOf_l, lstOf_a, rsv_i, rsv_b, rsv_s, rsv_n, rsv_t, rsv_l, dle_i, dle_b, dle_n, eqD_i, eqD_b, isNon, bNm_, bTup_, bCons_, bNil_, Option.bind_some, i40, i41, i42, i43, atI0, atI1, atI2, atI3, atI4, atI5, mset_same, true_and, beq_self_eq_true, Bool.false_eq_true, c0, c1, Int.cast_ofNat_Int, Int.reduceEq, Int.reduceLT, Int.reduceLE, Int.reduceAdd, Int.reduceSub, ↓reduceIte]
    exact q
theorem b_lleast_words (ds : List D) (M : Mu) (Q : D → Mu → Prop) (xw : XW) (h : S_lleast_words ds M Q xw) : bodyE N_lleast_words (f_lleast_words (S_lsub 50)) ds M Q xw := by
  obtain ⟨xs, rfl, hp, hl, hw, q⟩ := h
  have hsz : sizeLine = 16777216 := rfl
  obtain ⟨zs, ez, hz, za⟩ := srtU_ex (fun _ _ => wD_inj) (srtOk_w hp)
  have zl : zs.length ≤ xs.length := nodup_len _ _ za.nodup fun y hy => (hz y).mp hy
  simp only [bodyE, bodyL, startD, N_lleast_words, List.map_cons, List.map_nil, List.length_cons, List.length_nil, List.replicate_succ, List.replicate_zero, List.cons_append, List.nil_append, Nat.reduceAdd, Nat.reduceSub]
  unfold f_lleast_words
  try simp -dsimp only [bodyE, startD, List.map_cons, List.map_nil, List.length_cons, List.length_nil, List.replicate_succ, List.replicate_zero, List.cons_append, List.nil_append, Nat.reduceAdd, Nat.reduceSub, List.set_cons_zero, List.set_cons_succ, List.getElem?_cons_zero, List.getElem?_cons_succ, Bool.not_true, Bool.not_false, decide_true, decide_false, ↓IfS_t, ↓IfS_f, ↓IfE_t, ↓IfE_f, ↓AndT_t, ↓AndT_f, ↓OrT_t, ↓OrT_f, ↓AndV_t, ↓AndV_f, ↓OrV_t, ↓OrV_f, IfS_t, IfS_f, IfE_t, IfE_f, AndT_t, AndT_f, OrT_t, OrT_f, AndV_t, AndV_f, OrV_t, OrV_f, ↓eThen, ↓ePass, ↓eBreak, ↓eCont, ↓eExpr, ↓eRet, ↓eRetN, ↓eIfS, ↓eSet, ↓eOwn, ↓eAsg, ↓eSetIx, ↓eGSetIx, ↓eAug, ↓eIadd, ↓eIaddL, ↓eFrz, ↓eFor, ↓eWhile, ↓eNm, ↓eC, ↓eOp, ↓eB, ↓eTr, ↓eTrB, ↓eTrI, ↓eTrN, ↓eTrT, ↓eTrL, ↓eTrA, ↓eAnd, ↓eOr, ↓eNot, ↓eAndV, ↓eOrV, ↓eNotV, ↓eIf, ↓eNil, ↓eCons, ↓eTup, ↓eOfL, ↓eLstL, ↓eListL, ↓eCatL, ↓eLc, ↓eWipe0, ↓eWipe, ↓eSeq, ↓eRng1, ↓eRng2, ↓eCall, ↓eCallL, ↓eRetL, ↓eSrt, ↓eSrtU, ↓eCB, ↓eNeg, ↓eChain, ↓eAppend, ↓ePop, ↓eNo, ↓eSome, ↓eSl, ↓eAnyG, ↓eAllG, ↓eZip, ↓eZip3, ↓gIsC_, tyN_t, tyN_l, tyN_n, tyN_b, tyN_i, seqP_t, seqP_l, ↓eEn1, ↓eEn2, ↓eSeqA, ↓ePar, ↓gAnyL_, ↓gAllL_, ↓gSumL_, boolsD_map, intsD_map, ↓gSl_t, ↓gSl_l, ↓gSl_a, ↓gAdd_i, ↓gAdd_t, ↓gAdd_s, ↓gAdd_l, ↓gI0_i, ↓gI_i, ↓gMul_i, ↓gMul_t, ↓gEq_, ↓gNe_, ↓gIs_n, ↓gIs_b, ↓gIsNot_n, ↓gIsNot_b, ↓gIn_, ↓gNotIn_, ↓gIx_t, ↓gIx_l, ↓gIx_a, ↓gLen_, ↓gLen_l, ↓gLen_a, ↓gInt_, ↓gInt_b, ↓gTuple_, ↓gTuple_l, ↓gTuple_a, ↓gMax_, ↓gMin_, ↓gIsBool_b, ↓gIsBool_i, seqOf_t, seqOf_l, seqOf_a, lstOf_l, lstOf_a, rsv_i, rsv_b, rsv_s, rsv_n, rsv_t, rsv_l, dle_i, dle_b, dle_n, eqD_i, eqD_b, isNon, bNm_, bTup_, bCons_, bNil_, Option.bind_some, i40, i41, i42, i43, atI0, atI1, atI2, atI3, atI4, atI5, mset_same, true_and, beq_self_eq_true, Bool.false_eq_true, c0, c1, Int.cast_ofNat_Int, Int.reduceEq, Int.reduceLT, Int.reduceLE, Int.reduceAdd, Int.reduceSub, ↓reduceIte]
  refine ⟨by decide, fun p hpM _ => ?_⟩
  have il : IsLeast xs (zs.filter (mini SubW xs)) := ⟨List.Pairwise.filter _ za, fun y => by rw [List.mem_filter, hz]⟩
  have q : Q (.lst ((zs.filter (mini SubW xs)).map wD)) (mres M M) := by rw [mres_self]; exact q _ il
  try simp -dsimp only [bodyE, startD, List.map_cons, List.map_nil, List.length_cons, List.length_nil, List.replicate_succ, List.replicate_zero, List.cons_append, List.nil_append, Nat.reduceAdd, Nat.reduceSub, List.set_cons_zero, List.set_cons_succ, List.getElem?_cons_zero, List.getElem?_cons_succ, Bool.not_true, Bool.not_false, decide_true, decide_false, ↓IfS_t, ↓IfS_f, ↓IfE_t, ↓IfE_f, ↓AndT_t, ↓AndT_f, ↓OrT_t, ↓OrT_f, ↓AndV_t, ↓AndV_f, ↓OrV_t, ↓OrV_f, IfS_t, IfS_f, IfE_t, IfE_f, AndT_t, AndT_f, OrT_t, OrT_f, AndV_t, AndV_f, OrV_t, OrV_f, ↓eThen, ↓ePass, ↓eBreak, ↓eCont, ↓eExpr, ↓eRet, ↓eRetN, ↓eIfS, ↓eSet, ↓eOwn, ↓eAsg, ↓eSetIx, ↓eGSetIx, ↓eAug, ↓eIadd, ↓eIaddL, ↓eFrz, ↓eFor, ↓eWhile, ↓eNm, ↓eC, ↓eOp, ↓eB, ↓eTr, ↓eTrB, ↓eTrI, ↓eTrN, ↓eTrT, ↓eTrL, ↓eTrA, ↓eAnd, ↓eOr, ↓eNot, ↓eAndV, ↓eOrV, ↓eNotV, ↓eIf, ↓eNil, ↓eCons, ↓eTup, ↓eOfL, ↓eLstL, ↓eListL, ↓eCatL, ↓eLc, ↓eWipe0, ↓eWipe, ↓eSeq, ↓eRng1, ↓eRng2, ↓eCall, ↓eCallL, ↓eRetL, ↓eSrt, ↓eSrtU, ↓eCB, ↓eNeg, ↓eChain, ↓eAppend, ↓ePop, ↓eNo, ↓eSome, ↓eSl, ↓eAnyG, ↓eAllG, ↓eZip, ↓eZip3, ↓gIsC_, tyN_t, tyN_l, tyN_n, tyN_b, tyN_i, seqP_t, seqP_l, ↓eEn1, ↓eEn2, ↓eSeqA, ↓ePar, ↓gAnyL_, ↓gAllL_, ↓gSumL_, boolsD_map, intsD_map, ↓gSl_t, ↓gSl_l, ↓gSl_a, ↓gAdd_i, ↓gAdd_t, ↓gAdd_s, ↓gAdd_l, ↓gI0_i, ↓gI_i, ↓gMul_i, ↓gMul_t, ↓gEq_, ↓gNe_, ↓gIs_n, ↓gIs_b, ↓gIsNot_n, ↓gIsNot_b, ↓gIn_, ↓gNotIn_, ↓gIx_t, ↓gIx_l, ↓gIx_a, ↓gLen_, ↓gLen_l, ↓gLen_a, ↓gInt_, ↓gInt_b, ↓gTuple_, ↓gTuple_l, ↓gTuple_a, ↓gMax_, ↓gMin_, ↓gIsBool_b, ↓gIsBool_i, seqOf_t, seqOf_l, seqOf_a, lstOf_l, lstOf_a, rsv_i, rsv_b, rsv_s, rsv_n, rsv_t, rsv_l, dle_i, dle_b, dle_n, eqD_i, eqD_b, isNon, bNm_, bTup_, bCons_, bNil_, Option.bind_some, i40, i41, i42, i43, atI0, atI1, atI2, atI3, atI4, atI5, mset_same, true_and, beq_self_eq_true, Bool.false_eq_true, c0, c1, Int.cast_ofNat_Int, Int.reduceEq, Int.reduceLT, Int.reduceLE, Int.reduceAdd, Int.reduceSub, ↓reduceIte, okQ_w hp hl, ez]
  refine forS_map (fun pre ρ M' => M' = mset M p (.lst ((pre.filter (mini SubW xs)).map wD)) ∧ ∃ (o2 : Option D), ρ = [some (.lst (xs.map wD)), some (.loc p), o2, none]) ⟨rfl, none, rfl⟩ ?_ ?_
  · rintro pre x suf ρ M' e ⟨rfl, o2, rfl⟩ nn cc hn hc
    have hx : x ∈ xs := (hz x).mp (by rw [← e]; exact List.mem_append_right _ List.mem_cons_self)
    have lp : (pre.filter (mini SubW xs)).length ≤ 76 := by
      have h1 := List.length_filter_le (mini SubW xs) pre
      have h2 := congrArg List.length e
      rw [List.length_append, List.length_cons] at h2
      omega
    try simp -dsimp only [bodyE, startD, List.map_cons, List.map_nil, List.length_cons, List.length_nil, List.replicate_succ, List.replicate_zero, List.cons_append, List.nil_append, Nat.reduceAdd, Nat.reduceSub, List.set_cons_zero, List.set_cons_succ, List.getElem?_cons_zero, List.getElem?_cons_succ, Bool.not_true, Bool.not_false, decide_true, decide_false, ↓IfS_t, ↓IfS_f, ↓IfE_t, ↓IfE_f, ↓AndT_t, ↓AndT_f, ↓OrT_t, ↓OrT_f, ↓AndV_t, ↓AndV_f, ↓OrV_t, ↓OrV_f, IfS_t, IfS_f, IfE_t, IfE_f, AndT_t, AndT_f, OrT_t, OrT_f, AndV_t, AndV_f, OrV_t, OrV_f, ↓eThen, ↓ePass, ↓eBreak, ↓eCont, ↓eExpr, ↓eRet, ↓eRetN, ↓eIfS, ↓eSet, ↓eOwn, ↓eAsg, ↓eSetIx, ↓eGSetIx, ↓eAug, ↓eIadd, ↓eIaddL, ↓eFrz, ↓eFor, ↓eWhile, ↓eNm, ↓eC, ↓eOp, ↓eB, ↓eTr, ↓eTrB, ↓eTrI, ↓eTrN, ↓eTrT, ↓eTrL, ↓eTrA, ↓eAnd, ↓eOr, ↓eNot, ↓eAndV, ↓eOrV, ↓eNotV, ↓eIf, ↓eNil, ↓eCons, ↓eTup, ↓eOfL, ↓eLstL, ↓eListL, ↓eCatL, ↓eLc, ↓eWipe0, ↓eWipe, ↓eSeq, ↓eRng1, ↓eRng2, ↓eCall, ↓eCallL, ↓eRetL, ↓eSrt, ↓eSrtU, ↓eCB, ↓eNeg, ↓eChain, ↓eAppend, ↓ePop, ↓eNo, ↓eSome, ↓eSl, ↓eAnyG, ↓eAllG, ↓eZip, ↓eZip3, ↓gIsC_, tyN_t, tyN_l, tyN_n, tyN_b, tyN_i, seqP_t, seqP_l, ↓eEn1, ↓eEn2, ↓eSeqA, ↓ePar, ↓gAnyL_, ↓gAllL_, ↓gSumL_, boolsD_map, intsD_map, ↓gSl_t, ↓gSl_l, ↓gSl_a, ↓gAdd_i, ↓gAdd_t, ↓gAdd_s, ↓gAdd_l, ↓gI0_i, ↓gI_i, ↓gMul_i, ↓gMul_t, ↓gEq_, ↓gNe_, ↓gIs_n, ↓gIs_b, ↓gIsNot_n, ↓gIsNot_b, ↓gIn_, ↓gNotIn_, ↓gIx_t, ↓gIx_l, ↓gIx_a, ↓gLen_, ↓gLen_l, ↓gLen_a, ↓gInt_, ↓gInt_b, ↓gTuple_, ↓gTuple_l, ↓gTuple_a, ↓gMax_, ↓gMin_, ↓gIsBool_b, ↓gIsBool_i, seqOf_t, seqOf_l, seqOf_a, lstOf_l, lstOf_a, rsv_i, rsv_b, rsv_s, rsv_n, rsv_t, rsv_l, dle_i, dle_b, dle_n, eqD_i, eqD_b, isNon, bNm_, bTup_, bCons_, bNil_, Option.bind_some, i40, i41, i42, i43, atI0, atI1, atI2, atI3, atI4, atI5, mset_same, true_and, beq_self_eq_true, Bool.false_eq_true, c0, c1, Int.cast_ofNat_Int, Int.reduceEq, Int.reduceLT, Int.reduceLE, Int.reduceAdd, Int.reduceSub, ↓reduceIte]
    refine lc_filt (fun o => decide (o ≠ x)) (fun o => .bl (SubW o x)) (by omega) (fun o ho k hk => ?_) (fun o ho _ k hk => ?_) ?_
    · have hk : k (!decide (o = x)) (mset M p (.lst ((pre.filter (mini SubW xs)).map wD))) := by rw [← decide_not]; exact hk
      try simp -dsimp only [bodyE, startD, List.map_cons, List.map_nil, List.length_cons, List.length_nil, List.replicate_succ, List.replicate_zero, List.cons_append, List.nil_append, Nat.reduceAdd, Nat.reduceSub, List.set_cons_zero, List.set_cons_succ, List.getElem?_cons_zero, List.getElem?_cons_succ, Bool.not_true, Bool.not_false, decide_true, decide_false, ↓IfS_t, ↓IfS_f, ↓IfE_t, ↓IfE_f, ↓AndT_t, ↓AndT_f, ↓OrT_t, ↓OrT_f, ↓AndV_t, ↓AndV_f, ↓OrV_t, ↓OrV_f, IfS_t, IfS_f, IfE_t, IfE_f, AndT_t, AndT_f, OrT_t, OrT_f, AndV_t, AndV_f, OrV_t, OrV_f, ↓eThen, ↓ePass, ↓eBreak, ↓eCont, ↓eExpr, ↓eRet, ↓eRetN, ↓eIfS, ↓eSet, ↓eOwn, ↓eAsg, ↓eSetIx, ↓eGSetIx, ↓eAug, ↓eIadd, ↓eIaddL, ↓eFrz, ↓eFor, ↓eWhile, ↓eNm, ↓eC, ↓eOp, ↓eB, ↓eTr, ↓eTrB, ↓eTrI, ↓eTrN, ↓eTrT, ↓eTrL, ↓eTrA, ↓eAnd, ↓eOr, ↓eNot, ↓eAndV, ↓eOrV, ↓eNotV, ↓eIf, ↓eNil, ↓eCons, ↓eTup, ↓eOfL, ↓eLstL, ↓eListL, ↓eCatL, ↓eLc, ↓eWipe0, ↓eWipe, ↓eSeq, ↓eRng1, ↓eRng2, ↓eCall, ↓eCallL, ↓eRetL, ↓eSrt, ↓eSrtU, ↓eCB, ↓eNeg, ↓eChain, ↓eAppend, ↓ePop, ↓eNo, ↓eSome, ↓eSl, ↓eAnyG, ↓eAllG, ↓eZip, ↓eZip3, ↓gIsC_, tyN_t, tyN_l, tyN_n, tyN_b, tyN_i, seqP_t, seqP_l, ↓eEn1, ↓eEn2, ↓eSeqA, ↓ePar, ↓gAnyL_, ↓gAllL_, ↓gSumL_, boolsD_map, intsD_map, ↓gSl_t, ↓gSl_l, ↓gSl_a, ↓gAdd_i, ↓gAdd_t, ↓gAdd_s, ↓gAdd_l, ↓gI0_i, ↓gI_i, ↓gMul_i, ↓gMul_t, ↓gEq_, ↓gNe_, ↓gIs_n, ↓gIs_b, ↓gIsNot_n, ↓gIsNot_b, ↓gIn_, ↓gNotIn_, ↓gIx_t, ↓gIx_l, ↓gIx_a, ↓gLen_, ↓gLen_l, ↓gLen_a, ↓gInt_, ↓gInt_b, ↓gTuple_, ↓gTuple_l, ↓gTuple_a, ↓gMax_, ↓gMin_, ↓gIsBool_b, ↓gIsBool_i, seqOf_t, seqOf_l, seqOf_a, lstOf_l, lstOf_a, rsv_i, rsv_b, rsv_s, rsv_n, rsv_t, rsv_l, dle_i, dle_b, dle_n, eqD_i, eqD_b, isNon, bNm_, bTup_, bCons_, bNil_, Option.bind_some, i40, i41, i42, i43, atI0, atI1, atI2, atI3, atI4, atI5, mset_same, true_and, beq_self_eq_true, Bool.false_eq_true, c0, c1, Int.cast_ofNat_Int, Int.reduceEq, Int.reduceLT, Int.reduceLE, Int.reduceAdd, Int.reduceSub, ↓reduceIte, rsv_w', dle_w60, eqD_w]
      exact hk
    · try simp -dsimp only [bodyE, startD, List.map_cons, List.map_nil, List.length_cons, List.length_nil, List.replicate_succ, List.replicate_zero, List.cons_append, List.nil_append, Nat.reduceAdd, Nat.reduceSub, List.set_cons_zero, List.set_cons_succ, List.getElem?_cons_zero, List.getElem?_cons_succ, Bool.not_true, Bool.not_false, decide_true, decide_false, ↓IfS_t, ↓IfS_f, ↓IfE_t, ↓IfE_f, ↓AndT_t, ↓AndT_f, ↓OrT_t, ↓OrT_f, ↓AndV_t, ↓AndV_f, ↓OrV_t, ↓OrV_f, IfS_t, IfS_f, IfE_t, IfE_f, AndT_t, AndT_f, OrT_t, OrT_f, AndV_t, AndV_f, OrV_t, OrV_f, ↓eThen, ↓ePass, ↓eBreak, ↓eCont, ↓eExpr, ↓eRet, ↓eRetN, ↓eIfS, ↓eSet, ↓eOwn, ↓eAsg, ↓eSetIx, ↓eGSetIx, ↓eAug, ↓eIadd, ↓eIaddL, ↓eFrz, ↓eFor, ↓eWhile, ↓eNm, ↓eC, ↓eOp, ↓eB, ↓eTr, ↓eTrB, ↓eTrI, ↓eTrN, ↓eTrT, ↓eTrL, ↓eTrA, ↓eAnd, ↓eOr, ↓eNot, ↓eAndV, ↓eOrV, ↓eNotV, ↓eIf, ↓eNil, ↓eCons, ↓eTup, ↓eOfL, ↓eLstL, ↓eListL, ↓eCatL, ↓eLc, ↓eWipe0, ↓eWipe, ↓eSeq, ↓eRng1, ↓eRng2, ↓eCall, ↓eCallL, ↓eRetL, ↓eSrt, ↓eSrtU, ↓eCB, ↓eNeg, ↓eChain, ↓eAppend, ↓ePop, ↓eNo, ↓eSome, ↓eSl, ↓eAnyG, ↓eAllG, ↓eZip, ↓eZip3, ↓gIsC_, tyN_t, tyN_l, tyN_n, tyN_b, tyN_i, seqP_t, seqP_l, ↓eEn1, ↓eEn2, ↓eSeqA, ↓ePar, ↓gAnyL_, ↓gAllL_, ↓gSumL_, boolsD_map, intsD_map, ↓gSl_t, ↓gSl_l, ↓gSl_a, ↓gAdd_i, ↓gAdd_t, ↓gAdd_s, ↓gAdd_l, ↓gI0_i, ↓gI_i, ↓gMul_i, ↓gMul_t, ↓gEq_, ↓gNe_, ↓gIs_n, ↓gIs_b, ↓gIsNot_n, ↓gIsNot_b, ↓gIn_, ↓gNotIn_, ↓gIx_t, ↓gIx_l, ↓gIx_a, ↓gLen_, ↓gLen_l, ↓gLen_a, ↓gInt_, ↓gInt_b, ↓gTuple_, ↓gTuple_l, ↓gTuple_a, ↓gMax_, ↓gMin_, ↓gIsBool_b, ↓gIsBool_i, seqOf_t, seqOf_l, seqOf_a, lstOf_l, lstOf_a, rsv_i, rsv_b, rsv_s, rsv_n, rsv_t, rsv_l, dle_i, dle_b, dle_n, eqD_i, eqD_b, isNon, bNm_, bTup_, bCons_, bNil_, Option.bind_some, i40, i41, i42, i43, atI0, atI1, atI2, atI3, atI4, atI5, mset_same, true_and, beq_self_eq_true, Bool.false_eq_true, c0, c1, Int.cast_ofNat_Int, Int.reduceEq, Int.reduceLT, Int.reduceLE, Int.reduceAdd, Int.reduceSub, ↓reduceIte]
      exact ⟨o, x, rfl, hw o ho, by have := hw x hx; omega, hk⟩
    · rw [show ((xs.filter fun o => decide (o ≠ x)).map fun o => D.bl (SubW o x)) = ((xs.filter fun o => decide (o ≠ x)).map fun o => SubW o x).map D.bl by rw [List.map_map]; rfl]
      try simp -dsimp only [bodyE, startD, List.map_cons, List.map_nil, List.length_cons, List.length_nil, List.replicate_succ, List.replicate_zero, List.cons_append, List.nil_append, Nat.reduceAdd, Nat.reduceSub, List.set_cons_zero, List.set_cons_succ, List.getElem?_cons_zero, List.getElem?_cons_succ, Bool.not_true, Bool.not_false, decide_true, decide_false, ↓IfS_t, ↓IfS_f, ↓IfE_t, ↓IfE_f, ↓AndT_t, ↓AndT_f, ↓OrT_t, ↓OrT_f, ↓AndV_t, ↓AndV_f, ↓OrV_t, ↓OrV_f, IfS_t, IfS_f, IfE_t, IfE_f, AndT_t, AndT_f, OrT_t, OrT_f, AndV_t, AndV_f, OrV_t, OrV_f, ↓eThen, ↓ePass, ↓eBreak, ↓eCont, ↓eExpr, ↓eRet, ↓eRetN, ↓eIfS, ↓eSet, ↓eOwn, ↓eAsg, ↓eSetIx, ↓eGSetIx, ↓eAug, ↓eIadd, ↓eIaddL, ↓eFrz, ↓eFor, ↓eWhile, ↓eNm, ↓eC, ↓eOp, ↓eB, ↓eTr, ↓eTrB, ↓eTrI, ↓eTrN, ↓eTrT, ↓eTrL, ↓eTrA, ↓eAnd, ↓eOr, ↓eNot, ↓eAndV, ↓eOrV, ↓eNotV, ↓eIf, ↓eNil, ↓eCons, ↓eTup, ↓eOfL, ↓eLstL, ↓eListL, ↓eCatL, ↓eLc, ↓eWipe0, ↓eWipe, ↓eSeq, ↓eRng1, ↓eRng2, ↓eCall, ↓eCallL, ↓eRetL, ↓eSrt, ↓eSrtU, ↓eCB, ↓eNeg, ↓eChain, ↓eAppend, ↓ePop, ↓eNo, ↓eSome, ↓eSl, ↓eAnyG, ↓eAllG, ↓eZip, ↓eZip3, ↓gIsC_, tyN_t, tyN_l, tyN_n, tyN_b, tyN_i, seqP_t, seqP_l, ↓eEn1, ↓eEn2, ↓eSeqA, ↓ePar, ↓gAnyL_, ↓gAllL_, ↓gSumL_, boolsD_map, intsD_map, ↓gSl_t, ↓gSl_l, ↓gSl_a, ↓gAdd_i, ↓gAdd_t, ↓gAdd_s, ↓gAdd_l, ↓gI0_i, ↓gI_i, ↓gMul_i, ↓gMul_t, ↓gEq_, ↓gNe_, ↓gIs_n, ↓gIs_b, ↓gIsNot_n, ↓gIsNot_b, ↓gIn_, ↓gNotIn_, ↓gIx_t, ↓gIx_l, ↓gIx_a, ↓gLen_, ↓gLen_l, ↓gLen_a, ↓gInt_, ↓gInt_b, ↓gTuple_, ↓gTuple_l, ↓gTuple_a, ↓gMax_, ↓gMin_, ↓gIsBool_b, ↓gIsBool_i, seqOf_t, seqOf_l, seqOf_a, lstOf_l, lstOf_a, rsv_i, rsv_b, rsv_s, rsv_n, rsv_t, rsv_l, dle_i, dle_b, dle_n, eqD_i, eqD_b, isNon, bNm_, bTup_, bCons_, bNil_, Option.bind_some, i40, i41, i42, i43, atI0, atI1, atI2, atI3, atI4, atI5, mset_same, true_and, beq_self_eq_true, Bool.false_eq_true, c0, c1, Int.cast_ofNat_Int, Int.reduceEq, Int.reduceLT, Int.reduceLE, Int.reduceAdd, Int.reduceSub, ↓reduceIte, boolsD_map]
      rw [any_map_id]
      have em : (!((xs.filter fun o => decide (o ≠ x)).any fun o => SubW o x)) = mini SubW xs x := rfl
      rw [em]
      have fa : (pre ++ [x]).filter (mini SubW xs) = pre.filter (mini SubW xs) ++ if mini SubW xs x = true then [x] else [] := by
        rw [List.filter_append]
        cases hm : mini SubW xs x with
        | true => rw [List.filter_cons_of_pos hm]; simp
        | false => rw [List.filter_cons_of_neg (by rw [hm]; exact Bool.false_ne_true)]; simp
      cases hm : mini SubW xs x with
      | true =>
        try simp -dsimp only [bodyE, startD, List.map_cons, List.map_nil, List.length_cons, List.length_nil, List.replicate_succ, List.replicate_zero, List.cons_append, List.nil_append, Nat.reduceAdd, Nat.reduceSub, List.set_cons_zero, List.set_cons_succ, List.getElem?_cons_zero, List.getElem?_cons_succ, Bool.not_true, Bool.not_false, decide_true, decide_false, ↓IfS_t, ↓IfS_f, ↓IfE_t, ↓IfE_f, ↓AndT_t, ↓AndT_f, ↓OrT_t, ↓OrT_f, ↓AndV_t, ↓AndV_f, ↓OrV_t, ↓OrV_f, IfS_t, IfS_f, IfE_t, IfE_f, AndT_t, AndT_f, OrT_t, OrT_f, AndV_t, AndV_f, OrV_t, OrV_f, ↓eThen, ↓ePass, ↓eBreak, ↓eCont, ↓eExpr, ↓eRet, ↓eRetN, ↓eIfS, ↓eSet, ↓eOwn, ↓eAsg, ↓eSetIx, ↓eGSetIx, ↓eAug, ↓eIadd, ↓eIaddL, ↓eFrz, ↓eFor, ↓eWhile, ↓eNm, ↓eC, ↓eOp, ↓eB, ↓eTr, ↓eTrB, ↓eTrI, ↓eTrN, ↓eTrT, ↓eTrL, ↓eTrA, ↓eAnd, ↓eOr, ↓eNot, ↓eAndV, ↓eOrV, ↓eNotV, ↓eIf, ↓eNil, ↓eCons, ↓eTup, ↓eOfL, ↓eLstL, ↓eListL, ↓eCatL, ↓eLc, ↓eWipe0, ↓eWipe, ↓eSeq, ↓eRng1, ↓eRng2, ↓eCall, ↓eCallL, ↓eRetL, ↓eSrt, ↓eSrtU, ↓eCB, ↓eNeg, ↓eChain, ↓eAppend, ↓ePop, ↓eNo, ↓eSome, ↓eSl, ↓eAnyG, ↓eAllG, ↓eZip, ↓eZip3, ↓gIsC_, tyN_t, tyN_l, tyN_n, tyN_b, tyN_i, seqP_t, seqP_l, ↓eEn1, ↓eEn2, ↓eSeqA, ↓ePar, ↓gAnyL_, ↓gAllL_, ↓gSumL_, boolsD_map, intsD_map, ↓gSl_t, ↓gSl_l, ↓gSl_a, ↓gAdd_i, ↓gAdd_t, ↓gAdd_s, ↓gAdd_l, ↓gI0_i, ↓gI_i, ↓gMul_i, ↓gMul_t, ↓gEq_, ↓gNe_, ↓gIs_n, ↓gIs_b, ↓gIsNot_n, ↓gIsNot_b, ↓gIn_, ↓gNotIn_, ↓gIx_t, ↓gIx_l, ↓gIx_a, ↓gLen_, ↓gLen_l, ↓gLen_a, ↓gInt_, ↓gInt_b, ↓gTuple_, ↓gTuple_l, ↓gTuple_a, ↓gMax_, ↓gMin_, ↓gIsBool_b, ↓gIsBool_i, seqOf_t, seqOf_l, seqOf_a, lstOf_l, lstOf_a, rsv_i, rsv_b, rsv_s, rsv_n, rsv_t, rsv_l, dle_i, dle_b, dle_n, eqD_i, eqD_b, isNon, bNm_, bTup_, bCons_, bNil_, Option.bind_some, i40, i41, i42, i43, atI0, atI1, atI2, atI3, atI4, atI5, mset_same, true_and, beq_self_eq_true, Bool.false_eq_true, c0, c1, Int.cast_ofNat_Int, Int.reduceEq, Int.reduceLT, Int.reduceLE, Int.reduceAdd, Int.reduceSub, ↓reduceIte, List.length_map]
        refine ⟨by omega, hn _ _ ⟨?_, _, rfl⟩⟩
        rw [fa, hm, mset_mset, if_pos rfl, List.map_append]; rfl
      | false =>
        try simp -dsimp only [bodyE, startD, List.map_cons, List.map_nil, List.length_cons, List.length_nil, List.replicate_succ, List.replicate_zero, List.cons_append, List.nil_append, Nat.reduceAdd, Nat.reduceSub, List.set_cons_zero, List.set_cons_succ, List.getElem?_cons_zero, List.getElem?_cons_succ, Bool.not_true, Bool.not_false, decide_true, decide_false, ↓IfS_t, ↓IfS_f, ↓IfE_t, ↓IfE_f, ↓AndT_t, ↓AndT_f, ↓OrT_t, ↓OrT_f, ↓AndV_t, ↓AndV_f, ↓OrV_t, ↓OrV_f, IfS_t, IfS_f, IfE_t, IfE_f, AndT_t, AndT_f, OrT_t, OrT_f, AndV_t, AndV_f, OrV_t, OrV_f, ↓eThen, ↓ePass, ↓eBreak, ↓eCont, ↓eExpr, ↓eRet, ↓eRetN, ↓eIfS, ↓eSet, ↓eOwn, ↓eAsg, ↓eSetIx, ↓eGSetIx, ↓eAug, ↓eIadd, ↓eIaddL, ↓eFrz, ↓eFor, ↓eWhile, ↓eNm, ↓eC, ↓eOp, ↓eB, ↓eTr, ↓eTrB, ↓eTrI, ↓eTrN, ↓eTrT, ↓eTrL, ↓eTrA, ↓eAnd, ↓eOr, ↓eNot, ↓eAndV, ↓eOrV, ↓eNotV, ↓eIf, ↓eNil, ↓eCons, ↓eTup, ↓eOfL, ↓eLstL, ↓eListL, ↓eCatL, ↓eLc, ↓eWipe0, ↓eWipe, ↓eSeq, ↓eRng1, ↓eRng2, ↓eCall, ↓eCallL, ↓eRetL, ↓eSrt, ↓eSrtU, ↓eCB, ↓eNeg, ↓eChain, ↓eAppend, ↓ePop, ↓eNo, ↓eSome, ↓eSl, ↓eAnyG, ↓eAllG, ↓eZip, ↓eZip3, ↓gIsC_, tyN_t, tyN_l, tyN_n, tyN_b, tyN_i, seqP_t, seqP_l, ↓eEn1, ↓eEn2, ↓eSeqA, ↓ePar, ↓gAnyL_, ↓gAllL_, ↓gSumL_, boolsD_map, intsD_map, ↓gSl_t, ↓gSl_l, ↓gSl_a, ↓gAdd_i, ↓gAdd_t, ↓gAdd_s, ↓gAdd_l, ↓gI0_i, ↓gI_i, ↓gMul_i, ↓gMul_t, ↓gEq_, ↓gNe_, ↓gIs_n, ↓gIs_b, ↓gIsNot_n, ↓gIsNot_b, ↓gIn_, ↓gNotIn_, ↓gIx_t, ↓gIx_l, ↓gIx_a, ↓gLen_, ↓gLen_l, ↓gLen_a, ↓gInt_, ↓gInt_b, ↓gTuple_, ↓gTuple_l, ↓gTuple_a, ↓gMax_, ↓gMin_, ↓gIsBool_b, ↓gIsBool_i, seqOf_t, seqOf_l, seqOf_a, lstOf_l, lstOf_a, rsv_i, rsv_b, rsv_s, rsv_n, rsv_t, rsv_l, dle_i, dle_b, dle_n, eqD_i, eqD_b, isNon, bNm_, bTup_, bCons_, bNil_, Option.bind_some, i40, i41, i42, i43, atI0, atI1, atI2, atI3, atI4, atI5, mset_same, true_and, beq_self_eq_true, Bool.false_eq_true, c0, c1, Int.cast_ofNat_Int, Int.reduceEq, Int.reduceLT, Int.reduceLE, Int.reduceAdd, Int.reduceSub, ↓reduceIte]
        refine hn _ _ ⟨?_, _, rfl⟩
        rw [fa, hm]; simp
  · rintro ρ M' ⟨rfl, o2, rfl⟩
    try simp -dsimp only [bodyE, startD, List.map_cons, List.map_nil, List.length_cons, List.length_nil, List.replicate_succ, List.replicate_zero, List.cons_append, List.nil_append, Nat.reduceAdd, Nat.reduceSub, List.set_cons_zero, List.set_cons_succ, List.getElem?_cons_zero, List.getElem?_cons_succ, Bool.not_true, Bool.not_false, decide_true, decide_false, ↓IfS_t, ↓IfS_f, ↓IfE_t, ↓IfE_f, ↓AndT_t, ↓AndT_f, ↓OrT_t, ↓OrT_f, ↓AndV_t, ↓AndV_f, ↓OrV_t, ↓OrV_f, IfS_t, IfS_f, IfE_t, IfE_f, AndT_t, AndT_f, OrT_t, OrT_f, AndV_t, AndV_f, OrV_t, OrV_f, ↓eThen, ↓ePass, ↓eBreak, ↓eCont, ↓eExpr, ↓eRet, ↓eRetN, ↓eIfS, ↓eSet, ↓eOwn, ↓eAsg, ↓eSetIx, ↓eGSetIx, ↓eAug, ↓eIadd, ↓eIaddL, ↓eFrz, ↓eFor, ↓eWhile, ↓eNm, ↓eC, ↓eOp, ↓eB, ↓eTr, ↓eTrB, ↓eTrI, ↓eTrN, ↓eTrT, ↓eTrL, ↓eTrA, ↓eAnd, ↓eOr, ↓eNot, ↓eAndV, ↓eOrV, ↓eNotV, ↓eIf, ↓eNil, ↓eCons, ↓eTup, ↓eOfL, ↓eLstL, ↓eListL, ↓eCatL, ↓eLc, ↓eWipe0, ↓eWipe, ↓eSeq, ↓eRng1, ↓eRng2, ↓eCall, ↓eCallL, ↓eRetL, ↓eSrt, ↓eSrtU, ↓eCB, ↓eNeg, ↓eChain, ↓eAppend, ↓ePop, ↓eNo, ↓eSome, ↓eSl, ↓eAnyG, ↓eAllG, ↓eZip, ↓eZip3, ↓gIsC_, tyN_t, tyN_l, tyN_n, tyN_b, tyN_i, seqP_t, seqP_l, ↓eEn1, ↓eEn2, ↓eSeqA, ↓ePar, ↓gAnyL_, ↓gAllL_, ↓gSumL_, boolsD_map, intsD_map, ↓gSl_t, ↓gSl_l, ↓gSl_a, ↓gAdd_i, ↓gAdd_t, ↓gAdd_s, ↓gAdd_l, ↓gI0_i, ↓gI_i, ↓gMul_i, ↓gMul_t, ↓gEq_, ↓gNe_, ↓gIs_n, ↓gIs_b, ↓gIsNot_n, ↓gIsNot_b, ↓gIn_, ↓gNotIn_, ↓gIx_t, ↓gIx_l, ↓gIx_a, ↓gLen_, ↓gLen_l, ↓gLen_a, ↓gInt_, ↓gInt_b, ↓gTuple_, ↓gTuple_l, ↓gTuple_a, ↓gMax_, ↓gMin_, ↓gIsBool_b, ↓gIsBool_i, seqOf_t, seqOf_l, seqOf_a, lstOf_l, lstOf_a, rsv_i, rsv_b, rsv_s, rsv_n, rsv_t, rsv_l, dle_i, dle_b, dle_n, eqD_i, eqD_b, isNon, bNm_, bTup_, bCons_, bNil_, Option.bind_some, i40, i41, i42, i43, atI0, atI1, atI2, atI3, atI4, atI5, mset_same, true_and, beq_self_eq_true, Bool.false_eq_true, c0, c1, Int.cast_ofNat_Int, Int.reduceEq, Int.reduceLT, Int.reduceLE, Int.reduceAdd, Int.reduceSub, ↓reduceIte]
    rw [mdel_mset hpM]
    exact q
theorem upto_len {l i : Nat} (hl : l ≤ 3) : i ≤ 6 → (upto l i).length ≤ 729 * (i + 1) := by
  induction i with
  | zero => intro _; show 1 ≤ _; omega
  | succ i ih =>
    intro hi
    have h1 := ih (by omega)
    have h2 : l ^ (i + 1) ≤ 729 := by
      have h1 : l ^ (i + 1) ≤ 3 ^ (i + 1) := Nat.pow_le_pow_left hl _
      have h2 : 3 ^ (i + 1) ≤ 3 ^ 6 := Nat.pow_le_pow_right (by decide) hi
      exact Nat.le_trans h1 h2
    unfold upto
    rw [List.length_append, lev_len]
    omega
theorem filter_mono {α : Type} {p q : α → Bool} (h : ∀ x, p x = true → q x = true) : ∀ l : List α, (l.filter p).length ≤ (l.filter q).length
  | [] => Nat.le_refl _
  | x :: l => by
    have ih := filter_mono h l
    cases hp : p x with
    | true => rw [List.filter_cons_of_pos hp, List.filter_cons_of_pos (h x hp), List.length_cons, List.length_cons]; omega
    | false =>
      rw [List.filter_cons_of_neg (by rw [hp]; exact Bool.false_ne_true)]
      refine Nat.le_trans ih ?_
      cases hq : q x with
      | true => rw [List.filter_cons_of_pos hq, List.length_cons]; omega
      | false => rw [List.filter_cons_of_neg (by rw [hq]; exact Bool.false_ne_true)]; exact Nat.le_refl _
theorem few_both {L : Nat} {u v : List Int} (hL : L < 4) (hu : u ∈ upto L 3) (hv : v ∈ upto L 3) (h3 : L = 3 → v.length ≤ 2) : ((upto L (u.length + v.length)).filter fun w => SubW u w && SubW v w).length ≤ 76 := by
  have key : ∀ (w : List Int) (n : Nat), w ∈ upto L 3 → n ≤ w.length → (L = 3 → n ≤ 2) → ((upto L (w.length + n)).filter fun x => SubW w x).length ≤ 76 := fun w n hw hn h => by
    have hl := ((mem_upto L 3 w).mp hw).1
    have q := few_words
    rw [List.all_eq_true] at q
    have q := q L (List.mem_range.mpr hL)
    rw [List.all_eq_true] at q
    have q := q w hw
    rw [List.all_eq_true] at q
    have q := q n (List.mem_range.mpr (by omega))
    simp only [Bool.or_eq_true, Bool.and_eq_true, decide_eq_true_eq] at q
    rcases q with (q | ⟨q, q2⟩) | q
    · omega
    · have := h q; omega
    · exact q
  have lu := ((mem_upto L 3 u).mp hu).1
  have lv := ((mem_upto L 3 v).mp hv).1
  by_cases h : v.length ≤ u.length
  · exact Nat.le_trans (filter_mono (fun x hx => by rw [Bool.and_eq_true] at hx; exact hx.1) _) (key u v.length hu h h3)
  · rw [Nat.add_comm]
    exact Nat.le_trans (filter_mono (fun x hx => by rw [Bool.and_eq_true] at hx; exact hx.2) _) (key v u.length hv (by omega) fun e => by have := h3 e; omega)
theorem b_law (ds : List D) (M : Mu) (Q : D → Mu → Prop) (xw : XW) (h : S_law ds M Q xw) : bodyE N_law (f_law S_ldraw S_lword S_lwords (S_lsub 50) (S_superwords 8) S_lleast_words) ds M Q xw := by
  obtain ⟨ns, rfl, post⟩ := h
  have hsz : sizeLine = 16777216 := rfl
  simp only [bodyE, bodyL, startD, N_law, List.map_cons, List.map_nil, List.length_cons, List.length_nil, List.replicate_succ, List.replicate_zero, List.cons_append, List.nil_append, Nat.reduceAdd, Nat.reduceSub]
  unfold f_law
  try simp -dsimp only [bodyE, startD, List.map_cons, List.map_nil, List.length_cons, List.length_nil, List.replicate_succ, List.replicate_zero, List.cons_append, List.nil_append, Nat.reduceAdd, Nat.reduceSub, List.set_cons_zero, List.set_cons_succ, List.getElem?_cons_zero, List.getElem?_cons_succ, Bool.not_true, Bool.not_false, decide_true, decide_false, ↓IfS_t, ↓IfS_f, ↓IfE_t, ↓IfE_f, ↓AndT_t, ↓AndT_f, ↓OrT_t, ↓OrT_f, ↓AndV_t, ↓AndV_f, ↓OrV_t, ↓OrV_f, IfS_t, IfS_f, IfE_t, IfE_f, AndT_t, AndT_f, OrT_t, OrT_f, AndV_t, AndV_f, OrV_t, OrV_f, ↓eThen, ↓ePass, ↓eBreak, ↓eCont, ↓eExpr, ↓eRet, ↓eRetN, ↓eIfS, ↓eSet, ↓eOwn, ↓eAsg, ↓eSetIx, ↓eGSetIx, ↓eAug, ↓eIadd, ↓eIaddL, ↓eFrz, ↓eFor, ↓eWhile, ↓eNm, ↓eC, ↓eOp, ↓eB, ↓eTr, ↓eTrB, ↓eTrI, ↓eTrN, ↓eTrT, ↓eTrL, ↓eTrA, ↓eAnd, ↓eOr, ↓eNot, ↓eAndV, ↓eOrV, ↓eNotV, ↓eIf, ↓eNil, ↓eCons, ↓eTup, ↓eOfL, ↓eLstL, ↓eListL, ↓eCatL, ↓eLc, ↓eWipe0, ↓eWipe, ↓eSeq, ↓eRng1, ↓eRng2, ↓eCall, ↓eCallL, ↓eRetL, ↓eSrt, ↓eSrtU, ↓eCB, ↓eNeg, ↓eChain, ↓eAppend, ↓ePop, ↓eNo, ↓eSome, ↓eSl, ↓eAnyG, ↓eAllG, ↓eZip, ↓eZip3, ↓gIsC_, tyN_t, tyN_l, tyN_n, tyN_b, tyN_i, seqP_t, seqP_l, ↓eEn1, ↓eEn2, ↓eSeqA, ↓ePar, ↓gAnyL_, ↓gAllL_, ↓gSumL_, boolsD_map, intsD_map, ↓gSl_t, ↓gSl_l, ↓gSl_a, ↓gAdd_i, ↓gAdd_t, ↓gAdd_s, ↓gAdd_l, ↓gI0_i, ↓gI_i, ↓gMul_i, ↓gMul_t, ↓gEq_, ↓gNe_, ↓gIs_n, ↓gIs_b, ↓gIsNot_n, ↓gIsNot_b, ↓gIn_, ↓gNotIn_, ↓gIx_t, ↓gIx_l, ↓gIx_a, ↓gLen_, ↓gLen_l, ↓gLen_a, ↓gInt_, ↓gInt_b, ↓gTuple_, ↓gTuple_l, ↓gTuple_a, ↓gMax_, ↓gMin_, ↓gIsBool_b, ↓gIsBool_i, seqOf_t, seqOf_l, seqOf_a, lstOf_l, lstOf_a, rsv_i, rsv_b, rsv_s, rsv_n, rsv_t, rsv_l, dle_i, dle_b, dle_n, eqD_i, eqD_b, isNon, bNm_, bTup_, bCons_, bNil_, Option.bind_some, i40, i41, i42, i43, atI0, atI1, atI2, atI3, atI4, atI5, mset_same, true_and, beq_self_eq_true, Bool.false_eq_true, c0, c1, Int.cast_ofNat_Int, Int.reduceEq, Int.reduceLT, Int.reduceLE, Int.reduceAdd, Int.reduceSub, ↓reduceIte]
  refine ⟨by decide, fun p hp _ => ?_⟩
  have st : IsSt (mset M p (.lst [.int 0, .int 0, .lst (ns.map .int), .int 1])) p := ⟨0, 0, 1, _, mset_same, by decide, fun d hd => by
    obtain ⟨i, _, rfl⟩ := List.mem_map.mp hd
    exact ⟨i, rfl⟩⟩
  refine draw_call st (by decide) (by decide) fun M1 z z0 z1 s1 => ?_
  try simp -dsimp only [bodyE, startD, List.map_cons, List.map_nil, List.length_cons, List.length_nil, List.replicate_succ, List.replicate_zero, List.cons_append, List.nil_append, Nat.reduceAdd, Nat.reduceSub, List.set_cons_zero, List.set_cons_succ, List.getElem?_cons_zero, List.getElem?_cons_succ, Bool.not_true, Bool.not_false, decide_true, decide_false, ↓IfS_t, ↓IfS_f, ↓IfE_t, ↓IfE_f, ↓AndT_t, ↓AndT_f, ↓OrT_t, ↓OrT_f, ↓AndV_t, ↓AndV_f, ↓OrV_t, ↓OrV_f, IfS_t, IfS_f, IfE_t, IfE_f, AndT_t, AndT_f, OrT_t, OrT_f, AndV_t, AndV_f, OrV_t, OrV_f, ↓eThen, ↓ePass, ↓eBreak, ↓eCont, ↓eExpr, ↓eRet, ↓eRetN, ↓eIfS, ↓eSet, ↓eOwn, ↓eAsg, ↓eSetIx, ↓eGSetIx, ↓eAug, ↓eIadd, ↓eIaddL, ↓eFrz, ↓eFor, ↓eWhile, ↓eNm, ↓eC, ↓eOp, ↓eB, ↓eTr, ↓eTrB, ↓eTrI, ↓eTrN, ↓eTrT, ↓eTrL, ↓eTrA, ↓eAnd, ↓eOr, ↓eNot, ↓eAndV, ↓eOrV, ↓eNotV, ↓eIf, ↓eNil, ↓eCons, ↓eTup, ↓eOfL, ↓eLstL, ↓eListL, ↓eCatL, ↓eLc, ↓eWipe0, ↓eWipe, ↓eSeq, ↓eRng1, ↓eRng2, ↓eCall, ↓eCallL, ↓eRetL, ↓eSrt, ↓eSrtU, ↓eCB, ↓eNeg, ↓eChain, ↓eAppend, ↓ePop, ↓eNo, ↓eSome, ↓eSl, ↓eAnyG, ↓eAllG, ↓eZip, ↓eZip3, ↓gIsC_, tyN_t, tyN_l, tyN_n, tyN_b, tyN_i, seqP_t, seqP_l, ↓eEn1, ↓eEn2, ↓eSeqA, ↓ePar, ↓gAnyL_, ↓gAllL_, ↓gSumL_, boolsD_map, intsD_map, ↓gSl_t, ↓gSl_l, ↓gSl_a, ↓gAdd_i, ↓gAdd_t, ↓gAdd_s, ↓gAdd_l, ↓gI0_i, ↓gI_i, ↓gMul_i, ↓gMul_t, ↓gEq_, ↓gNe_, ↓gIs_n, ↓gIs_b, ↓gIsNot_n, ↓gIsNot_b, ↓gIn_, ↓gNotIn_, ↓gIx_t, ↓gIx_l, ↓gIx_a, ↓gLen_, ↓gLen_l, ↓gLen_a, ↓gInt_, ↓gInt_b, ↓gTuple_, ↓gTuple_l, ↓gTuple_a, ↓gMax_, ↓gMin_, ↓gIsBool_b, ↓gIsBool_i, seqOf_t, seqOf_l, seqOf_a, lstOf_l, lstOf_a, rsv_i, rsv_b, rsv_s, rsv_n, rsv_t, rsv_l, dle_i, dle_b, dle_n, eqD_i, eqD_b, isNon, bNm_, bTup_, bCons_, bNil_, Option.bind_some, i40, i41, i42, i43, atI0, atI1, atI2, atI3, atI4, atI5, mset_same, true_and, beq_self_eq_true, Bool.false_eq_true, c0, c1, Int.cast_ofNat_Int, Int.reduceEq, Int.reduceLT, Int.reduceLE, Int.reduceAdd, Int.reduceSub, ↓reduceIte]
  refine word_call s1.2 (by omega) (by omega) (by decide) (by decide) fun M2 one h1 o1 s2 => ?_
  try simp -dsimp only [bodyE, startD, List.map_cons, List.map_nil, List.length_cons, List.length_nil, List.replicate_succ, List.replicate_zero, List.cons_append, List.nil_append, Nat.reduceAdd, Nat.reduceSub, List.set_cons_zero, List.set_cons_succ, List.getElem?_cons_zero, List.getElem?_cons_succ, Bool.not_true, Bool.not_false, decide_true, decide_false, ↓IfS_t, ↓IfS_f, ↓IfE_t, ↓IfE_f, ↓AndT_t, ↓AndT_f, ↓OrT_t, ↓OrT_f, ↓AndV_t, ↓AndV_f, ↓OrV_t, ↓OrV_f, IfS_t, IfS_f, IfE_t, IfE_f, AndT_t, AndT_f, OrT_t, OrT_f, AndV_t, AndV_f, OrV_t, OrV_f, ↓eThen, ↓ePass, ↓eBreak, ↓eCont, ↓eExpr, ↓eRet, ↓eRetN, ↓eIfS, ↓eSet, ↓eOwn, ↓eAsg, ↓eSetIx, ↓eGSetIx, ↓eAug, ↓eIadd, ↓eIaddL, ↓eFrz, ↓eFor, ↓eWhile, ↓eNm, ↓eC, ↓eOp, ↓eB, ↓eTr, ↓eTrB, ↓eTrI, ↓eTrN, ↓eTrT, ↓eTrL, ↓eTrA, ↓eAnd, ↓eOr, ↓eNot, ↓eAndV, ↓eOrV, ↓eNotV, ↓eIf, ↓eNil, ↓eCons, ↓eTup, ↓eOfL, ↓eLstL, ↓eListL, ↓eCatL, ↓eLc, ↓eWipe0, ↓eWipe, ↓eSeq, ↓eRng1, ↓eRng2, ↓eCall, ↓eCallL, ↓eRetL, ↓eSrt, ↓eSrtU, ↓eCB, ↓eNeg, ↓eChain, ↓eAppend, ↓ePop, ↓eNo, ↓eSome, ↓eSl, ↓eAnyG, ↓eAllG, ↓eZip, ↓eZip3, ↓gIsC_, tyN_t, tyN_l, tyN_n, tyN_b, tyN_i, seqP_t, seqP_l, ↓eEn1, ↓eEn2, ↓eSeqA, ↓ePar, ↓gAnyL_, ↓gAllL_, ↓gSumL_, boolsD_map, intsD_map, ↓gSl_t, ↓gSl_l, ↓gSl_a, ↓gAdd_i, ↓gAdd_t, ↓gAdd_s, ↓gAdd_l, ↓gI0_i, ↓gI_i, ↓gMul_i, ↓gMul_t, ↓gEq_, ↓gNe_, ↓gIs_n, ↓gIs_b, ↓gIsNot_n, ↓gIsNot_b, ↓gIn_, ↓gNotIn_, ↓gIx_t, ↓gIx_l, ↓gIx_a, ↓gLen_, ↓gLen_l, ↓gLen_a, ↓gInt_, ↓gInt_b, ↓gTuple_, ↓gTuple_l, ↓gTuple_a, ↓gMax_, ↓gMin_, ↓gIsBool_b, ↓gIsBool_i, seqOf_t, seqOf_l, seqOf_a, lstOf_l, lstOf_a, rsv_i, rsv_b, rsv_s, rsv_n, rsv_t, rsv_l, dle_i, dle_b, dle_n, eqD_i, eqD_b, isNon, bNm_, bTup_, bCons_, bNil_, Option.bind_some, i40, i41, i42, i43, atI0, atI1, atI2, atI3, atI4, atI5, mset_same, true_and, beq_self_eq_true, Bool.false_eq_true, c0, c1, Int.cast_ofNat_Int, Int.reduceEq, Int.reduceLT, Int.reduceLE, Int.reduceAdd, Int.reduceSub, ↓reduceIte]
  refine word_call s2.2 (by omega) (by omega) (by decide) (by decide) fun M3 two0 h2 o2 s3 => ?_
  try simp -dsimp only [bodyE, startD, List.map_cons, List.map_nil, List.length_cons, List.length_nil, List.replicate_succ, List.replicate_zero, List.cons_append, List.nil_append, Nat.reduceAdd, Nat.reduceSub, List.set_cons_zero, List.set_cons_succ, List.getElem?_cons_zero, List.getElem?_cons_succ, Bool.not_true, Bool.not_false, decide_true, decide_false, ↓IfS_t, ↓IfS_f, ↓IfE_t, ↓IfE_f, ↓AndT_t, ↓AndT_f, ↓OrT_t, ↓OrT_f, ↓AndV_t, ↓AndV_f, ↓OrV_t, ↓OrV_f, IfS_t, IfS_f, IfE_t, IfE_f, AndT_t, AndT_f, OrT_t, OrT_f, AndV_t, AndV_f, OrV_t, OrV_f, ↓eThen, ↓ePass, ↓eBreak, ↓eCont, ↓eExpr, ↓eRet, ↓eRetN, ↓eIfS, ↓eSet, ↓eOwn, ↓eAsg, ↓eSetIx, ↓eGSetIx, ↓eAug, ↓eIadd, ↓eIaddL, ↓eFrz, ↓eFor, ↓eWhile, ↓eNm, ↓eC, ↓eOp, ↓eB, ↓eTr, ↓eTrB, ↓eTrI, ↓eTrN, ↓eTrT, ↓eTrL, ↓eTrA, ↓eAnd, ↓eOr, ↓eNot, ↓eAndV, ↓eOrV, ↓eNotV, ↓eIf, ↓eNil, ↓eCons, ↓eTup, ↓eOfL, ↓eLstL, ↓eListL, ↓eCatL, ↓eLc, ↓eWipe0, ↓eWipe, ↓eSeq, ↓eRng1, ↓eRng2, ↓eCall, ↓eCallL, ↓eRetL, ↓eSrt, ↓eSrtU, ↓eCB, ↓eNeg, ↓eChain, ↓eAppend, ↓ePop, ↓eNo, ↓eSome, ↓eSl, ↓eAnyG, ↓eAllG, ↓eZip, ↓eZip3, ↓gIsC_, tyN_t, tyN_l, tyN_n, tyN_b, tyN_i, seqP_t, seqP_l, ↓eEn1, ↓eEn2, ↓eSeqA, ↓ePar, ↓gAnyL_, ↓gAllL_, ↓gSumL_, boolsD_map, intsD_map, ↓gSl_t, ↓gSl_l, ↓gSl_a, ↓gAdd_i, ↓gAdd_t, ↓gAdd_s, ↓gAdd_l, ↓gI0_i, ↓gI_i, ↓gMul_i, ↓gMul_t, ↓gEq_, ↓gNe_, ↓gIs_n, ↓gIs_b, ↓gIsNot_n, ↓gIsNot_b, ↓gIn_, ↓gNotIn_, ↓gIx_t, ↓gIx_l, ↓gIx_a, ↓gLen_, ↓gLen_l, ↓gLen_a, ↓gInt_, ↓gInt_b, ↓gTuple_, ↓gTuple_l, ↓gTuple_a, ↓gMax_, ↓gMin_, ↓gIsBool_b, ↓gIsBool_i, seqOf_t, seqOf_l, seqOf_a, lstOf_l, lstOf_a, rsv_i, rsv_b, rsv_s, rsv_n, rsv_t, rsv_l, dle_i, dle_b, dle_n, eqD_i, eqD_b, isNon, bNm_, bTup_, bCons_, bNil_, Option.bind_some, i40, i41, i42, i43, atI0, atI1, atI2, atI3, atI4, atI5, mset_same, true_and, beq_self_eq_true, Bool.false_eq_true, c0, c1, Int.cast_ofNat_Int, Int.reduceEq, Int.reduceLT, Int.reduceLE, Int.reduceAdd, Int.reduceSub, ↓reduceIte]
  refine ifCut (fun ρ M' => ∃ two : List Int, two.length ≤ 3 ∧ (z = 2 → two.length ≤ 2) ∧ okW (1 + z) two ∧ ρ = [some (.lst (ns.map .int)), some (.loc p), some (.int (1 + z)), some (wD one), some (wD two), none, none, none]) (fun nx hnx => ?_) ?_
  · refine IfS_mk (fun h => ?_) fun h => ?_
    · unfold wD
      try simp -dsimp only [bodyE, startD, List.map_cons, List.map_nil, List.length_cons, List.length_nil, List.replicate_succ, List.replicate_zero, List.cons_append, List.nil_append, Nat.reduceAdd, Nat.reduceSub, List.set_cons_zero, List.set_cons_succ, List.getElem?_cons_zero, List.getElem?_cons_succ, Bool.not_true, Bool.not_false, decide_true, decide_false, ↓IfS_t, ↓IfS_f, ↓IfE_t, ↓IfE_f, ↓AndT_t, ↓AndT_f, ↓OrT_t, ↓OrT_f, ↓AndV_t, ↓AndV_f, ↓OrV_t, ↓OrV_f, IfS_t, IfS_f, IfE_t, IfE_f, AndT_t, AndT_f, OrT_t, OrT_f, AndV_t, AndV_f, OrV_t, OrV_f, ↓eThen, ↓ePass, ↓eBreak, ↓eCont, ↓eExpr, ↓eRet, ↓eRetN, ↓eIfS, ↓eSet, ↓eOwn, ↓eAsg, ↓eSetIx, ↓eGSetIx, ↓eAug, ↓eIadd, ↓eIaddL, ↓eFrz, ↓eFor, ↓eWhile, ↓eNm, ↓eC, ↓eOp, ↓eB, ↓eTr, ↓eTrB, ↓eTrI, ↓eTrN, ↓eTrT, ↓eTrL, ↓eTrA, ↓eAnd, ↓eOr, ↓eNot, ↓eAndV, ↓eOrV, ↓eNotV, ↓eIf, ↓eNil, ↓eCons, ↓eTup, ↓eOfL, ↓eLstL, ↓eListL, ↓eCatL, ↓eLc, ↓eWipe0, ↓eWipe, ↓eSeq, ↓eRng1, ↓eRng2, ↓eCall, ↓eCallL, ↓eRetL, ↓eSrt, ↓eSrtU, ↓eCB, ↓eNeg, ↓eChain, ↓eAppend, ↓ePop, ↓eNo, ↓eSome, ↓eSl, ↓eAnyG, ↓eAllG, ↓eZip, ↓eZip3, ↓gIsC_, tyN_t, tyN_l, tyN_n, tyN_b, tyN_i, seqP_t, seqP_l, ↓eEn1, ↓eEn2, ↓eSeqA, ↓ePar, ↓gAnyL_, ↓gAllL_, ↓gSumL_, boolsD_map, intsD_map, ↓gSl_t, ↓gSl_l, ↓gSl_a, ↓gAdd_i, ↓gAdd_t, ↓gAdd_s, ↓gAdd_l, ↓gI0_i, ↓gI_i, ↓gMul_i, ↓gMul_t, ↓gEq_, ↓gNe_, ↓gIs_n, ↓gIs_b, ↓gIsNot_n, ↓gIsNot_b, ↓gIn_, ↓gNotIn_, ↓gIx_t, ↓gIx_l, ↓gIx_a, ↓gLen_, ↓gLen_l, ↓gLen_a, ↓gInt_, ↓gInt_b, ↓gTuple_, ↓gTuple_l, ↓gTuple_a, ↓gMax_, ↓gMin_, ↓gIsBool_b, ↓gIsBool_i, seqOf_t, seqOf_l, seqOf_a, lstOf_l, lstOf_a, rsv_i, rsv_b, rsv_s, rsv_n, rsv_t, rsv_l, dle_i, dle_b, dle_n, eqD_i, eqD_b, isNon, bNm_, bTup_, bCons_, bNil_, Option.bind_some, i40, i41, i42, i43, atI0, atI1, atI2, atI3, atI4, atI5, mset_same, true_and, beq_self_eq_true, Bool.false_eq_true, c0, c1, Int.cast_ofNat_Int, Int.reduceEq, Int.reduceLT, Int.reduceLE, Int.reduceAdd, Int.reduceSub, ↓reduceIte]
      rw [cut_to (by decide), ← List.map_take]
      exact hnx _ _ ⟨two0.take 2, by rw [List.length_take]; omega, fun _ => by rw [List.length_take]; exact Nat.min_le_left _ _, fun x hx => o2 x (List.mem_of_mem_take hx), rfl⟩
    · have hz := of_decide_eq_false h
      try simp -dsimp only [bodyE, startD, List.map_cons, List.map_nil, List.length_cons, List.length_nil, List.replicate_succ, List.replicate_zero, List.cons_append, List.nil_append, Nat.reduceAdd, Nat.reduceSub, List.set_cons_zero, List.set_cons_succ, List.getElem?_cons_zero, List.getElem?_cons_succ, Bool.not_true, Bool.not_false, decide_true, decide_false, ↓IfS_t, ↓IfS_f, ↓IfE_t, ↓IfE_f, ↓AndT_t, ↓AndT_f, ↓OrT_t, ↓OrT_f, ↓AndV_t, ↓AndV_f, ↓OrV_t, ↓OrV_f, IfS_t, IfS_f, IfE_t, IfE_f, AndT_t, AndT_f, OrT_t, OrT_f, AndV_t, AndV_f, OrV_t, OrV_f, ↓eThen, ↓ePass, ↓eBreak, ↓eCont, ↓eExpr, ↓eRet, ↓eRetN, ↓eIfS, ↓eSet, ↓eOwn, ↓eAsg, ↓eSetIx, ↓eGSetIx, ↓eAug, ↓eIadd, ↓eIaddL, ↓eFrz, ↓eFor, ↓eWhile, ↓eNm, ↓eC, ↓eOp, ↓eB, ↓eTr, ↓eTrB, ↓eTrI, ↓eTrN, ↓eTrT, ↓eTrL, ↓eTrA, ↓eAnd, ↓eOr, ↓eNot, ↓eAndV, ↓eOrV, ↓eNotV, ↓eIf, ↓eNil, ↓eCons, ↓eTup, ↓eOfL, ↓eLstL, ↓eListL, ↓eCatL, ↓eLc, ↓eWipe0, ↓eWipe, ↓eSeq, ↓eRng1, ↓eRng2, ↓eCall, ↓eCallL, ↓eRetL, ↓eSrt, ↓eSrtU, ↓eCB, ↓eNeg, ↓eChain, ↓eAppend, ↓ePop, ↓eNo, ↓eSome, ↓eSl, ↓eAnyG, ↓eAllG, ↓eZip, ↓eZip3, ↓gIsC_, tyN_t, tyN_l, tyN_n, tyN_b, tyN_i, seqP_t, seqP_l, ↓eEn1, ↓eEn2, ↓eSeqA, ↓ePar, ↓gAnyL_, ↓gAllL_, ↓gSumL_, boolsD_map, intsD_map, ↓gSl_t, ↓gSl_l, ↓gSl_a, ↓gAdd_i, ↓gAdd_t, ↓gAdd_s, ↓gAdd_l, ↓gI0_i, ↓gI_i, ↓gMul_i, ↓gMul_t, ↓gEq_, ↓gNe_, ↓gIs_n, ↓gIs_b, ↓gIsNot_n, ↓gIsNot_b, ↓gIn_, ↓gNotIn_, ↓gIx_t, ↓gIx_l, ↓gIx_a, ↓gLen_, ↓gLen_l, ↓gLen_a, ↓gInt_, ↓gInt_b, ↓gTuple_, ↓gTuple_l, ↓gTuple_a, ↓gMax_, ↓gMin_, ↓gIsBool_b, ↓gIsBool_i, seqOf_t, seqOf_l, seqOf_a, lstOf_l, lstOf_a, rsv_i, rsv_b, rsv_s, rsv_n, rsv_t, rsv_l, dle_i, dle_b, dle_n, eqD_i, eqD_b, isNon, bNm_, bTup_, bCons_, bNil_, Option.bind_some, i40, i41, i42, i43, atI0, atI1, atI2, atI3, atI4, atI5, mset_same, true_and, beq_self_eq_true, Bool.false_eq_true, c0, c1, Int.cast_ofNat_Int, Int.reduceEq, Int.reduceLT, Int.reduceLE, Int.reduceAdd, Int.reduceSub, ↓reduceIte]
      exact hnx _ _ ⟨two0, by omega, fun e => by omega, o2, rfl⟩
  · rintro ρ M' ⟨two, t1, t2, o3, rfl⟩
    obtain ⟨l, rfl⟩ : ∃ l : Nat, z = (l : Int) := ⟨z.toNat, by omega⟩
    have hz : l < 3 := by omega
    have el : (1 + (l : Int)) = ((l + 1 : Nat) : Int) := by omega
    have hone : one ∈ upto (l + 1) 3 := (mem_upto _ _ _).mpr ⟨by omega, fun x hx => by have := o1 x hx; omega⟩
    have htwo : two ∈ upto (l + 1) 3 := (mem_upto _ _ _).mpr ⟨by omega, fun x hx => by have := o3 x hx; omega⟩
    have n1 : one.length ≤ 3 := by omega
    unfold wD
    try simp -dsimp only [bodyE, startD, List.map_cons, List.map_nil, List.length_cons, List.length_nil, List.replicate_succ, List.replicate_zero, List.cons_append, List.nil_append, Nat.reduceAdd, Nat.reduceSub, List.set_cons_zero, List.set_cons_succ, List.getElem?_cons_zero, List.getElem?_cons_succ, Bool.not_true, Bool.not_false, decide_true, decide_false, ↓IfS_t, ↓IfS_f, ↓IfE_t, ↓IfE_f, ↓AndT_t, ↓AndT_f, ↓OrT_t, ↓OrT_f, ↓AndV_t, ↓AndV_f, ↓OrV_t, ↓OrV_f, IfS_t, IfS_f, IfE_t, IfE_f, AndT_t, AndT_f, OrT_t, OrT_f, AndV_t, AndV_f, OrV_t, OrV_f, ↓eThen, ↓ePass, ↓eBreak, ↓eCont, ↓eExpr, ↓eRet, ↓eRetN, ↓eIfS, ↓eSet, ↓eOwn, ↓eAsg, ↓eSetIx, ↓eGSetIx, ↓eAug, ↓eIadd, ↓eIaddL, ↓eFrz, ↓eFor, ↓eWhile, ↓eNm, ↓eC, ↓eOp, ↓eB, ↓eTr, ↓eTrB, ↓eTrI, ↓eTrN, ↓eTrT, ↓eTrL, ↓eTrA, ↓eAnd, ↓eOr, ↓eNot, ↓eAndV, ↓eOrV, ↓eNotV, ↓eIf, ↓eNil, ↓eCons, ↓eTup, ↓eOfL, ↓eLstL, ↓eListL, ↓eCatL, ↓eLc, ↓eWipe0, ↓eWipe, ↓eSeq, ↓eRng1, ↓eRng2, ↓eCall, ↓eCallL, ↓eRetL, ↓eSrt, ↓eSrtU, ↓eCB, ↓eNeg, ↓eChain, ↓eAppend, ↓ePop, ↓eNo, ↓eSome, ↓eSl, ↓eAnyG, ↓eAllG, ↓eZip, ↓eZip3, ↓gIsC_, tyN_t, tyN_l, tyN_n, tyN_b, tyN_i, seqP_t, seqP_l, ↓eEn1, ↓eEn2, ↓eSeqA, ↓ePar, ↓gAnyL_, ↓gAllL_, ↓gSumL_, boolsD_map, intsD_map, ↓gSl_t, ↓gSl_l, ↓gSl_a, ↓gAdd_i, ↓gAdd_t, ↓gAdd_s, ↓gAdd_l, ↓gI0_i, ↓gI_i, ↓gMul_i, ↓gMul_t, ↓gEq_, ↓gNe_, ↓gIs_n, ↓gIs_b, ↓gIsNot_n, ↓gIsNot_b, ↓gIn_, ↓gNotIn_, ↓gIx_t, ↓gIx_l, ↓gIx_a, ↓gLen_, ↓gLen_l, ↓gLen_a, ↓gInt_, ↓gInt_b, ↓gTuple_, ↓gTuple_l, ↓gTuple_a, ↓gMax_, ↓gMin_, ↓gIsBool_b, ↓gIsBool_i, seqOf_t, seqOf_l, seqOf_a, lstOf_l, lstOf_a, rsv_i, rsv_b, rsv_s, rsv_n, rsv_t, rsv_l, dle_i, dle_b, dle_n, eqD_i, eqD_b, isNon, bNm_, bTup_, bCons_, bNil_, Option.bind_some, i40, i41, i42, i43, atI0, atI1, atI2, atI3, atI4, atI5, mset_same, true_and, beq_self_eq_true, Bool.false_eq_true, c0, c1, Int.cast_ofNat_Int, Int.reduceEq, Int.reduceLT, Int.reduceLE, Int.reduceAdd, Int.reduceSub, ↓reduceIte, List.length_map]
    rw [el]
    have es : ((one.length : Nat) : Int) + ((two.length : Nat) : Int) = ((one.length + two.length : Nat) : Int) := by omega
    rw [es]
    refine ⟨l + 1, one.length + two.length, rfl, by omega, by omega, ?_⟩
    have sl : ∀ (w : List Int), D.tup (w.map D.int) = wD w := fun _ => rfl
    try simp -dsimp only [bodyE, startD, List.map_cons, List.map_nil, List.length_cons, List.length_nil, List.replicate_succ, List.replicate_zero, List.cons_append, List.nil_append, Nat.reduceAdd, Nat.reduceSub, List.set_cons_zero, List.set_cons_succ, List.getElem?_cons_zero, List.getElem?_cons_succ, Bool.not_true, Bool.not_false, decide_true, decide_false, ↓IfS_t, ↓IfS_f, ↓IfE_t, ↓IfE_f, ↓AndT_t, ↓AndT_f, ↓OrT_t, ↓OrT_f, ↓AndV_t, ↓AndV_f, ↓OrV_t, ↓OrV_f, IfS_t, IfS_f, IfE_t, IfE_f, AndT_t, AndT_f, OrT_t, OrT_f, AndV_t, AndV_f, OrV_t, OrV_f, ↓eThen, ↓ePass, ↓eBreak, ↓eCont, ↓eExpr, ↓eRet, ↓eRetN, ↓eIfS, ↓eSet, ↓eOwn, ↓eAsg, ↓eSetIx, ↓eGSetIx, ↓eAug, ↓eIadd, ↓eIaddL, ↓eFrz, ↓eFor, ↓eWhile, ↓eNm, ↓eC, ↓eOp, ↓eB, ↓eTr, ↓eTrB, ↓eTrI, ↓eTrN, ↓eTrT, ↓eTrL, ↓eTrA, ↓eAnd, ↓eOr, ↓eNot, ↓eAndV, ↓eOrV, ↓eNotV, ↓eIf, ↓eNil, ↓eCons, ↓eTup, ↓eOfL, ↓eLstL, ↓eListL, ↓eCatL, ↓eLc, ↓eWipe0, ↓eWipe, ↓eSeq, ↓eRng1, ↓eRng2, ↓eCall, ↓eCallL, ↓eRetL, ↓eSrt, ↓eSrtU, ↓eCB, ↓eNeg, ↓eChain, ↓eAppend, ↓ePop, ↓eNo, ↓eSome, ↓eSl, ↓eAnyG, ↓eAllG, ↓eZip, ↓eZip3, ↓gIsC_, tyN_t, tyN_l, tyN_n, tyN_b, tyN_i, seqP_t, seqP_l, ↓eEn1, ↓eEn2, ↓eSeqA, ↓ePar, ↓gAnyL_, ↓gAllL_, ↓gSumL_, boolsD_map, intsD_map, ↓gSl_t, ↓gSl_l, ↓gSl_a, ↓gAdd_i, ↓gAdd_t, ↓gAdd_s, ↓gAdd_l, ↓gI0_i, ↓gI_i, ↓gMul_i, ↓gMul_t, ↓gEq_, ↓gNe_, ↓gIs_n, ↓gIs_b, ↓gIsNot_n, ↓gIsNot_b, ↓gIn_, ↓gNotIn_, ↓gIx_t, ↓gIx_l, ↓gIx_a, ↓gLen_, ↓gLen_l, ↓gLen_a, ↓gInt_, ↓gInt_b, ↓gTuple_, ↓gTuple_l, ↓gTuple_a, ↓gMax_, ↓gMin_, ↓gIsBool_b, ↓gIsBool_i, seqOf_t, seqOf_l, seqOf_a, lstOf_l, lstOf_a, rsv_i, rsv_b, rsv_s, rsv_n, rsv_t, rsv_l, dle_i, dle_b, dle_n, eqD_i, eqD_b, isNon, bNm_, bTup_, bCons_, bNil_, Option.bind_some, i40, i41, i42, i43, atI0, atI1, atI2, atI3, atI4, atI5, mset_same, true_and, beq_self_eq_true, Bool.false_eq_true, c0, c1, Int.cast_ofNat_Int, Int.reduceEq, Int.reduceLT, Int.reduceLE, Int.reduceAdd, Int.reduceSub, ↓reduceIte, sl]
    have ul := upto_len (l := l + 1) (i := one.length + two.length) (by omega) (by omega)
    have lens : ∀ w ∈ upto (l + 1) (one.length + two.length), w.length ≤ 6 := fun w hw => by have := ((mem_upto _ _ w).mp hw).1; omega
    refine lc_filt (fun w => SubW one w && SubW two w) wD (by omega) (fun w hw k hk => ?_) (fun w hw _ k hk => ?_) ?_
    · have := lens w hw
      try simp -dsimp only [bodyE, startD, List.map_cons, List.map_nil, List.length_cons, List.length_nil, List.replicate_succ, List.replicate_zero, List.cons_append, List.nil_append, Nat.reduceAdd, Nat.reduceSub, List.set_cons_zero, List.set_cons_succ, List.getElem?_cons_zero, List.getElem?_cons_succ, Bool.not_true, Bool.not_false, decide_true, decide_false, ↓IfS_t, ↓IfS_f, ↓IfE_t, ↓IfE_f, ↓AndT_t, ↓AndT_f, ↓OrT_t, ↓OrT_f, ↓AndV_t, ↓AndV_f, ↓OrV_t, ↓OrV_f, IfS_t, IfS_f, IfE_t, IfE_f, AndT_t, AndT_f, OrT_t, OrT_f, AndV_t, AndV_f, OrV_t, OrV_f, ↓eThen, ↓ePass, ↓eBreak, ↓eCont, ↓eExpr, ↓eRet, ↓eRetN, ↓eIfS, ↓eSet, ↓eOwn, ↓eAsg, ↓eSetIx, ↓eGSetIx, ↓eAug, ↓eIadd, ↓eIaddL, ↓eFrz, ↓eFor, ↓eWhile, ↓eNm, ↓eC, ↓eOp, ↓eB, ↓eTr, ↓eTrB, ↓eTrI, ↓eTrN, ↓eTrT, ↓eTrL, ↓eTrA, ↓eAnd, ↓eOr, ↓eNot, ↓eAndV, ↓eOrV, ↓eNotV, ↓eIf, ↓eNil, ↓eCons, ↓eTup, ↓eOfL, ↓eLstL, ↓eListL, ↓eCatL, ↓eLc, ↓eWipe0, ↓eWipe, ↓eSeq, ↓eRng1, ↓eRng2, ↓eCall, ↓eCallL, ↓eRetL, ↓eSrt, ↓eSrtU, ↓eCB, ↓eNeg, ↓eChain, ↓eAppend, ↓ePop, ↓eNo, ↓eSome, ↓eSl, ↓eAnyG, ↓eAllG, ↓eZip, ↓eZip3, ↓gIsC_, tyN_t, tyN_l, tyN_n, tyN_b, tyN_i, seqP_t, seqP_l, ↓eEn1, ↓eEn2, ↓eSeqA, ↓ePar, ↓gAnyL_, ↓gAllL_, ↓gSumL_, boolsD_map, intsD_map, ↓gSl_t, ↓gSl_l, ↓gSl_a, ↓gAdd_i, ↓gAdd_t, ↓gAdd_s, ↓gAdd_l, ↓gI0_i, ↓gI_i, ↓gMul_i, ↓gMul_t, ↓gEq_, ↓gNe_, ↓gIs_n, ↓gIs_b, ↓gIsNot_n, ↓gIsNot_b, ↓gIn_, ↓gNotIn_, ↓gIx_t, ↓gIx_l, ↓gIx_a, ↓gLen_, ↓gLen_l, ↓gLen_a, ↓gInt_, ↓gInt_b, ↓gTuple_, ↓gTuple_l, ↓gTuple_a, ↓gMax_, ↓gMin_, ↓gIsBool_b, ↓gIsBool_i, seqOf_t, seqOf_l, seqOf_a, lstOf_l, lstOf_a, rsv_i, rsv_b, rsv_s, rsv_n, rsv_t, rsv_l, dle_i, dle_b, dle_n, eqD_i, eqD_b, isNon, bNm_, bTup_, bCons_, bNil_, Option.bind_some, i40, i41, i42, i43, atI0, atI1, atI2, atI3, atI4, atI5, mset_same, true_and, beq_self_eq_true, Bool.false_eq_true, c0, c1, Int.cast_ofNat_Int, Int.reduceEq, Int.reduceLT, Int.reduceLE, Int.reduceAdd, Int.reduceSub, ↓reduceIte]
      refine ⟨one, w, rfl, by omega, by omega, ?_⟩
      cases hs : SubW one w with
      | true =>
        try simp -dsimp only [bodyE, startD, List.map_cons, List.map_nil, List.length_cons, List.length_nil, List.replicate_succ, List.replicate_zero, List.cons_append, List.nil_append, Nat.reduceAdd, Nat.reduceSub, List.set_cons_zero, List.set_cons_succ, List.getElem?_cons_zero, List.getElem?_cons_succ, Bool.not_true, Bool.not_false, decide_true, decide_false, ↓IfS_t, ↓IfS_f, ↓IfE_t, ↓IfE_f, ↓AndT_t, ↓AndT_f, ↓OrT_t, ↓OrT_f, ↓AndV_t, ↓AndV_f, ↓OrV_t, ↓OrV_f, IfS_t, IfS_f, IfE_t, IfE_f, AndT_t, AndT_f, OrT_t, OrT_f, AndV_t, AndV_f, OrV_t, OrV_f, ↓eThen, ↓ePass, ↓eBreak, ↓eCont, ↓eExpr, ↓eRet, ↓eRetN, ↓eIfS, ↓eSet, ↓eOwn, ↓eAsg, ↓eSetIx, ↓eGSetIx, ↓eAug, ↓eIadd, ↓eIaddL, ↓eFrz, ↓eFor, ↓eWhile, ↓eNm, ↓eC, ↓eOp, ↓eB, ↓eTr, ↓eTrB, ↓eTrI, ↓eTrN, ↓eTrT, ↓eTrL, ↓eTrA, ↓eAnd, ↓eOr, ↓eNot, ↓eAndV, ↓eOrV, ↓eNotV, ↓eIf, ↓eNil, ↓eCons, ↓eTup, ↓eOfL, ↓eLstL, ↓eListL, ↓eCatL, ↓eLc, ↓eWipe0, ↓eWipe, ↓eSeq, ↓eRng1, ↓eRng2, ↓eCall, ↓eCallL, ↓eRetL, ↓eSrt, ↓eSrtU, ↓eCB, ↓eNeg, ↓eChain, ↓eAppend, ↓ePop, ↓eNo, ↓eSome, ↓eSl, ↓eAnyG, ↓eAllG, ↓eZip, ↓eZip3, ↓gIsC_, tyN_t, tyN_l, tyN_n, tyN_b, tyN_i, seqP_t, seqP_l, ↓eEn1, ↓eEn2, ↓eSeqA, ↓ePar, ↓gAnyL_, ↓gAllL_, ↓gSumL_, boolsD_map, intsD_map, ↓gSl_t, ↓gSl_l, ↓gSl_a, ↓gAdd_i, ↓gAdd_t, ↓gAdd_s, ↓gAdd_l, ↓gI0_i, ↓gI_i, ↓gMul_i, ↓gMul_t, ↓gEq_, ↓gNe_, ↓gIs_n, ↓gIs_b, ↓gIsNot_n, ↓gIsNot_b, ↓gIn_, ↓gNotIn_, ↓gIx_t, ↓gIx_l, ↓gIx_a, ↓gLen_, ↓gLen_l, ↓gLen_a, ↓gInt_, ↓gInt_b, ↓gTuple_, ↓gTuple_l, ↓gTuple_a, ↓gMax_, ↓gMin_, ↓gIsBool_b, ↓gIsBool_i, seqOf_t, seqOf_l, seqOf_a, lstOf_l, lstOf_a, rsv_i, rsv_b, rsv_s, rsv_n, rsv_t, rsv_l, dle_i, dle_b, dle_n, eqD_i, eqD_b, isNon, bNm_, bTup_, bCons_, bNil_, Option.bind_some, i40, i41, i42, i43, atI0, atI1, atI2, atI3, atI4, atI5, mset_same, true_and, beq_self_eq_true, Bool.false_eq_true, c0, c1, Int.cast_ofNat_Int, Int.reduceEq, Int.reduceLT, Int.reduceLE, Int.reduceAdd, Int.reduceSub, ↓reduceIte]
        refine ⟨two, w, rfl, by omega, by omega, ?_⟩
        rw [hs] at hk
        exact hk
      | false =>
        try simp -dsimp only [bodyE, startD, List.map_cons, List.map_nil, List.length_cons, List.length_nil, List.replicate_succ, List.replicate_zero, List.cons_append, List.nil_append, Nat.reduceAdd, Nat.reduceSub, List.set_cons_zero, List.set_cons_succ, List.getElem?_cons_zero, List.getElem?_cons_succ, Bool.not_true, Bool.not_false, decide_true, decide_false, ↓IfS_t, ↓IfS_f, ↓IfE_t, ↓IfE_f, ↓AndT_t, ↓AndT_f, ↓OrT_t, ↓OrT_f, ↓AndV_t, ↓AndV_f, ↓OrV_t, ↓OrV_f, IfS_t, IfS_f, IfE_t, IfE_f, AndT_t, AndT_f, OrT_t, OrT_f, AndV_t, AndV_f, OrV_t, OrV_f, ↓eThen, ↓ePass, ↓eBreak, ↓eCont, ↓eExpr, ↓eRet, ↓eRetN, ↓eIfS, ↓eSet, ↓eOwn, ↓eAsg, ↓eSetIx, ↓eGSetIx, ↓eAug, ↓eIadd, ↓eIaddL, ↓eFrz, ↓eFor, ↓eWhile, ↓eNm, ↓eC, ↓eOp, ↓eB, ↓eTr, ↓eTrB, ↓eTrI, ↓eTrN, ↓eTrT, ↓eTrL, ↓eTrA, ↓eAnd, ↓eOr, ↓eNot, ↓eAndV, ↓eOrV, ↓eNotV, ↓eIf, ↓eNil, ↓eCons, ↓eTup, ↓eOfL, ↓eLstL, ↓eListL, ↓eCatL, ↓eLc, ↓eWipe0, ↓eWipe, ↓eSeq, ↓eRng1, ↓eRng2, ↓eCall, ↓eCallL, ↓eRetL, ↓eSrt, ↓eSrtU, ↓eCB, ↓eNeg, ↓eChain, ↓eAppend, ↓ePop, ↓eNo, ↓eSome, ↓eSl, ↓eAnyG, ↓eAllG, ↓eZip, ↓eZip3, ↓gIsC_, tyN_t, tyN_l, tyN_n, tyN_b, tyN_i, seqP_t, seqP_l, ↓eEn1, ↓eEn2, ↓eSeqA, ↓ePar, ↓gAnyL_, ↓gAllL_, ↓gSumL_, boolsD_map, intsD_map, ↓gSl_t, ↓gSl_l, ↓gSl_a, ↓gAdd_i, ↓gAdd_t, ↓gAdd_s, ↓gAdd_l, ↓gI0_i, ↓gI_i, ↓gMul_i, ↓gMul_t, ↓gEq_, ↓gNe_, ↓gIs_n, ↓gIs_b, ↓gIsNot_n, ↓gIsNot_b, ↓gIn_, ↓gNotIn_, ↓gIx_t, ↓gIx_l, ↓gIx_a, ↓gLen_, ↓gLen_l, ↓gLen_a, ↓gInt_, ↓gInt_b, ↓gTuple_, ↓gTuple_l, ↓gTuple_a, ↓gMax_, ↓gMin_, ↓gIsBool_b, ↓gIsBool_i, seqOf_t, seqOf_l, seqOf_a, lstOf_l, lstOf_a, rsv_i, rsv_b, rsv_s, rsv_n, rsv_t, rsv_l, dle_i, dle_b, dle_n, eqD_i, eqD_b, isNon, bNm_, bTup_, bCons_, bNil_, Option.bind_some, i40, i41, i42, i43, atI0, atI1, atI2, atI3, atI4, atI5, mset_same, true_and, beq_self_eq_true, Bool.false_eq_true, c0, c1, Int.cast_ofNat_Int, Int.reduceEq, Int.reduceLT, Int.reduceLE, Int.reduceAdd, Int.reduceSub, ↓reduceIte]
        rw [hs] at hk
        exact hk
    · try simp -dsimp only [bodyE, startD, List.map_cons, List.map_nil, List.length_cons, List.length_nil, List.replicate_succ, List.replicate_zero, List.cons_append, List.nil_append, Nat.reduceAdd, Nat.reduceSub, List.set_cons_zero, List.set_cons_succ, List.getElem?_cons_zero, List.getElem?_cons_succ, Bool.not_true, Bool.not_false, decide_true, decide_false, ↓IfS_t, ↓IfS_f, ↓IfE_t, ↓IfE_f, ↓AndT_t, ↓AndT_f, ↓OrT_t, ↓OrT_f, ↓AndV_t, ↓AndV_f, ↓OrV_t, ↓OrV_f, IfS_t, IfS_f, IfE_t, IfE_f, AndT_t, AndT_f, OrT_t, OrT_f, AndV_t, AndV_f, OrV_t, OrV_f, ↓eThen, ↓ePass, ↓eBreak, ↓eCont, ↓eExpr, ↓eRet, ↓eRetN, ↓eIfS, ↓eSet, ↓eOwn, ↓eAsg, ↓eSetIx, ↓eGSetIx, ↓eAug, ↓eIadd, ↓eIaddL, ↓eFrz, ↓eFor, ↓eWhile, ↓eNm, ↓eC, ↓eOp, ↓eB, ↓eTr, ↓eTrB, ↓eTrI, ↓eTrN, ↓eTrT, ↓eTrL, ↓eTrA, ↓eAnd, ↓eOr, ↓eNot, ↓eAndV, ↓eOrV, ↓eNotV, ↓eIf, ↓eNil, ↓eCons, ↓eTup, ↓eOfL, ↓eLstL, ↓eListL, ↓eCatL, ↓eLc, ↓eWipe0, ↓eWipe, ↓eSeq, ↓eRng1, ↓eRng2, ↓eCall, ↓eCallL, ↓eRetL, ↓eSrt, ↓eSrtU, ↓eCB, ↓eNeg, ↓eChain, ↓eAppend, ↓ePop, ↓eNo, ↓eSome, ↓eSl, ↓eAnyG, ↓eAllG, ↓eZip, ↓eZip3, ↓gIsC_, tyN_t, tyN_l, tyN_n, tyN_b, tyN_i, seqP_t, seqP_l, ↓eEn1, ↓eEn2, ↓eSeqA, ↓ePar, ↓gAnyL_, ↓gAllL_, ↓gSumL_, boolsD_map, intsD_map, ↓gSl_t, ↓gSl_l, ↓gSl_a, ↓gAdd_i, ↓gAdd_t, ↓gAdd_s, ↓gAdd_l, ↓gI0_i, ↓gI_i, ↓gMul_i, ↓gMul_t, ↓gEq_, ↓gNe_, ↓gIs_n, ↓gIs_b, ↓gIsNot_n, ↓gIsNot_b, ↓gIn_, ↓gNotIn_, ↓gIx_t, ↓gIx_l, ↓gIx_a, ↓gLen_, ↓gLen_l, ↓gLen_a, ↓gInt_, ↓gInt_b, ↓gTuple_, ↓gTuple_l, ↓gTuple_a, ↓gMax_, ↓gMin_, ↓gIsBool_b, ↓gIsBool_i, seqOf_t, seqOf_l, seqOf_a, lstOf_l, lstOf_a, rsv_i, rsv_b, rsv_s, rsv_n, rsv_t, rsv_l, dle_i, dle_b, dle_n, eqD_i, eqD_b, isNon, bNm_, bTup_, bCons_, bNil_, Option.bind_some, i40, i41, i42, i43, atI0, atI1, atI2, atI3, atI4, atI5, mset_same, true_and, beq_self_eq_true, Bool.false_eq_true, c0, c1, Int.cast_ofNat_Int, Int.reduceEq, Int.reduceLT, Int.reduceLE, Int.reduceAdd, Int.reduceSub, ↓reduceIte]
      exact hk
    · try simp -dsimp only [bodyE, startD, List.map_cons, List.map_nil, List.length_cons, List.length_nil, List.replicate_succ, List.replicate_zero, List.cons_append, List.nil_append, Nat.reduceAdd, Nat.reduceSub, List.set_cons_zero, List.set_cons_succ, List.getElem?_cons_zero, List.getElem?_cons_succ, Bool.not_true, Bool.not_false, decide_true, decide_false, ↓IfS_t, ↓IfS_f, ↓IfE_t, ↓IfE_f, ↓AndT_t, ↓AndT_f, ↓OrT_t, ↓OrT_f, ↓AndV_t, ↓AndV_f, ↓OrV_t, ↓OrV_f, IfS_t, IfS_f, IfE_t, IfE_f, AndT_t, AndT_f, OrT_t, OrT_f, AndV_t, AndV_f, OrV_t, OrV_f, ↓eThen, ↓ePass, ↓eBreak, ↓eCont, ↓eExpr, ↓eRet, ↓eRetN, ↓eIfS, ↓eSet, ↓eOwn, ↓eAsg, ↓eSetIx, ↓eGSetIx, ↓eAug, ↓eIadd, ↓eIaddL, ↓eFrz, ↓eFor, ↓eWhile, ↓eNm, ↓eC, ↓eOp, ↓eB, ↓eTr, ↓eTrB, ↓eTrI, ↓eTrN, ↓eTrT, ↓eTrL, ↓eTrA, ↓eAnd, ↓eOr, ↓eNot, ↓eAndV, ↓eOrV, ↓eNotV, ↓eIf, ↓eNil, ↓eCons, ↓eTup, ↓eOfL, ↓eLstL, ↓eListL, ↓eCatL, ↓eLc, ↓eWipe0, ↓eWipe, ↓eSeq, ↓eRng1, ↓eRng2, ↓eCall, ↓eCallL, ↓eRetL, ↓eSrt, ↓eSrtU, ↓eCB, ↓eNeg, ↓eChain, ↓eAppend, ↓ePop, ↓eNo, ↓eSome, ↓eSl, ↓eAnyG, ↓eAllG, ↓eZip, ↓eZip3, ↓gIsC_, tyN_t, tyN_l, tyN_n, tyN_b, tyN_i, seqP_t, seqP_l, ↓eEn1, ↓eEn2, ↓eSeqA, ↓ePar, ↓gAnyL_, ↓gAllL_, ↓gSumL_, boolsD_map, intsD_map, ↓gSl_t, ↓gSl_l, ↓gSl_a, ↓gAdd_i, ↓gAdd_t, ↓gAdd_s, ↓gAdd_l, ↓gI0_i, ↓gI_i, ↓gMul_i, ↓gMul_t, ↓gEq_, ↓gNe_, ↓gIs_n, ↓gIs_b, ↓gIsNot_n, ↓gIsNot_b, ↓gIn_, ↓gNotIn_, ↓gIx_t, ↓gIx_l, ↓gIx_a, ↓gLen_, ↓gLen_l, ↓gLen_a, ↓gInt_, ↓gInt_b, ↓gTuple_, ↓gTuple_l, ↓gTuple_a, ↓gMax_, ↓gMin_, ↓gIsBool_b, ↓gIsBool_i, seqOf_t, seqOf_l, seqOf_a, lstOf_l, lstOf_a, rsv_i, rsv_b, rsv_s, rsv_n, rsv_t, rsv_l, dle_i, dle_b, dle_n, eqD_i, eqD_b, isNon, bNm_, bTup_, bCons_, bNil_, Option.bind_some, i40, i41, i42, i43, atI0, atI1, atI2, atI3, atI4, atI5, mset_same, true_and, beq_self_eq_true, Bool.false_eq_true, c0, c1, Int.cast_ofNat_Int, Int.reduceEq, Int.reduceLT, Int.reduceLE, Int.reduceAdd, Int.reduceSub, ↓reduceIte, sl]
      refine ⟨one, two, rfl, by omega, n1, t1, fun R hR _ => ?_⟩
      have fb : ∀ w ∈ (upto (l + 1) (one.length + two.length)).filter (fun w => SubW one w && SubW two w), Both one two w := fun w hw => by
        have := (List.mem_filter.mp hw).2
        rw [Bool.and_eq_true] at this
        exact this
      try simp -dsimp only [bodyE, startD, List.map_cons, List.map_nil, List.length_cons, List.length_nil, List.replicate_succ, List.replicate_zero, List.cons_append, List.nil_append, Nat.reduceAdd, Nat.reduceSub, List.set_cons_zero, List.set_cons_succ, List.getElem?_cons_zero, List.getElem?_cons_succ, Bool.not_true, Bool.not_false, decide_true, decide_false, ↓IfS_t, ↓IfS_f, ↓IfE_t, ↓IfE_f, ↓AndT_t, ↓AndT_f, ↓OrT_t, ↓OrT_f, ↓AndV_t, ↓AndV_f, ↓OrV_t, ↓OrV_f, IfS_t, IfS_f, IfE_t, IfE_f, AndT_t, AndT_f, OrT_t, OrT_f, AndV_t, AndV_f, OrV_t, OrV_f, ↓eThen, ↓ePass, ↓eBreak, ↓eCont, ↓eExpr, ↓eRet, ↓eRetN, ↓eIfS, ↓eSet, ↓eOwn, ↓eAsg, ↓eSetIx, ↓eGSetIx, ↓eAug, ↓eIadd, ↓eIaddL, ↓eFrz, ↓eFor, ↓eWhile, ↓eNm, ↓eC, ↓eOp, ↓eB, ↓eTr, ↓eTrB, ↓eTrI, ↓eTrN, ↓eTrT, ↓eTrL, ↓eTrA, ↓eAnd, ↓eOr, ↓eNot, ↓eAndV, ↓eOrV, ↓eNotV, ↓eIf, ↓eNil, ↓eCons, ↓eTup, ↓eOfL, ↓eLstL, ↓eListL, ↓eCatL, ↓eLc, ↓eWipe0, ↓eWipe, ↓eSeq, ↓eRng1, ↓eRng2, ↓eCall, ↓eCallL, ↓eRetL, ↓eSrt, ↓eSrtU, ↓eCB, ↓eNeg, ↓eChain, ↓eAppend, ↓ePop, ↓eNo, ↓eSome, ↓eSl, ↓eAnyG, ↓eAllG, ↓eZip, ↓eZip3, ↓gIsC_, tyN_t, tyN_l, tyN_n, tyN_b, tyN_i, seqP_t, seqP_l, ↓eEn1, ↓eEn2, ↓eSeqA, ↓ePar, ↓gAnyL_, ↓gAllL_, ↓gSumL_, boolsD_map, intsD_map, ↓gSl_t, ↓gSl_l, ↓gSl_a, ↓gAdd_i, ↓gAdd_t, ↓gAdd_s, ↓gAdd_l, ↓gI0_i, ↓gI_i, ↓gMul_i, ↓gMul_t, ↓gEq_, ↓gNe_, ↓gIs_n, ↓gIs_b, ↓gIsNot_n, ↓gIsNot_b, ↓gIn_, ↓gNotIn_, ↓gIx_t, ↓gIx_l, ↓gIx_a, ↓gLen_, ↓gLen_l, ↓gLen_a, ↓gInt_, ↓gInt_b, ↓gTuple_, ↓gTuple_l, ↓gTuple_a, ↓gMax_, ↓gMin_, ↓gIsBool_b, ↓gIsBool_i, seqOf_t, seqOf_l, seqOf_a, lstOf_l, lstOf_a, rsv_i, rsv_b, rsv_s, rsv_n, rsv_t, rsv_l, dle_i, dle_b, dle_n, eqD_i, eqD_b, isNon, bNm_, bTup_, bCons_, bNil_, Option.bind_some, i40, i41, i42, i43, atI0, atI1, atI2, atI3, atI4, atI5, mset_same, true_and, beq_self_eq_true, Bool.false_eq_true, c0, c1, Int.cast_ofNat_Int, Int.reduceEq, Int.reduceLT, Int.reduceLE, Int.reduceAdd, Int.reduceSub, ↓reduceIte, tyN_l]
      refine ⟨(upto (l + 1) (one.length + two.length)).filter (fun w => SubW one w && SubW two w), rfl, ?_, few_both (by omega) hone htwo (fun e => t2 (by omega)), fun w hw => by have := lens w (List.mem_filter.mp hw).1; omega, fun ys hy => ?_⟩
      · by_cases h : one = [] ∧ two = []
        · obtain ⟨rfl, rfl⟩ := h
          exact .inl (Nat.le_trans (List.length_filter_le _ _) (Nat.le_refl 1))
        · refine .inr fun w hw e => h ?_
          obtain ⟨k1, k2⟩ := fb w hw
          rw [e] at k1 k2
          have n0 : ∀ v : List Int, SubW v [] = true → v = [] := fun v hv => by
            cases v with
            | nil => rfl
            | cons x v => rw [sub_none] at hv; cases hv
          exact ⟨n0 _ k1, n0 _ k2⟩
      · have e : R = ys := sup_least hR fb (fun r hr => List.mem_filter.mpr ⟨(mem_upto _ _ r).mpr ⟨hR.len r hr, fun x hx => ?_⟩, by rw [Bool.and_eq_true]; exact hR.both r hr⟩) hy
        · rw [e]
          try simp -dsimp only [bodyE, startD, List.map_cons, List.map_nil, List.length_cons, List.length_nil, List.replicate_succ, List.replicate_zero, List.cons_append, List.nil_append, Nat.reduceAdd, Nat.reduceSub, List.set_cons_zero, List.set_cons_succ, List.getElem?_cons_zero, List.getElem?_cons_succ, Bool.not_true, Bool.not_false, decide_true, decide_false, ↓IfS_t, ↓IfS_f, ↓IfE_t, ↓IfE_f, ↓AndT_t, ↓AndT_f, ↓OrT_t, ↓OrT_f, ↓AndV_t, ↓AndV_f, ↓OrV_t, ↓OrV_f, IfS_t, IfS_f, IfE_t, IfE_f, AndT_t, AndT_f, OrT_t, OrT_f, AndV_t, AndV_f, OrV_t, OrV_f, ↓eThen, ↓ePass, ↓eBreak, ↓eCont, ↓eExpr, ↓eRet, ↓eRetN, ↓eIfS, ↓eSet, ↓eOwn, ↓eAsg, ↓eSetIx, ↓eGSetIx, ↓eAug, ↓eIadd, ↓eIaddL, ↓eFrz, ↓eFor, ↓eWhile, ↓eNm, ↓eC, ↓eOp, ↓eB, ↓eTr, ↓eTrB, ↓eTrI, ↓eTrN, ↓eTrT, ↓eTrL, ↓eTrA, ↓eAnd, ↓eOr, ↓eNot, ↓eAndV, ↓eOrV, ↓eNotV, ↓eIf, ↓eNil, ↓eCons, ↓eTup, ↓eOfL, ↓eLstL, ↓eListL, ↓eCatL, ↓eLc, ↓eWipe0, ↓eWipe, ↓eSeq, ↓eRng1, ↓eRng2, ↓eCall, ↓eCallL, ↓eRetL, ↓eSrt, ↓eSrtU, ↓eCB, ↓eNeg, ↓eChain, ↓eAppend, ↓ePop, ↓eNo, ↓eSome, ↓eSl, ↓eAnyG, ↓eAllG, ↓eZip, ↓eZip3, ↓gIsC_, tyN_t, tyN_l, tyN_n, tyN_b, tyN_i, seqP_t, seqP_l, ↓eEn1, ↓eEn2, ↓eSeqA, ↓ePar, ↓gAnyL_, ↓gAllL_, ↓gSumL_, boolsD_map, intsD_map, ↓gSl_t, ↓gSl_l, ↓gSl_a, ↓gAdd_i, ↓gAdd_t, ↓gAdd_s, ↓gAdd_l, ↓gI0_i, ↓gI_i, ↓gMul_i, ↓gMul_t, ↓gEq_, ↓gNe_, ↓gIs_n, ↓gIs_b, ↓gIsNot_n, ↓gIsNot_b, ↓gIn_, ↓gNotIn_, ↓gIx_t, ↓gIx_l, ↓gIx_a, ↓gLen_, ↓gLen_l, ↓gLen_a, ↓gInt_, ↓gInt_b, ↓gTuple_, ↓gTuple_l, ↓gTuple_a, ↓gMax_, ↓gMin_, ↓gIsBool_b, ↓gIsBool_i, seqOf_t, seqOf_l, seqOf_a, lstOf_l, lstOf_a, rsv_i, rsv_b, rsv_s, rsv_n, rsv_t, rsv_l, dle_i, dle_b, dle_n, eqD_i, eqD_b, isNon, bNm_, bTup_, bCons_, bNil_, Option.bind_some, i40, i41, i42, i43, atI0, atI1, atI2, atI3, atI4, atI5, mset_same, true_and, beq_self_eq_true, Bool.false_eq_true, c0, c1, Int.cast_ofNat_Int, Int.reduceEq, Int.reduceLT, Int.reduceLE, Int.reduceAdd, Int.reduceSub, ↓reduceIte, eqD_refl, dle_l60, all_enc (fun w => dle_w (n := 58) w)]
          exact post _
        · rcases hR.let_ r hr x hx with h | h
          · have := o1 x h; omega
          · have := o3 x h; omega
end U

set_option Elab.async false
set_option linter.all false
set_option maxRecDepth 100000
set_option maxHeartbeats 1000000
namespace U
open PySem PySem.Spec PyProof.Rows L2
def top (i : Nat) : Stmt := PySem.Challenge.pw_upwall_k03_least_superwords.main.body.getD i (.Pass ⟨0, 0, 0, 0⟩)
section
variable {P : Program} {w : World} {K : PySem.W.Frag} {mg : Str → Option Value} {base : Heap} {T : List Addr} {k : Nat} {W : WX} {X : Cx}
abbrev s_is_subword : Stmt := top 1
def NN_is_subword : List Str := ["word", "other", "position", "letter"]
theorem sc_is_subword : FnScope NN_is_subword ["word", "other"] (defScope s_is_subword) := ⟨rfl, rfl, rfl, by decide +kernel, rfl, by decide +kernel, by decide +kernel⟩
theorem d_is_subword (F : Fr mg) (g : Std P w K mg base NN_is_subword (defScope s_is_subword) (fun _ => true) k W X) : DSs X T W (defBody s_is_subword) (f_is_subword) :=
  dss_cons (s_set g de_int) (dss_cons (s_for g (vs := [3]) (di_seq (n_nm g 1)) (g_nm g 3) (dss_one (ds_if ((dw_and (t_lt g (n_nm g 2) (n_len g F (l_cons g (n_nm g 0) da_nil))) (dw_and1 (t_eq g (n_ix g (n_nm g 0) (n_nm g 2)) (n_nm g 3)))).dt) (dss_one (s_aug g de_int)) dss_nil))) (dss_one (ds_ret (n_eq g (n_nm g 2) (n_len g F (l_cons g (n_nm g 0) da_nil))))))
abbrev s_least_words : Stmt := top 2
def NN_least_words : List Str := ["words", "found", "word", "other"]
theorem sc_least_words : FnScope NN_least_words ["words"] (defScope s_least_words) := ⟨rfl, rfl, rfl, by decide +kernel, rfl, by decide +kernel, by decide +kernel⟩
theorem d_least_words {S_is_subword : FSpec} (F : Fr mg) (C : Cod X T) (F_is_subword : Fn P w K mg base T k "is_subword" S_is_subword) (g : Std P w K mg base NN_least_words (defScope s_least_words) (fun _ => true) (k + 1) W X) : DSs X T W (defBody s_least_words) (f_least_words S_is_subword) :=
  dss_cons (s_set g ((n_lst g da_nil).e)) (dss_cons (s_for g (vs := [2]) (di_seq ((n_srtU g F (n_nm g 0)).e)) (g_nm g 2) (dss_one (ds_if (dt_not (t_tr g (n_anyG g F C [("other", 3)] (di0_seq (n_nm g 1)) (by decide +kernel) (fun _ g => ⟨g_nm g 3, n_call g F_is_subword (l_cons g (n_nm g 3) (l_cons g (n_nm g 2) da_nil))⟩)))) (dss_one (s_set g (n_add g ((n_lc g [("other", 3)] (di_seq (n_nm g 1)) (by decide +kernel) (fun _ g => ⟨g_nm g 3, dts_one (dt_not (t_tr g (n_call g (F_is_subword.mono (Nat.le_succ _)) (l_cons g (n_nm g 2) (l_cons g (n_nm g 3) da_nil))))), n_nm g 3⟩)).e) ((n_lst g (l_cons g (n_nm g 2) da_nil)).e)))) dss_nil))) (dss_one (ds_ret ((n_srt g F (l_cons g (n_nm g 1) da_nil)).e))))
abbrev s_superwords : Stmt := top 3
def NN_superwords : List Str := ["word", "other", "made", "rest"]
theorem sc_superwords : FnScope NN_superwords ["word", "other"] (defScope s_superwords) := ⟨rfl, rfl, rfl, by decide +kernel, rfl, by decide +kernel, by decide +kernel⟩
theorem d_superwords {S_superwords : FSpec} {S_least_words : FSpec} (F_superwords : Fn P w K mg base T k "superwords" S_superwords) (F_least_words : Fn P w K mg base T k "least_words" S_least_words) (g : Std P w K mg base NN_superwords (defScope s_superwords) (fun _ => true) k W X) : DSs X T W (defBody s_superwords) (f_superwords S_superwords S_least_words) :=
  dss_cons (ds_if ((dw_or (dt_not (t_tr g (n_nm g 0))) (dw_or1 (dt_not (t_tr g (n_nm g 1))))).dt) (dss_one (ds_ret ((n_lst g (l_cons g (n_add g (n_nm g 0) (n_nm g 1)) da_nil)).e))) dss_nil) (dss_cons (ds_if (t_eq g (n_ix g (n_nm g 0) de_int) (n_ix g (n_nm g 1) de_int)) (dss_one (ds_ret ((n_lc g [("rest", 3)] (di_seq (n_call g F_superwords (l_cons g (de_sl (n_nm g 0) (do_some de_int) do_no) (l_cons g (de_sl (n_nm g 1) (do_some de_int) do_no) da_nil)))) (by decide +kernel) (fun _ g => ⟨g_nm g 3, dts_nil, n_add g (de_sl (n_nm g 0) do_no (do_some de_int)) (n_nm g 3)⟩)).e))) dss_nil) (dss_cons (s_ownLc g [("rest", 3)] (di_seq (n_call g F_superwords (l_cons g (de_sl (n_nm g 0) (do_some de_int) do_no) (l_cons g (n_nm g 1) da_nil)))) (by decide +kernel) (fun _ g => ⟨g_nm g 3, dts_nil, n_add g (de_sl (n_nm g 0) do_no (do_some de_int)) (n_nm g 3)⟩)) (dss_cons (s_aug g ((n_lc g [("rest", 3)] (di_seq (n_call g F_superwords (l_cons g (n_nm g 0) (l_cons g (de_sl (n_nm g 1) (do_some de_int) do_no) da_nil)))) (by decide +kernel) (fun _ g => ⟨g_nm g 3, dts_nil, n_add g (de_sl (n_nm g 1) do_no (do_some de_int)) (n_nm g 3)⟩)).e)) (dss_frz (dss_one (ds_ret (n_call g F_least_words (l_cons g (n_nm g 2) da_nil))))))))
abbrev s_ldraw : Stmt := top 5
def NN_ldraw : List Str := ["_law_state", "_law_limit", "_law_position", "_law_cell", "_law_mixed", "_law_digit"]
theorem sc_ldraw : FnScope NN_ldraw ["_law_state", "_law_limit"] (defScope s_ldraw) := ⟨rfl, rfl, rfl, by decide +kernel, rfl, by decide +kernel, by decide +kernel⟩
theorem d_ldraw (F : Fr mg) (g : Std P w K mg base NN_ldraw (defScope s_ldraw) (fun _ => true) k W X) : DSs X T W (defBody s_ldraw) (f_ldraw) :=
  dss_cons (ds_if (t_lt g (n_ix g (n_nm g 0) de_int) (n_nm g 1)) (dss_cons (s_set g (n_ix g (n_nm g 0) de_int)) (dss_cons (s_setIx g (n_nm g 0) de_int (n_add g (n_nm g 2) de_int)) (dss_cons (s_set g de_int) (dss_cons (ds_if (t_lt g (n_nm g 2) (n_len g F (l_cons g (n_ix g (n_nm g 0) de_int) da_nil))) (dss_one (s_set g (n_ix g (n_ix g (n_nm g 0) de_int) (n_nm g 2)))) dss_nil) (dss_one (ds_if (t_ge g (n_nm g 3) (n_pow g de_int de_int)) (dss_one (s_setIx g (n_nm g 0) de_int (n_nm g 3))) (dss_cons (s_setIx g (n_nm g 0) de_int (n_mod g (n_int1 g F (l_cons g (n_mul g (n_add g (n_add g (n_add g (n_ix g (n_nm g 0) de_int) (n_mod g (n_int1 g F (l_cons g (n_nm g 3) da_nil)) de_int)) (n_nm g 2)) de_int) de_int) da_nil)) de_int)) (dss_cons (s_set g (n_mod g (n_int1 g F (l_cons g (n_add g (n_mul g (n_ix g (n_nm g 0) de_int) de_int) de_int) da_nil)) de_int)) (dss_one (s_setIx g (n_nm g 0) de_int (n_add g (n_mul g (n_nm g 4) de_int) (n_mod g (n_int1 g F (l_cons g (n_add g (n_mul g (n_nm g 4) de_int) (n_ix g (n_nm g 0) de_int)) da_nil)) de_int)))))))))))) dss_nil) (dss_cons (s_set g (n_mod g (n_int1 g F (l_cons g (n_ix g (n_nm g 0) de_int) da_nil)) (n_nm g 1))) (dss_cons (s_setIx g (n_nm g 0) de_int (n_fdiv g (n_ix g (n_nm g 0) de_int) (n_nm g 1))) (dss_one (ds_ret (n_nm g 5)))))
abbrev s_lword : Stmt := top 6
def NN_lword : List Str := ["_law_state", "_law_letters", "_law_most", "_law_k"]
theorem sc_lword : FnScope NN_lword ["_law_state", "_law_letters", "_law_most"] (defScope s_lword) := ⟨rfl, rfl, rfl, by decide +kernel, rfl, by decide +kernel, by decide +kernel⟩
theorem d_lword {S_ldraw : FSpec} (F : Fr mg) (F_ldraw : Fn P w K mg base T k "_law_draw" S_ldraw) (g : Std P w K mg base NN_lword (defScope s_lword) (fun _ => true) k W X) : DSs X T W (defBody s_lword) (f_lword S_ldraw) :=
  dss_cons (ds_if (t_eq g (n_nm g 1) de_int) (dss_one (ds_ret (n_tup g da_nil))) dss_nil) (dss_one (ds_ret (n_tuple g F (l_cons g ((n_lc g [("_law_k", 3)] (i_rng1 g F (l_cons g (n_call g F_ldraw (l_cons g (n_nm g 0) (l_cons g (n_add g (n_nm g 2) de_int) da_nil))) da_nil)) (by decide +kernel) (fun _ g => ⟨g_nm g 3, dts_nil, n_call g F_ldraw (l_cons g (n_nm g 0) (l_cons g (n_nm g 1) da_nil))⟩)).e) da_nil))))
abbrev s_lsub : Stmt := top 7
def NN_lsub : List Str := ["_law_word_here", "_law_other", "_law_k"]
theorem sc_lsub : FnScope NN_lsub ["_law_word_here", "_law_other"] (defScope s_lsub) := ⟨rfl, rfl, rfl, by decide +kernel, rfl, by decide +kernel, by decide +kernel⟩
theorem d_lsub {S_lsub : FSpec} (F : Fr mg) (F_lsub : Fn P w K mg base T k "_law_sub" S_lsub) (g : Std P w K mg base NN_lsub (defScope s_lsub) (fun _ => true) k W X) : DSs X T W (defBody s_lsub) (f_lsub S_lsub) :=
  dss_cons (ds_if (t_eq g (n_len g F (l_cons g (n_nm g 0) da_nil)) de_int) (dss_one (ds_ret de_bl)) dss_nil) (dss_cons (s_for g (vs := [2]) (i_rng1 g F (l_cons g (n_len g F (l_cons g (n_nm g 1) da_nil)) da_nil)) (g_nm g 2) (dss_one (ds_if (t_eq g (n_ix g (n_nm g 1) (n_nm g 2)) (n_ix g (n_nm g 0) de_int)) (dss_one (ds_ret (n_call g F_lsub (l_cons g (de_sl (n_nm g 0) (do_some de_int) do_no) (l_cons g (de_sl (n_nm g 1) (do_some (n_add g (n_nm g 2) de_int)) do_no) da_nil))))) dss_nil))) (dss_one (ds_ret de_bl)))
abbrev s_lwords : Stmt := top 8
def NN_lwords : List Str := ["_law_letters", "_law_most", "_law_found", "_law_here", "_law_k", "_law_made", "_law_word_here", "_law_a"]
theorem sc_lwords : FnScope NN_lwords ["_law_letters", "_law_most"] (defScope s_lwords) := ⟨rfl, rfl, rfl, by decide +kernel, rfl, by decide +kernel, by decide +kernel⟩
theorem d_lwords (F : Fr mg) (g : Std P w K mg base NN_lwords (defScope s_lwords) (fun _ => true) k W X) : DSs X T W (defBody s_lwords) (f_lwords) :=
  dss_cons (s_set g ((n_lst g (l_cons g (n_tup g da_nil) da_nil)).e)) (dss_cons (s_set g ((n_lst g (l_cons g (n_tup g da_nil) da_nil)).e)) (dss_cons (s_for g (vs := [4]) (i_rng1 g F (l_cons g (n_nm g 1) da_nil)) (g_nm g 4) (dss_cons (s_set g ((n_lst g da_nil).e)) (dss_cons (s_for g (vs := [6]) (di_seq (n_nm g 3)) (g_nm g 6) (dss_one (s_set g (n_add g (n_nm g 5) ((n_lc g [("_law_a", 7)] (i_rng1 g F (l_cons g (n_nm g 0) da_nil)) (by decide +kernel) (fun _ g => ⟨g_nm g 7, dts_nil, n_add g (n_nm g 6) (n_tup g (l_cons g (n_nm g 7) da_nil))⟩)).e))))) (dss_cons (s_set g (n_nm g 5)) (dss_one (s_set g (n_add g (n_nm g 2) (n_nm g 5)))))))) (dss_one (ds_ret (n_nm g 2)))))
abbrev s_lleast_words : Stmt := top 9
def NN_lleast_words : List Str := ["_law_words_here", "_law_found", "_law_word_here", "_law_other"]
theorem sc_lleast_words : FnScope NN_lleast_words ["_law_words_here"] (defScope s_lleast_words) := ⟨rfl, rfl, rfl, by decide +kernel, rfl, by decide +kernel, by decide +kernel⟩
theorem d_lleast_words {S_lsub : FSpec} (F : Fr mg) (F_lsub : Fn P w K mg base T k "_law_sub" S_lsub) (g : Std P w K mg base NN_lleast_words (defScope s_lleast_words) (fun _ => true) k W X) : DSs X T W (defBody s_lleast_words) (f_lleast_words S_lsub) :=
  dss_cons (s_own g (n_lst g da_nil)) (dss_cons (s_for g (vs := [2]) (di_seq ((n_srtU g F (n_nm g 0)).e)) (g_nm g 2) (dss_one (ds_if (dt_not (t_tr g (n_anyL g F (l_cons g ((n_lc g [("_law_other", 3)] (di_seq (n_nm g 0)) (by decide +kernel) (fun _ g => ⟨g_nm g 3, dts_one (t_ne g (n_nm g 3) (n_nm g 2)), n_call g F_lsub (l_cons g (n_nm g 3) (l_cons g (n_nm g 2) da_nil))⟩)).e) da_nil)))) (dss_one (s_expr g (n_append g (n_nm g 1) (l_cons g (n_nm g 2) da_nil)))) dss_nil))) (dss_frz (dss_one (ds_ret (n_nm g 1)))))
abbrev s_law : Stmt := top 10
def NN_law : List Str := ["_law_script", "_law_state", "_law_letters", "_law_one", "_law_two", "_law_found", "_law_actual", "_law_word_here"]
theorem sc_law : FnScope NN_law ["_law_script"] (defScope s_law) := ⟨rfl, rfl, rfl, by decide +kernel, rfl, by decide +kernel, by decide +kernel⟩
theorem d_law {S_ldraw : FSpec} {S_lword : FSpec} {S_lwords : FSpec} {S_lsub : FSpec} {S_superwords : FSpec} {S_lleast_words : FSpec} (F : Fr mg) (F_ldraw : Fn P w K mg base T k "_law_draw" S_ldraw) (F_lword : Fn P w K mg base T k "_law_word" S_lword) (F_lwords : Fn P w K mg base T k "_law_words" S_lwords) (F_lsub : Fn P w K mg base T k "_law_sub" S_lsub) (F_superwords : Fn P w K mg base T k "superwords" S_superwords) (F_lleast_words : Fn P w K mg base T k "_law_least_words" S_lleast_words) (g : Std P w K mg base NN_law (defScope s_law) (fun _ => true) k W X) : DSs X T W (defBody s_law) (f_law S_ldraw S_lword S_lwords S_lsub S_superwords S_lleast_words) :=
  dss_cons (s_own g (n_lst g (l_cons g de_int (l_cons g de_int (l_cons g ((n_list g F (l_cons g (n_nm g 0) da_nil)).e) (l_cons g de_int da_nil)))))) (dss_cons (s_set g (n_add g de_int (n_call g F_ldraw (l_cons g (n_nm g 1) (l_cons g de_int da_nil))))) (dss_cons (s_set g (n_call g F_lword (l_cons g (n_nm g 1) (l_cons g (n_nm g 2) (l_cons g de_int da_nil))))) (dss_cons (s_set g (n_call g F_lword (l_cons g (n_nm g 1) (l_cons g (n_nm g 2) (l_cons g de_int da_nil))))) (dss_cons (ds_if (t_eq g (n_nm g 2) de_int) (dss_one (s_set g (de_sl (n_nm g 4) do_no (do_some de_int)))) dss_nil) (dss_cons (s_setLc g [("_law_word_here", 7)] (di_seq (n_call g F_lwords (l_cons g (n_nm g 2) (l_cons g (n_add g (n_len g F (l_cons g (n_nm g 3) da_nil)) (n_len g F (l_cons g (n_nm g 4) da_nil))) da_nil)))) (by decide +kernel) (fun _ g => ⟨g_nm g 7, dts_one ((dw_and (t_tr g (n_call g F_lsub (l_cons g (n_nm g 3) (l_cons g (n_nm g 7) da_nil)))) (dw_and1 (t_tr g (n_call g F_lsub (l_cons g (n_nm g 4) (l_cons g (n_nm g 7) da_nil)))))).dt), n_nm g 7⟩)) (dss_cons (s_set g (n_call g F_superwords (l_cons g (n_nm g 3) (l_cons g (n_nm g 4) da_nil)))) (dss_one (ds_ret (de_and (n_isC g F (by decide) (l_cons g (n_nm g 6) (l_cons g (n_tyv g F.list boot_list) da_nil))) (de_one (n_eq g (n_nm g 6) (n_call g F_lleast_words (l_cons g (n_nm g 5) da_nil)))))))))))))
end
abbrev FnP (K : PySem.W.Frag) (x : Str) (st : Stmt) (f : Addr) (fd : FuncData) : Prop := FunD K x x (defArgs st) (defBody st) (defScope st) [] [] f fd
def dD (x : Str) (st : Stmt) : He.DefD := ⟨(x, none), x, x, defArgs st, defBody st, defScope st, [], []⟩
def tfD : List He.Defn := [("least_words", none)]
def fnD : List He.DefD := [dD "is_subword" s_is_subword, dD "least_words" s_least_words, dD "superwords" s_superwords, dD "_law_draw" s_ldraw, dD "_law_word" s_lword, dD "_law_sub" s_lsub, dD "_law_words" s_lwords, dD "_law_least_words" s_lleast_words, dD "law" s_law]
def faD : List He.Fa := fnD.map (fun d => .glo d.name) ++ frNames.map .free ++ []
abbrev RR : PySem.W.OpenRow := PySem.W.OpenLaw.row PySem.Challenge.rw_upwall_k03_least_superwords
abbrev exD : PySem.W.Frag → Bool := fun _ => true
abbrev hk : PySem.W.Hook := He.hookX 4 faD fnD [] tfD exD
def ob (s : PySem.W.SharedT) : He.AlX := He.obsX 4 faD fnD [] tfD exD (HandSHeadRun.getT s)
theorem ob_eq (s : PySem.W.SharedT) : ob s = hk.obs s.abs := He.obsX_eq (HandSHeadRun.getT_eq s)
def loose : List Str := (["__name__", "is_subword", "least_words", "superwords", "_law_draw", "_law_word", "_law_sub", "_law_words", "_law_least_words"] : List Str)
theorem run (w : World) : HandSHeadRun.RunEq RR (PySem.W.view RR.prog [10]) hk ob 600 loose w := by
  intro os
  kernel_rfl
section
variable {K : PySem.W.Frag} {h : Heap} {mg : Str → Option Value}
theorem h_is_subword (KX : K.In h) (G : h.Ns mainGlobals mg) (c : He.SaysD faD fnD K) : ∃ fd, FnP K "is_subword" s_is_subword (He.fAd K ("is_subword", none)) fd ∧ mg "is_subword" = some (.ref (He.fAd K ("is_subword", none))) ∧ Binds K fd ["word", "other"] [] := by
  obtain ⟨fd, F⟩ := c.def_ 0 (d := dD "is_subword" s_is_subword) rfl
  exact ⟨fd, F, He.glo_ok KX G (c.fact 0 (f := .glo "is_subword") rfl), FunD.bindsN (ps := ["word", "other"]) F fun _ _ _ _ _ _ us hl => match us, hl with | [_, _], _ => rfl⟩
theorem h_least_words (KX : K.In h) (G : h.Ns mainGlobals mg) (c : He.SaysD faD fnD K) : ∃ fd, FnP K "least_words" s_least_words (He.fAd K ("least_words", none)) fd ∧ mg "least_words" = some (.ref (He.fAd K ("least_words", none))) ∧ Binds K fd ["words"] [] := by
  obtain ⟨fd, F⟩ := c.def_ 1 (d := dD "least_words" s_least_words) rfl
  exact ⟨fd, F, He.glo_ok KX G (c.fact 1 (f := .glo "least_words") rfl), FunD.bindsN (ps := ["words"]) F fun _ _ _ _ _ _ us hl => match us, hl with | [_], _ => rfl⟩
theorem h_superwords (KX : K.In h) (G : h.Ns mainGlobals mg) (c : He.SaysD faD fnD K) : ∃ fd, FnP K "superwords" s_superwords (He.fAd K ("superwords", none)) fd ∧ mg "superwords" = some (.ref (He.fAd K ("superwords", none))) ∧ Binds K fd ["word", "other"] [] := by
  obtain ⟨fd, F⟩ := c.def_ 2 (d := dD "superwords" s_superwords) rfl
  exact ⟨fd, F, He.glo_ok KX G (c.fact 2 (f := .glo "superwords") rfl), FunD.bindsN (ps := ["word", "other"]) F fun _ _ _ _ _ _ us hl => match us, hl with | [_, _], _ => rfl⟩
theorem h_ldraw (KX : K.In h) (G : h.Ns mainGlobals mg) (c : He.SaysD faD fnD K) : ∃ fd, FnP K "_law_draw" s_ldraw (He.fAd K ("_law_draw", none)) fd ∧ mg "_law_draw" = some (.ref (He.fAd K ("_law_draw", none))) ∧ Binds K fd ["_law_state", "_law_limit"] [] := by
  obtain ⟨fd, F⟩ := c.def_ 3 (d := dD "_law_draw" s_ldraw) rfl
  exact ⟨fd, F, He.glo_ok KX G (c.fact 3 (f := .glo "_law_draw") rfl), FunD.bindsN (ps := ["_law_state", "_law_limit"]) F fun _ _ _ _ _ _ us hl => match us, hl with | [_, _], _ => rfl⟩
theorem h_lword (KX : K.In h) (G : h.Ns mainGlobals mg) (c : He.SaysD faD fnD K) : ∃ fd, FnP K "_law_word" s_lword (He.fAd K ("_law_word", none)) fd ∧ mg "_law_word" = some (.ref (He.fAd K ("_law_word", none))) ∧ Binds K fd ["_law_state", "_law_letters", "_law_most"] [] := by
  obtain ⟨fd, F⟩ := c.def_ 4 (d := dD "_law_word" s_lword) rfl
  exact ⟨fd, F, He.glo_ok KX G (c.fact 4 (f := .glo "_law_word") rfl), FunD.bindsN (ps := ["_law_state", "_law_letters", "_law_most"]) F fun _ _ _ _ _ _ us hl => match us, hl with | [_, _, _], _ => rfl⟩
theorem h_lsub (KX : K.In h) (G : h.Ns mainGlobals mg) (c : He.SaysD faD fnD K) : ∃ fd, FnP K "_law_sub" s_lsub (He.fAd K ("_law_sub", none)) fd ∧ mg "_law_sub" = some (.ref (He.fAd K ("_law_sub", none))) ∧ Binds K fd ["_law_word_here", "_law_other"] [] := by
  obtain ⟨fd, F⟩ := c.def_ 5 (d := dD "_law_sub" s_lsub) rfl
  exact ⟨fd, F, He.glo_ok KX G (c.fact 5 (f := .glo "_law_sub") rfl), FunD.bindsN (ps := ["_law_word_here", "_law_other"]) F fun _ _ _ _ _ _ us hl => match us, hl with | [_, _], _ => rfl⟩
theorem h_lwords (KX : K.In h) (G : h.Ns mainGlobals mg) (c : He.SaysD faD fnD K) : ∃ fd, FnP K "_law_words" s_lwords (He.fAd K ("_law_words", none)) fd ∧ mg "_law_words" = some (.ref (He.fAd K ("_law_words", none))) ∧ Binds K fd ["_law_letters", "_law_most"] [] := by
  obtain ⟨fd, F⟩ := c.def_ 6 (d := dD "_law_words" s_lwords) rfl
  exact ⟨fd, F, He.glo_ok KX G (c.fact 6 (f := .glo "_law_words") rfl), FunD.bindsN (ps := ["_law_letters", "_law_most"]) F fun _ _ _ _ _ _ us hl => match us, hl with | [_, _], _ => rfl⟩
theorem h_lleast_words (KX : K.In h) (G : h.Ns mainGlobals mg) (c : He.SaysD faD fnD K) : ∃ fd, FnP K "_law_least_words" s_lleast_words (He.fAd K ("_law_least_words", none)) fd ∧ mg "_law_least_words" = some (.ref (He.fAd K ("_law_least_words", none))) ∧ Binds K fd ["_law_words_here"] [] := by
  obtain ⟨fd, F⟩ := c.def_ 7 (d := dD "_law_least_words" s_lleast_words) rfl
  exact ⟨fd, F, He.glo_ok KX G (c.fact 7 (f := .glo "_law_least_words") rfl), FunD.bindsN (ps := ["_law_words_here"]) F fun _ _ _ _ _ _ us hl => match us, hl with | [_], _ => rfl⟩
theorem h_law (KX : K.In h) (G : h.Ns mainGlobals mg) (c : He.SaysD faD fnD K) : ∃ fd, FnP K "law" s_law (He.fAd K ("law", none)) fd ∧ mg "law" = some (.ref (He.fAd K ("law", none))) ∧ Binds K fd ["_law_script"] [] := by
  obtain ⟨fd, F⟩ := c.def_ 8 (d := dD "law" s_law) rfl
  exact ⟨fd, F, He.glo_ok KX G (c.fact 8 (f := .glo "law") rfl), FunD.bindsN (ps := ["_law_script"]) F fun _ _ _ _ _ _ us hl => match us, hl with | [_], _ => rfl⟩
theorem h_fr (KX : K.In h) (G : h.Ns mainGlobals mg) (c : He.SaysD faD fnD K) : Fr mg := Fr.of fun x hx => by
  obtain ⟨i, hi, e⟩ := List.mem_iff_getElem.mp hx
  exact He.free_ok KX G (c.facts (f := .free x) (List.mem_append_left _ (List.mem_append_right _ (List.mem_map_of_mem hx))))
end

end U

set_option Elab.async false
set_option linter.all false
set_option maxRecDepth 100000
set_option maxHeartbeats 0
namespace U
open PySem PySem.Spec PyProof.Rows L2
theorem all_holds {w : World} {K : PySem.W.Frag} {h : Heap} {mg : Str → Option Value} {fa : Addr} (KX : K.In h) (G : h.Ns mainGlobals mg) (cx : He.SaysX faD fnD [] tfD exD w h K) (hfa : mg "law" = some (.ref fa)) : LamX.LawAtS PySem.Challenge.rw_upwall_k03_least_superwords w K (L2.CX (PySem.Challenge.rw_upwall_k03_least_superwords).prog w) 55 63 "_law_script" mg fa h := by
  have c := cx.t.d
  obtain ⟨fd_ldraw, F_ldraw, m_ldraw, b_ldraw_⟩ := h_ldraw KX G c
  obtain ⟨fd_lword, F_lword, m_lword, b_lword_⟩ := h_lword KX G c
  obtain ⟨fd_lwords, F_lwords, m_lwords, b_lwords_⟩ := h_lwords KX G c
  obtain ⟨fd_lsub, F_lsub, m_lsub, b_lsub_⟩ := h_lsub KX G c
  obtain ⟨fd_is_subword, F_is_subword, m_is_subword, b_is_subword_⟩ := h_is_subword KX G c
  obtain ⟨fd_least_words, F_least_words, m_least_words, b_least_words_⟩ := h_least_words KX G c
  obtain ⟨fd_superwords, F_superwords, m_superwords, b_superwords_⟩ := h_superwords KX G c
  obtain ⟨fd_lleast_words, F_lleast_words, m_lleast_words, b_lleast_words_⟩ := h_lleast_words KX G c
  obtain ⟨fd, F_law⟩ := c.def_ 8 (d := dD "law" s_law) rfl
  have e := hfa.symm.trans (He.glo_ok KX G (c.fact 8 (f := .glo "law") rfl))
  cases e
  have Z : Fr mg := h_fr KX G c
  have bl := FunD.bindsA (ps := ["_law_script"]) F_law fun _ _ _ _ _ _ us hl => match us, hl with | [_], _ => rfl
  refine law_at (S := S_law) (tfD.map (He.cT K)) (fun p hp => by obtain ⟨q, hq, rfl⟩ := List.mem_map.mp hp; exact cx.empty q hq) (fun p hp => by obtain ⟨q, hq, rfl⟩ := List.mem_map.mp hp; exact cx.out q hq) (fun p hp => by obtain ⟨q, hq, rfl⟩ := List.mem_map.mp hp; exact PySem.W.codeHd_of_K KX (cx.hd q hq)) (fun s u => bl s [u] rfl) s_law_of fun base _ _ hB => ?_
  have A_ldraw : Fn (PySem.Challenge.rw_upwall_k03_least_superwords).prog w K mg base ((tfD.map (He.cT K)).map (·.2)) 1 "_law_draw" S_ldraw := fn_ok F_ldraw m_ldraw sc_ldraw b_ldraw_ (by
    intro ds M Q xw h
    first
      | (obtain ⟨_, e, _⟩ := h; subst e; rfl)
      | (obtain ⟨_, _, e, _⟩ := h; subst e; rfl)
      | (obtain ⟨_, _, _, e, _⟩ := h; subst e; rfl)
      | (obtain ⟨_, _, _, _, e, _⟩ := h; subst e; rfl)
      | (obtain ⟨_, _, _, _, _, e, _⟩ := h; subst e; rfl)
      | (obtain ⟨_, _, e, e2, _⟩ := h; subst e e2; rfl)
      | (obtain ⟨_, _, e, ⟨_, e2, _⟩, _⟩ := h; subst e e2; rfl)
      | (obtain ⟨_, _, e, ⟨_, _, e2, _⟩, _⟩ := h; subst e e2; rfl)
      | (obtain ⟨_, _, e, ⟨_, _, _, e2, _⟩, _⟩ := h; subst e e2; rfl)
      | (obtain ⟨_, _, e, ⟨_, _, _, _, e2, _⟩, _⟩ := h; subst e e2; rfl)) (fun X W g => d_ldraw Z g) (bodyN rfl b_ldraw)
  have A_lword : Fn (PySem.Challenge.rw_upwall_k03_least_superwords).prog w K mg base ((tfD.map (He.cT K)).map (·.2)) 2 "_law_word" S_lword := fn_ok F_lword m_lword sc_lword b_lword_ (by
    intro ds M Q xw h
    first
      | (obtain ⟨_, e, _⟩ := h; subst e; rfl)
      | (obtain ⟨_, _, e, _⟩ := h; subst e; rfl)
      | (obtain ⟨_, _, _, e, _⟩ := h; subst e; rfl)
      | (obtain ⟨_, _, _, _, e, _⟩ := h; subst e; rfl)
      | (obtain ⟨_, _, _, _, _, e, _⟩ := h; subst e; rfl)
      | (obtain ⟨_, _, e, e2, _⟩ := h; subst e e2; rfl)
      | (obtain ⟨_, _, e, ⟨_, e2, _⟩, _⟩ := h; subst e e2; rfl)
      | (obtain ⟨_, _, e, ⟨_, _, e2, _⟩, _⟩ := h; subst e e2; rfl)
      | (obtain ⟨_, _, e, ⟨_, _, _, e2, _⟩, _⟩ := h; subst e e2; rfl)
      | (obtain ⟨_, _, e, ⟨_, _, _, _, e2, _⟩, _⟩ := h; subst e e2; rfl)) (fun X W g => d_lword Z (A_ldraw.mono (by decide)) g) (bodyN rfl b_lword)
  have A_lwords : Fn (PySem.Challenge.rw_upwall_k03_least_superwords).prog w K mg base ((tfD.map (He.cT K)).map (·.2)) 1 "_law_words" S_lwords := fn_ok F_lwords m_lwords sc_lwords b_lwords_ (by
    intro ds M Q xw h
    first
      | (obtain ⟨_, e, _⟩ := h; subst e; rfl)
      | (obtain ⟨_, _, e, _⟩ := h; subst e; rfl)
      | (obtain ⟨_, _, _, e, _⟩ := h; subst e; rfl)
      | (obtain ⟨_, _, _, _, e, _⟩ := h; subst e; rfl)
      | (obtain ⟨_, _, _, _, _, e, _⟩ := h; subst e; rfl)
      | (obtain ⟨_, _, e, e2, _⟩ := h; subst e e2; rfl)
      | (obtain ⟨_, _, e, ⟨_, e2, _⟩, _⟩ := h; subst e e2; rfl)
      | (obtain ⟨_, _, e, ⟨_, _, e2, _⟩, _⟩ := h; subst e e2; rfl)
      | (obtain ⟨_, _, e, ⟨_, _, _, e2, _⟩, _⟩ := h; subst e e2; rfl)
      | (obtain ⟨_, _, e, ⟨_, _, _, _, e2, _⟩, _⟩ := h; subst e e2; rfl)) (fun X W g => d_lwords Z g) (bodyN rfl b_lwords)
  have A_lsub : ∀ n, Fn (PySem.Challenge.rw_upwall_k03_least_superwords).prog w K mg base ((tfD.map (He.cT K)).map (·.2)) (0 + n + 1) "_law_sub" (S_lsub n) := fn_rec (S := fun n => S_lsub n) (fs := fun n => f_lsub (S_lsub n)) F_lsub m_lsub sc_lsub b_lsub_ (by
    intro _ ds M Q xw h
    first
      | (obtain ⟨_, e, _⟩ := h; subst e; rfl)
      | (obtain ⟨_, _, e, _⟩ := h; subst e; rfl)
      | (obtain ⟨_, _, _, e, _⟩ := h; subst e; rfl)
      | (obtain ⟨_, _, _, _, e, _⟩ := h; subst e; rfl)
      | (obtain ⟨_, _, _, _, _, e, _⟩ := h; subst e; rfl)
      | (obtain ⟨_, _, e, e2, _⟩ := h; subst e e2; rfl)
      | (obtain ⟨_, _, e, ⟨_, e2, _⟩, _⟩ := h; subst e e2; rfl)
      | (obtain ⟨_, _, e, ⟨_, _, e2, _⟩, _⟩ := h; subst e e2; rfl)
      | (obtain ⟨_, _, e, ⟨_, _, _, e2, _⟩, _⟩ := h; subst e e2; rfl)
      | (obtain ⟨_, _, e, ⟨_, _, _, _, e2, _⟩, _⟩ := h; subst e e2; rfl)) z_lsub (fun j n hj FN X W g => d_lsub Z FN g) (fun n => bodyN rfl (b_lsub n))
  have A_is_subword : Fn (PySem.Challenge.rw_upwall_k03_least_superwords).prog w K mg base ((tfD.map (He.cT K)).map (·.2)) 1 "is_subword" S_is_subword := fn_ok F_is_subword m_is_subword sc_is_subword b_is_subword_ (by
    intro ds M Q xw h
    first
      | (obtain ⟨_, e, _⟩ := h; subst e; rfl)
      | (obtain ⟨_, _, e, _⟩ := h; subst e; rfl)
      | (obtain ⟨_, _, _, e, _⟩ := h; subst e; rfl)
      | (obtain ⟨_, _, _, _, e, _⟩ := h; subst e; rfl)
      | (obtain ⟨_, _, _, _, _, e, _⟩ := h; subst e; rfl)
      | (obtain ⟨_, _, e, e2, _⟩ := h; subst e e2; rfl)
      | (obtain ⟨_, _, e, ⟨_, e2, _⟩, _⟩ := h; subst e e2; rfl)
      | (obtain ⟨_, _, e, ⟨_, _, e2, _⟩, _⟩ := h; subst e e2; rfl)
      | (obtain ⟨_, _, e, ⟨_, _, _, e2, _⟩, _⟩ := h; subst e e2; rfl)
      | (obtain ⟨_, _, e, ⟨_, _, _, _, e2, _⟩, _⟩ := h; subst e e2; rfl)) (fun X W g => d_is_subword Z g) (bodyN rfl b_is_subword)
  have mt_least_words : (("least_words", none) : He.Defn) ∈ tfD := by simp [tfD]
  have A_least_words : Fn (PySem.Challenge.rw_upwall_k03_least_superwords).prog w K mg base ((tfD.map (He.cT K)).map (·.2)) 3 "least_words" S_least_words := fn_okC F_least_words m_least_words sc_least_words b_least_words_ (code_at F_least_words) (tab_of (hB _ (List.mem_map_of_mem mt_least_words))) (List.mem_map_of_mem (List.mem_map_of_mem mt_least_words)) (by
    intro ds M Q xw h
    first
      | (obtain ⟨_, e, _⟩ := h; subst e; rfl)
      | (obtain ⟨_, _, e, _⟩ := h; subst e; rfl)
      | (obtain ⟨_, _, _, e, _⟩ := h; subst e; rfl)
      | (obtain ⟨_, _, _, _, e, _⟩ := h; subst e; rfl)
      | (obtain ⟨_, _, _, _, _, e, _⟩ := h; subst e; rfl)
      | (obtain ⟨_, _, e, e2, _⟩ := h; subst e e2; rfl)
      | (obtain ⟨_, _, e, ⟨_, e2, _⟩, _⟩ := h; subst e e2; rfl)
      | (obtain ⟨_, _, e, ⟨_, _, e2, _⟩, _⟩ := h; subst e e2; rfl)
      | (obtain ⟨_, _, e, ⟨_, _, _, e2, _⟩, _⟩ := h; subst e e2; rfl)
      | (obtain ⟨_, _, e, ⟨_, _, _, _, e2, _⟩, _⟩ := h; subst e e2; rfl)) (fun X W g C => d_least_words Z C (A_is_subword.mono (by decide)) g) (bodyN rfl b_least_words)
  have A_superwords : ∀ n, Fn (PySem.Challenge.rw_upwall_k03_least_superwords).prog w K mg base ((tfD.map (He.cT K)).map (·.2)) (3 + n + 1) "superwords" (S_superwords n) := fn_rec (S := fun n => S_superwords n) (fs := fun n => f_superwords (S_superwords n) S_least_words) F_superwords m_superwords sc_superwords b_superwords_ (by
    intro _ ds M Q xw h
    first
      | (obtain ⟨_, e, _⟩ := h; subst e; rfl)
      | (obtain ⟨_, _, e, _⟩ := h; subst e; rfl)
      | (obtain ⟨_, _, _, e, _⟩ := h; subst e; rfl)
      | (obtain ⟨_, _, _, _, e, _⟩ := h; subst e; rfl)
      | (obtain ⟨_, _, _, _, _, e, _⟩ := h; subst e; rfl)
      | (obtain ⟨_, _, e, e2, _⟩ := h; subst e e2; rfl)
      | (obtain ⟨_, _, e, ⟨_, e2, _⟩, _⟩ := h; subst e e2; rfl)
      | (obtain ⟨_, _, e, ⟨_, _, e2, _⟩, _⟩ := h; subst e e2; rfl)
      | (obtain ⟨_, _, e, ⟨_, _, _, e2, _⟩, _⟩ := h; subst e e2; rfl)
      | (obtain ⟨_, _, e, ⟨_, _, _, _, e2, _⟩, _⟩ := h; subst e e2; rfl)) z_superwords (fun j n hj FN X W g => d_superwords FN (A_least_words.mono (by omega)) g) (fun n => bodyN rfl (b_superwords n))
  have A_lleast_words : Fn (PySem.Challenge.rw_upwall_k03_least_superwords).prog w K mg base ((tfD.map (He.cT K)).map (·.2)) 52 "_law_least_words" S_lleast_words := fn_ok F_lleast_words m_lleast_words sc_lleast_words b_lleast_words_ (by
    intro ds M Q xw h
    first
      | (obtain ⟨_, e, _⟩ := h; subst e; rfl)
      | (obtain ⟨_, _, e, _⟩ := h; subst e; rfl)
      | (obtain ⟨_, _, _, e, _⟩ := h; subst e; rfl)
      | (obtain ⟨_, _, _, _, e, _⟩ := h; subst e; rfl)
      | (obtain ⟨_, _, _, _, _, e, _⟩ := h; subst e; rfl)
      | (obtain ⟨_, _, e, e2, _⟩ := h; subst e e2; rfl)
      | (obtain ⟨_, _, e, ⟨_, e2, _⟩, _⟩ := h; subst e e2; rfl)
      | (obtain ⟨_, _, e, ⟨_, _, e2, _⟩, _⟩ := h; subst e e2; rfl)
      | (obtain ⟨_, _, e, ⟨_, _, _, e2, _⟩, _⟩ := h; subst e e2; rfl)
      | (obtain ⟨_, _, e, ⟨_, _, _, _, e2, _⟩, _⟩ := h; subst e e2; rfl)) (fun X W g => d_lleast_words Z ((A_lsub 50).mono (by decide)) g) (bodyN rfl b_lleast_words)
  have A_law : FnOk (PySem.Challenge.rw_upwall_k03_least_superwords).prog w K mg base (L2.CX (PySem.Challenge.rw_upwall_k03_least_superwords).prog w) 53 _ fd ["_law_script"] (spOf K ((tfD.map (He.cT K)).map (·.2)) S_law) := fn_okF F_law sc_law (by
    intro ds M Q xw h
    first
      | (obtain ⟨_, e, _⟩ := h; subst e; rfl)
      | (obtain ⟨_, _, e, _⟩ := h; subst e; rfl)
      | (obtain ⟨_, _, _, e, _⟩ := h; subst e; rfl)
      | (obtain ⟨_, _, _, _, e, _⟩ := h; subst e; rfl)
      | (obtain ⟨_, _, _, _, _, e, _⟩ := h; subst e; rfl)
      | (obtain ⟨_, _, e, e2, _⟩ := h; subst e e2; rfl)
      | (obtain ⟨_, _, e, ⟨_, e2, _⟩, _⟩ := h; subst e e2; rfl)
      | (obtain ⟨_, _, e, ⟨_, _, e2, _⟩, _⟩ := h; subst e e2; rfl)
      | (obtain ⟨_, _, e, ⟨_, _, _, e2, _⟩, _⟩ := h; subst e e2; rfl)
      | (obtain ⟨_, _, e, ⟨_, _, _, _, e2, _⟩, _⟩ := h; subst e e2; rfl)) (fun X W g => d_law Z (A_ldraw.mono (by decide)) (A_lword.mono (by decide)) (A_lwords.mono (by decide)) ((A_lsub 50).mono (by decide)) ((A_superwords 8).mono (by decide)) (A_lleast_words.mono (by decide)) g) (bodyN rfl b_law)
  exact A_law.mono (by decide)
end U
open PySem PySem.W PySem.Calls PyProof.Rows
theorem PySem.Challenge.cw_upwall_k03_least_superwords_holds : PySem.Challenge.rw_upwall_k03_least_superwords.Holds := by
  w_on; o_law
  refine HandSHeadRun.head_any (r := OpenLaw.row PySem.Challenge.rw_upwall_k03_least_superwords) (q := view (OpenLaw.row PySem.Challenge.rw_upwall_k03_least_superwords).prog [10]) (H := U.hk) (ob := U.ob) (M := 600) (loose := U.loose) (d := HandSHeadRun.topDef (OpenLaw.row PySem.Challenge.rw_upwall_k03_least_superwords).prog 10) (kwd := []) U.ob_eq
    (by kernel_rfl) (fun s => by kernel_rfl) U.run (by kernel_rfl) (by kernel_rfl) (by kernel_rfl) (by rfl) (by first | assumption | decide +kernel) (by decide +kernel) ⟨rfl, rfl, rfl, rfl, rfl, by decide +kernel⟩ ?hw ?hc
  case hw => w_witness2
  case hc =>
    refine LamX.walk_ofTsE (l := PySem.Challenge.rw_upwall_k03_least_superwords) (n := 63) (k := 55) (x := "_law_script") (CX := fun w => L2.CX (PySem.Challenge.rw_upwall_k03_least_superwords).prog w) rfl (by decide) (by kernel_rfl) ⟨rfl, by decide, by decide⟩ ?F (fun w H s e s' z => U.cx_no _ w H s e s' z)
    intro w mg fa h Y G hmg0
    obtain ⟨K, KX, c⟩ := Y
    have hmg : mg ("law" : PySem.Str) = some (.ref fa) := by
      have e : (HandSHeadRun.topDef (OpenLaw.row PySem.Challenge.rw_upwall_k03_least_superwords).prog 10).name = ("law" : PySem.Str) := by kernel_rfl
      rw [← e]
      exact hmg0
    exact ⟨K, KX, U.all_holds KX G c hmg⟩
