import PyProof.Rows.All
import Wide.All
import OpenK.AllK
import Wide.FinOn
import HandS.ForMost
import HandS.ForExc
import HandS.AnyAll
import HandS.TupAny
import HandS.Wide
import HandS.IsInst
import HandS.Deep
import HandS.TupMul
import HandS.Style
import HandS.Zip
import HandS.Rev
import HandS.TupLe
import PyProof.Rows.SeqMore
import HandS.HeadHook2
import HandS.HeadWalk
import HandS.HeadHook4
import PySem.Challenge.RW_upwall_k05_patterns
import HandS.Head2
set_option Elab.async false
set_option linter.all false
set_option maxRecDepth 100000
set_option maxHeartbeats 1000000
/-! U1: pure data over the hand layer: D, the store, the judgements DE, DT, DA, DS. -/
namespace U
open PySem PySem.Spec PyProof.Rows L2

/-! ### data -/
inductive D where
  | non | bl (b : Bool) | int (i : Int) | str (x : Str) | tup (ds : List D) | lst (ds : List D) | loc (a : Addr) | ty (n : String)
  deriving Inhabited

mutual
def D.pd : D → PyData
  | .non => .none
  | .bl b => .bool b
  | .int i => .int i
  | .str x => .str x
  | .tup ds => .tuple (D.pds ds)
  | .lst ds => .list (D.pds ds)
  | .loc _ => .none
  | .ty _ => .none
def D.pds : List D → List PyData
  | [] => []
  | d :: ds => D.pd d :: D.pds ds
end
/-- depth at most n, no address within -/
def dle : Nat → D → Bool
  | _, .non => true
  | _, .bl _ => true
  | _, .int _ => true
  | _, .str x => PyData.strOk x
  | 0, .tup _ => false
  | 0, .lst _ => false
  | n + 1, .tup ds => ds.all (dle n)
  | n + 1, .lst ds => ds.all (dle n)
  | _, .loc _ => false
  | _, .ty _ => false
def eqD (x y : D) : Bool := PyData.eqv x.pd y.pd

/-- what stands at an address that may be written -/
inductive MO where
  | lst (ds : List D)
  | dct (kvs : List (D × D))
  | ins (C : Addr) (fs : List (Str × D))
  deriving Inhabited
abbrev Mu := Addr → Option MO
abbrev Env' := List (Option D)
def mset (M : Mu) (a : Addr) (m : MO) : Mu := fun b => if b = a then some m else M b
def mdel (M : Mu) (a : Addr) : Mu := fun b => if b = a then none else M b
/-- what a caller knows again behind a call: the objects that it knew -/
def mres (M' M : Mu) : Mu := fun b => match M b with | none => none | some _ => M' b
theorem mset_same {M : Mu} {a : Addr} {m : MO} : mset M a m a = some m := by unfold mset; rw [if_pos rfl]
theorem mset_ne {M : Mu} {a b : Addr} {m : MO} (h : b ≠ a) : mset M a m b = M b := by unfold mset; rw [if_neg h]
theorem mdel_same {M : Mu} {a : Addr} : mdel M a a = none := by unfold mdel; rw [if_pos rfl]
theorem mdel_ne {M : Mu} {a b : Addr} (h : b ≠ a) : mdel M a b = M b := by unfold mdel; rw [if_neg h]
theorem mres_self {M : Mu} : mres M M = M := by
  funext b; unfold mres; cases h : M b <;> rfl
theorem mres_mset {M M' : Mu} {a : Addr} {m : MO} (h : M a = none) : mres (mset M' a m) M = mres M' M := by
  funext b; unfold mres
  by_cases e : b = a
  · subst e; rw [h]
  · rw [mset_ne e]
theorem mres_mset_in {M M' : Mu} {a : Addr} {m n : MO} (h : M a = some n) : mres (mset M' a m) M = mset (mres M' M) a m := by
  funext b; unfold mres mset
  by_cases e : b = a
  · subst e; rw [h]; simp
  · simp only [if_neg e]
theorem mres_mdel {M M' : Mu} {a : Addr} (h : M a = none) : mres (mdel M' a) M = mres M' M := by
  funext b; unfold mres
  by_cases e : b = a
  · subst e; rw [h]
  · rw [mdel_ne e]
theorem mset_mset {M : Mu} {a : Addr} {m n : MO} : mset (mset M a m) a n = mset M a n := by
  funext b; unfold mset; split <;> rfl
theorem mdel_mset {M : Mu} {a : Addr} {m : MO} (h : M a = none) : mdel (mset M a m) a = M := by
  funext b; unfold mdel mset
  by_cases e : b = a
  · subst e; simp [h]
  · simp only [if_neg e]

/-! ### values and data -/
/-- a list that is not written any more -/
def FzL (K : PySem.W.Frag) (hid : List Addr) (H : Hp) (M : Mu) (a : Addr) (xs : List V) : Prop :=
  (H a = some (.lst xs) ∧ M a = none ∧ a ∉ hid) ∨ (∃ o, H a = some (.frz o (.lst xs))) ∨
    ∃ (o : Obj) (its : Array Value) (n : Nat), K.lookup a = some o ∧ o.cls = .type "list" ∧ o.dict = none ∧ o.data = .seq its n ∧ its.size ≤ sizeLine ∧ Vals xs its.toList
theorem FzL.sq {K : PySem.W.Frag} {hid : List Addr} {H : Hp} {M : Mu} {a : Addr} {xs : List V} (h : FzL K hid H M a xs) : SqL K H a xs := by
  rcases h with h | h | h
  · exact .inl (.inl h.1)
  · exact .inl (.inr h)
  · exact .inr h
mutual
inductive Rv (K : PySem.W.Frag) (hid : List Addr) (H : Hp) (M : Mu) : V → D → Prop
  | non : Rv K hid H M .non .non
  | bl (b : Bool) : Rv K hid H M (.bl b) (.bl b)
  | int (i : Int) : Rv K hid H M (.int i) (.int i)
  | str (x : Str) : Rv K hid H M (.str x) (.str x)
  | tup {a : Addr} {xs : List V} {ds : List D} (h : SqT K H a xs) (r : Rvs K hid H M xs ds) : Rv K hid H M (.ref a) (.tup ds)
  | lst {a : Addr} {xs : List V} {ds : List D} (h : FzL K hid H M a xs) (r : Rvs K hid H M xs ds) : Rv K hid H M (.ref a) (.lst ds)
  | loc (a : Addr) : Rv K hid H M (.ref a) (.loc a)
  | ty (n : String) : Rv K hid H M (.ty n) (.ty n)
inductive Rvs (K : PySem.W.Frag) (hid : List Addr) (H : Hp) (M : Mu) : List V → List D → Prop
  | nil : Rvs K hid H M [] []
  | cons {v : V} {vs : List V} {d : D} {ds : List D} (h : Rv K hid H M v d) (r : Rvs K hid H M vs ds) : Rvs K hid H M (v :: vs) (d :: ds)
end
/-- what is kept from one place of a run to a later one -/
structure Ext (hid : List Addr) (H : Hp) (M : Mu) (H' : Hp) (M' : Mu) : Prop where
  tup : ∀ a xs, H a = some (.tup xs) → H' a = some (.tup xs)
  frz : ∀ a o u, H a = some (.frz o u) → H' a = some (.frz o u)
  lst : ∀ a xs, H a = some (.lst xs) → M a = none → a ∉ hid → H' a = some (.lst xs) ∧ M' a = none
  hid : ∀ a ∈ hid, H' a = H a
  dom : ∀ a, H a ≠ none → H' a ≠ none
theorem Ext.refl (hid : List Addr) (H : Hp) (M : Mu) : Ext hid H M H M := ⟨fun _ _ h => h, fun _ _ _ h => h, fun _ _ h h' _ => ⟨h, h'⟩, fun _ _ => rfl, fun _ h => h⟩
theorem Ext.trans {hid : List Addr} {H H1 H2 : Hp} {M M1 M2 : Mu} (a : Ext hid H M H1 M1) (b : Ext hid H1 M1 H2 M2) : Ext hid H M H2 M2 :=
  ⟨fun x xs h => b.tup _ _ (a.tup x xs h), fun x o u h => b.frz _ _ _ (a.frz x o u h), fun x xs h h' z => let ⟨p, q⟩ := a.lst x xs h h' z; b.lst x xs p q z, fun x hx => (b.hid x hx).trans (a.hid x hx), fun x h => b.dom x (a.dom x h)⟩
theorem upd_dom {H : Hp} {p : Addr} {o : HO} (a : Addr) (h : H a ≠ none) : upd H p o a ≠ none := by
  by_cases e : a = p
  · subst e; rw [upd_same]; exact fun z => nomatch z
  · rw [upd_ne e]; exact h
section
variable {K : PySem.W.Frag} {hid : List Addr} {H H' : Hp} {M M' : Mu}
theorem Ext.sqT (e : Ext hid H M H' M') {a : Addr} {xs : List V} (h : SqT K H a xs) : SqT K H' a xs := by
  rcases h with (h | ⟨o, h⟩) | h
  · exact .inl (.inl (e.tup _ _ h))
  · exact .inl (.inr ⟨o, e.frz _ _ _ h⟩)
  · exact .inr h
theorem Ext.fzL (e : Ext hid H M H' M') {a : Addr} {xs : List V} (h : FzL K hid H M a xs) : FzL K hid H' M' a xs := by
  rcases h with h | ⟨o, h⟩ | h
  · obtain ⟨h1, h2, h3⟩ := h
    obtain ⟨p, q⟩ := e.lst _ _ h1 h2 h3
    exact .inl ⟨p, q, h3⟩
  · exact .inr (.inl ⟨o, e.frz _ _ _ h⟩)
  · exact .inr (.inr h)
mutual
theorem Ext.rv (e : Ext hid H M H' M') : ∀ (d : D) (v : V), Rv K hid H M v d → Rv K hid H' M' v d
  | .non, _, h => by cases h; exact .non
  | .bl b, _, h => by cases h; exact .bl b
  | .int i, _, h => by cases h; exact .int i
  | .str x, _, h => by cases h; exact .str x
  | .tup ds, _, h => by
    cases h with
    | tup h r => exact .tup (e.sqT h) (Ext.rvs e ds _ r)
  | .lst ds, _, h => by
    cases h with
    | lst h r => exact .lst (e.fzL h) (Ext.rvs e ds _ r)
  | .loc a, _, h => by cases h; exact .loc a
  | .ty n, _, h => by cases h; exact .ty n
theorem Ext.rvs (e : Ext hid H M H' M') : ∀ (ds : List D) (vs : List V), Rvs K hid H M vs ds → Rvs K hid H' M' vs ds
  | [], _, h => by cases h; exact .nil
  | d :: ds, _, h => by
    cases h with
    | cons h r => exact .cons (Ext.rv e d _ h) (Ext.rvs e ds _ r)
end
theorem Rvs.length : ∀ {vs : List V} {ds : List D}, Rvs K hid H M vs ds → vs.length = ds.length
  | _, _, .nil => rfl
  | _, _, .cons _ r => by rw [List.length_cons, List.length_cons, Rvs.length r]
theorem Rvs.get : ∀ {vs : List V} {ds : List D}, Rvs K hid H M vs ds → ∀ (i : Nat) {d : D}, ds[i]? = some d → ∃ v, vs[i]? = some v ∧ Rv K hid H M v d
  | _, _, .nil, _, _, e => by simp at e
  | _, _, .cons h r, 0, d, e => by simp at e; subst e; exact ⟨_, rfl, h⟩
  | _, _, .cons h r, i + 1, d, e => by
    obtain ⟨v, h1, h2⟩ := Rvs.get r i (d := d) (by simpa using e)
    exact ⟨v, by simpa using h1, h2⟩
theorem Rvs.append : ∀ {vs ws : List V} {ds es : List D}, Rvs K hid H M vs ds → Rvs K hid H M ws es → Rvs K hid H M (vs ++ ws) (ds ++ es)
  | _, _, _, _, .nil, s => s
  | _, _, _, _, .cons h r, s => .cons h (Rvs.append r s)
theorem Rvs.set : ∀ {vs : List V} {ds : List D} {v : V} {d : D} (i : Nat), Rvs K hid H M vs ds → Rv K hid H M v d → Rvs K hid H M (vs.set i v) (ds.set i d)
  | _, _, _, _, _, .nil, _ => .nil
  | _, _, _, _, 0, .cons _ r, q => .cons q r
  | _, _, _, _, i + 1, .cons h r, q => .cons h (Rvs.set i r q)
theorem Rvs.take : ∀ {vs : List V} {ds : List D} (n : Nat), Rvs K hid H M vs ds → Rvs K hid H M (vs.take n) (ds.take n)
  | _, _, 0, _ => by simp; exact .nil
  | _, _, _ + 1, .nil => .nil
  | _, _, n + 1, .cons h r => .cons h (Rvs.take n r)
theorem Rvs.drop : ∀ {vs : List V} {ds : List D} (n : Nat), Rvs K hid H M vs ds → Rvs K hid H M (vs.drop n) (ds.drop n)
  | _, _, 0, r => r
  | _, _, _ + 1, .nil => .nil
  | _, _, n + 1, .cons _ r => Rvs.drop n r
theorem Rvs.eraseIdx : ∀ {vs : List V} {ds : List D} (n : Nat), Rvs K hid H M vs ds → Rvs K hid H M (vs.eraseIdx n) (ds.eraseIdx n)
  | _, _, _, .nil => .nil
  | _, _, 0, .cons _ r => r
  | _, _, n + 1, .cons h r => .cons h (Rvs.eraseIdx n r)
theorem Rvs.dropLast {vs : List V} {ds : List D} (h : Rvs K hid H M vs ds) : Rvs K hid H M vs.dropLast ds.dropLast := by
  rw [List.dropLast_eq_take, List.dropLast_eq_take, h.length]; exact h.take _
theorem Rvs.reverse : ∀ {vs : List V} {ds : List D}, Rvs K hid H M vs ds → Rvs K hid H M vs.reverse ds.reverse
  | _, _, .nil => .nil
  | _, _, .cons h r => by
    rw [List.reverse_cons, List.reverse_cons]
    exact (Rvs.reverse r).append (.cons h .nil)
theorem Rvs.rep {vs : List V} {ds : List D} (h : Rvs K hid H M vs ds) : ∀ k : Nat, Rvs K hid H M (List.replicate k vs).flatten (List.replicate k ds).flatten
  | 0 => .nil
  | k + 1 => by
    simp only [List.replicate_succ, List.flatten_cons]
    exact h.append (Rvs.rep h k)
/-- forgetting more of the store -/
theorem Ext.less (h : ∀ a, M a = none → M' a = none) : Ext hid H M H M' := ⟨fun _ _ h => h, fun _ _ _ h => h, fun a _ q z _ => ⟨q, h a z⟩, fun _ _ => rfl, fun _ h => h⟩

mutual
theorem Rv.dp : ∀ (d : D) (n : Nat) (v : V), dle n d = true → Rv K hid H M v d → Dp K H v d.pd
  | .non, _, _, _, h => by cases h; exact .non
  | .bl b, _, _, _, h => by cases h; exact .bl b
  | .int i, _, _, _, h => by cases h; exact .int i
  | .str x, _, _, _, h => by cases h; exact .str x
  | .tup ds, 0, _, q, h => by simp [dle] at q
  | .lst ds, 0, _, q, h => by simp [dle] at q
  | .tup ds, n + 1, _, q, h => by
    cases h with
    | tup h r => exact .tup h (Rvs.dp ds n _ (by simpa only [dle] using q) r)
  | .lst ds, n + 1, _, q, h => by
    cases h with
    | lst h r => exact .lst h.sq (Rvs.dp ds n _ (by simpa only [dle] using q) r)
  | .loc a, n, _, q, h => by cases n <;> simp [dle] at q
  | .ty a, n, _, q, h => by cases n <;> simp [dle] at q
theorem Rvs.dp : ∀ (ds : List D) (n : Nat) (vs : List V), ds.all (dle n) = true → Rvs K hid H M vs ds → DpAll K H vs (D.pds ds)
  | [], _, _, _, h => by cases h; exact .nil
  | d :: ds, n, _, q, h => by
    cases h with
    | cons h r =>
      rw [List.all_cons, Bool.and_eq_true] at q
      exact .cons (Rv.dp d n _ q.1 h) (Rvs.dp ds n _ q.2 r)
end
mutual
theorem dle_depth : ∀ (d : D) (n : Nat), dle n d = true → d.pd.canLay0 = true ∧ d.pd.depth ≤ n
  | .non, n, _ => by simp [D.pd, PyData.canLay0, PyData.depth]
  | .bl b, n, _ => by simp [D.pd, PyData.canLay0, PyData.depth]
  | .int i, n, _ => by simp [D.pd, PyData.canLay0, PyData.depth]
  | .str x, n, q => by cases n <;> simp [dle] at q <;> simp [D.pd, PyData.canLay0, PyData.depth, q]
  | .tup ds, 0, q => by simp [dle] at q
  | .lst ds, 0, q => by simp [dle] at q
  | .tup ds, n + 1, q => by
    obtain ⟨h1, h2⟩ := dles_depth ds n (by simpa only [dle] using q)
    simp only [D.pd, PyData.canLay0, PyData.depth]
    exact ⟨h1, by omega⟩
  | .lst ds, n + 1, q => by
    obtain ⟨h1, h2⟩ := dles_depth ds n (by simpa only [dle] using q)
    simp only [D.pd, PyData.canLay0, PyData.depth]
    exact ⟨h1, by omega⟩
  | .loc a, n, q => by cases n <;> simp [dle] at q
  | .ty a, n, q => by cases n <;> simp [dle] at q
theorem dles_depth : ∀ (ds : List D) (n : Nat), ds.all (dle n) = true → PyData.canLayAll0 (D.pds ds) = true ∧ PyData.depthAll (D.pds ds) ≤ n
  | [], n, _ => by simp [D.pds, PyData.canLayAll0, PyData.depthAll]
  | d :: ds, n, q => by
    rw [List.all_cons, Bool.and_eq_true] at q
    obtain ⟨h1, h2⟩ := dle_depth d n q.1
    obtain ⟨h3, h4⟩ := dles_depth ds n q.2
    simp only [D.pds, PyData.canLayAll0, PyData.depthAll, h1, h3, Bool.and_true, true_and]
    omega
end
theorem dle_shaped {d : D} (h : dle 60 d = true) : SeqAt.shaped d.pd = true := by
  obtain ⟨h1, h2⟩ := dle_depth d 60 h
  unfold SeqAt.shaped
  rw [h1, Bool.true_and]
  exact decide_eq_true (by omega)
end
end U

set_option Elab.async false
set_option linter.all false
set_option maxRecDepth 100000
set_option maxHeartbeats 1000000
/-! U2: what holds of a place of a run; the judgements; names, constants, operators, tests, displays. -/
namespace U
open PySem PySem.Spec PyProof.Rows L2

structure XD where
  C : Addr
  fs : List (Str × D)
def XR (K : PySem.W.Frag) (hid : List Addr) (H : Hp) (M : Mu) (cls : Value) (dd : Option Addr) (x : XD) : Prop :=
  cls = .ref x.C ∧ (x.fs = [] ∨ ∃ d fvs, dd = some d ∧ H d = some (.xd fvs) ∧ fvs.map (·.1) = x.fs.map (·.1) ∧ Rvs K hid H M (fvs.map (·.2)) (x.fs.map (·.2)))

def MOk (K : PySem.W.Frag) (hid : List Addr) (H : Hp) (M : Mu) (a : Addr) : MO → Prop
  | .lst ds => ∃ xs, H a = some (.lst xs) ∧ Rvs K hid H M xs ds
  | .dct _ => False
  | .ins C fs => ∃ dx fvs, H a = some (.ins C dx fvs) ∧ fvs.map (·.1) = fs.map (·.1) ∧ Rvs K hid H M (fvs.map (·.2)) (fs.map (·.2))
structure Sto (K : PySem.W.Frag) (T : List Addr) (hid : List Addr) (H : Hp) (M : Mu) : Prop where
  mem : ∀ a m, M a = some m → MOk K hid H M a m
  tab : ∀ P ∈ T, GxR.TabG H P
  hidn : ∀ a ∈ hid, M a = none ∧ H a ≠ none
def REnv (K : PySem.W.Frag) (hid : List Addr) (H : Hp) (M : Mu) (σ : L2.St) (ρ : Env') : Prop :=
  ρ.length = σ.length ∧ ∀ (i : Nat) (d : D), ρ[i]? = some (some d) → ∃ v, σ[i]? = some (some v) ∧ Rv K hid H M v d

abbrev XW := XD → Mu → Prop
abbrev FE := XW → Env' → Mu → (D → Mu → Prop) → Prop
abbrev FT := XW → Env' → Mu → (Bool → Mu → Prop) → Prop
abbrev FA := XW → Env' → Mu → (List D → Mu → Prop) → Prop
structure FEnds where
  nx : Env' → Mu → Prop
  rt : D → Mu → Prop
  bk : Env' → Mu → Prop := fun _ _ => False
  ct : Env' → Mu → Prop := fun _ _ => False
  xw : XD → Env' → Mu → Prop := fun _ _ _ => False
abbrev FS := FEnds → Env' → Mu → Prop

section
variable (K : PySem.W.Frag) (T hid : List Addr) (W : WX)
/-- the wish about exceptions, at the slots σ -/
def WOk (σ : L2.St) (H : Hp) (M : Mu) (xw : XW) : Prop :=
  ∀ cls dd H' M' xd, Sto K T hid H' M' → Ext hid H M H' M' → XR K hid H' M' cls dd xd → xw xd M' → W cls dd σ H'
def WOkS (H : Hp) (M : Mu) (xw : XD → Env' → Mu → Prop) : Prop :=
  ∀ cls dd σ' H' ρ' M' xd, REnv K hid H' M' σ' ρ' → Sto K T hid H' M' → Ext hid H M H' M' → XR K hid H' M' cls dd xd → xw xd ρ' M' → W cls dd σ' H'
def Pst (H : Hp) (M : Mu) (Q : D → Mu → Prop) (Qv : VK) : Prop :=
  ∀ v H' d M', Sto K T hid H' M' → Ext hid H M H' M' → Rv K hid H' M' v d → Q d M' → Qv v H'
def PstB (H : Hp) (M : Mu) (Q : Bool → Mu → Prop) (Qv : Bool → Hp → Prop) : Prop :=
  ∀ b H' M', Sto K T hid H' M' → Ext hid H M H' M' → Q b M' → Qv b H'
def PstA (H : Hp) (M : Mu) (Q : List D → Mu → Prop) (Qv : List V → Hp → Prop) : Prop :=
  ∀ vs H' ds M', Sto K T hid H' M' → Ext hid H M H' M' → Rvs K hid H' M' vs ds → Q ds M' → Qv vs H'
structure EndsOk (H : Hp) (M : Mu) (E : FEnds) (D : Ends) : Prop where
  nx : ∀ σ' H' ρ' M', REnv K hid H' M' σ' ρ' → Sto K T hid H' M' → Ext hid H M H' M' → E.nx ρ' M' → D.nx σ' H'
  rt : Pst K T hid H M E.rt D.rt
  bk : ∀ σ' H' ρ' M', REnv K hid H' M' σ' ρ' → Sto K T hid H' M' → Ext hid H M H' M' → E.bk ρ' M' → D.bk σ' H'
  ct : ∀ σ' H' ρ' M', REnv K hid H' M' σ' ρ' → Sto K T hid H' M' → Ext hid H M H' M' → E.ct ρ' M' → D.ct σ' H'
end
def ESim (K : PySem.W.Frag) (T : List Addr) (W : WX) (t : TE) (f : FE) : Prop :=
  ∀ hid σ H ρ M xw Q Qv, REnv K hid H M σ ρ → Sto K T hid H M → WOk K T hid W σ H M xw → f xw ρ M Q → Pst K T hid H M Q Qv → t σ H Qv
def TSim (K : PySem.W.Frag) (T : List Addr) (W : WX) (t : TT) (f : FT) : Prop :=
  ∀ hid σ H ρ M xw Q Qv, REnv K hid H M σ ρ → Sto K T hid H M → WOk K T hid W σ H M xw → f xw ρ M Q → PstB K T hid H M Q Qv → t σ H Qv
def ASim (K : PySem.W.Frag) (T : List Addr) (W : WX) (t : TA) (f : FA) : Prop :=
  ∀ hid σ H ρ M xw Q Qv, REnv K hid H M σ ρ → Sto K T hid H M → WOk K T hid W σ H M xw → f xw ρ M Q → PstA K T hid H M Q Qv → t σ H Qv
def SSim (K : PySem.W.Frag) (T : List Addr) (W : WX) (t : TS) (f : FS) : Prop :=
  ∀ hid σ H ρ M E D, REnv K hid H M σ ρ → Sto K T hid H M → WOkS K T hid W H M E.xw → f E ρ M → EndsOk K T hid H M E D → t D σ H

def DE (X : Cx) (T : List Addr) (W : WX) (e : Expr) (f : FE) : Prop := ∃ t, PE X e t ∧ ESim X.K T W t f
def DT (X : Cx) (T : List Addr) (W : WX) (e : Expr) (f : FT) : Prop := ∃ t, PT X e t ∧ TSim X.K T W t f
def DW (X : Cx) (T : List Addr) (W : WX) (e : Expr) (f : FT) : Prop := ∃ t, PW X e t ∧ TSim X.K T W t f
def DA (X : Cx) (T : List Addr) (W : WX) (es : List Expr) (f : FA) : Prop := ∃ t, PA X es t ∧ ASim X.K T W t f
def DS (X : Cx) (T : List Addr) (W : WX) (st : Stmt) (f : FS) : Prop := ∃ t, PS X st t ∧ SSim X.K T W t f
def DSs (X : Cx) (T : List Addr) (W : WX) (sts : List Stmt) (f : FS) : Prop := ∃ t, PSs X sts t ∧ SSim X.K T W t f

section
variable {K : PySem.W.Frag} {T hid : List Addr} {W : WX} {H H' H1 : Hp} {M M' M1 : Mu} {σ : L2.St} {ρ : Env'}
theorem REnv.ext (r : REnv K hid H M σ ρ) (e : Ext hid H M H' M') : REnv K hid H' M' σ ρ :=
  ⟨r.1, fun i d h => let ⟨v, h1, h2⟩ := r.2 i d h; ⟨v, h1, e.rv _ _ h2⟩⟩
theorem REnv.set (r : REnv K hid H M σ ρ) {v : V} {d : D} (i : Nat) (h : Rv K hid H M v d) : REnv K hid H M (σ.set i (some v)) (ρ.set i (some d)) := by
  refine ⟨by rw [List.length_set, List.length_set]; exact r.1, fun j c hj => ?_⟩
  by_cases e : i = j
  · subst e
    by_cases hl : i < ρ.length
    · rw [List.getElem?_set_self hl] at hj
      cases hj
      exact ⟨v, List.getElem?_set_self (by rw [← r.1]; exact hl), h⟩
    · rw [List.getElem?_eq_none (by rw [List.length_set]; omega)] at hj; cases hj
  · rw [List.getElem?_set_ne e] at hj
    obtain ⟨w, h1, h2⟩ := r.2 j c hj
    exact ⟨w, by rw [List.getElem?_set_ne e]; exact h1, h2⟩
theorem WOk.ext {xw : XW} (w : WOk K T hid W σ H M xw) (e : Ext hid H M H' M') : WOk K T hid W σ H' M' xw :=
  fun cls dd H1 M1 xd s e1 => w cls dd H1 M1 xd s (e.trans e1)
theorem WOkS.ext {xw : XD → Env' → Mu → Prop} (w : WOkS K T hid W H M xw) (e : Ext hid H M H' M') : WOkS K T hid W H' M' xw :=
  fun cls dd σ1 H1 ρ1 M1 xd r s e1 => w cls dd σ1 H1 ρ1 M1 xd r s (e.trans e1)
theorem WOkS.at {xw : XD → Env' → Mu → Prop} (w : WOkS K T hid W H M xw) (r : REnv K hid H M σ ρ) : WOk K T hid W σ H M (fun xd M' => xw xd ρ M') :=
  fun cls dd H1 M1 xd s e x q => w cls dd σ H1 ρ M1 xd (r.ext e) s e x q
theorem Pst.ext {Q : D → Mu → Prop} {Qv : VK} (p : Pst K T hid H M Q Qv) (e : Ext hid H M H' M') : Pst K T hid H' M' Q Qv := fun v H1 d M1 s e1 => p v H1 d M1 s (e.trans e1)
theorem EndsOk.ext {E : FEnds} {D : Ends} (p : EndsOk K T hid H M E D) (e : Ext hid H M H' M') : EndsOk K T hid H' M' E D :=
  ⟨fun σ1 H1 ρ1 M1 r s e1 => p.nx σ1 H1 ρ1 M1 r s (e.trans e1), p.rt.ext e, fun σ1 H1 ρ1 M1 r s e1 => p.bk σ1 H1 ρ1 M1 r s (e.trans e1), fun σ1 H1 ρ1 M1 r s e1 => p.ct σ1 H1 ρ1 M1 r s (e.trans e1)⟩

/-! ### new objects -/
theorem Sto.fresh (s : Sto K T hid H M) {p : Addr} (hp : H p = none) : M p = none ∧ p ∉ hid := by
  refine ⟨?_, fun h => (s.hidn p h).2 hp⟩
  cases q : M p with
  | none => rfl
  | some m =>
    have := s.mem p m q
    cases m with
    | lst ds => obtain ⟨xs, e, _⟩ := this; rw [hp] at e; cases e
    | dct kvs => exact this.elim
    | ins C fs => obtain ⟨dx, fvs, e, _⟩ := this; rw [hp] at e; cases e
theorem MOk.ext (e : Ext hid H M H' M') {a : Addr} {m : MO} (h : MOk K hid H M a m) (k : H' a = H a) : MOk K hid H' M' a m := by
  cases m with
  | lst ds => obtain ⟨xs, h1, h2⟩ := h; exact ⟨xs, by rw [k]; exact h1, e.rvs _ _ h2⟩
  | dct kvs => exact h
  | ins C fs => obtain ⟨dx, fvs, h1, h3, h2⟩ := h; exact ⟨dx, fvs, by rw [k]; exact h1, h3, e.rvs _ _ h2⟩
theorem Ext.new (s : Sto K T hid H M) {p : Addr} {o : HO} (hp : H p = none) : Ext hid H M (upd H p o) M :=
  ⟨fun a xs h => by rw [upd_ne (ne_of_none h hp)]; exact h, fun a o u h => by rw [upd_ne (ne_of_none h hp)]; exact h,
   fun a xs h h' z => ⟨by rw [upd_ne (ne_of_none h hp)]; exact h, h'⟩, fun a ha => by rw [upd_ne]; intro e; subst e; exact (s.hidn _ ha).2 hp, fun a h => upd_dom a h⟩
theorem Sto.new (s : Sto K T hid H M) {p : Addr} {o : HO} (hp : H p = none) : Sto K T hid (upd H p o) M := by
  refine ⟨fun a m h => ?_, fun P hP => ?_, fun a ha => ?_⟩
  · have hne : a ≠ p := by rintro rfl; rw [(s.fresh hp).1] at h; cases h
    exact (s.mem a m h).ext (Ext.new s hp) (upd_ne hne)
  · obtain ⟨ps, h1, h2⟩ := s.tab P hP
    exact ⟨ps, by rw [upd_ne (ne_of_none h1 hp)]; exact h1, h2⟩
  · obtain ⟨h1, h2⟩ := s.hidn a ha
    refine ⟨h1, ?_⟩
    by_cases e : a = p
    · subst e; exact absurd hp h2
    · rw [upd_ne e]; exact h2
theorem new_tup {Q : D → Mu → Prop} {Qv : VK} (s : Sto K T hid H M) (po : Pst K T hid H M Q Qv) {xs : List V} {ds : List D} (r : Rvs K hid H M xs ds) {p : Addr} (hp : H p = none) (q : Q (.tup ds) M) : Qv (.ref p) (upd H p (.tup xs)) :=
  po _ _ _ _ (s.new hp) (Ext.new s hp) (.tup (SqT.of upd_same) ((Ext.new s hp).rvs _ _ r)) q
theorem new_lst {Q : D → Mu → Prop} {Qv : VK} (s : Sto K T hid H M) (po : Pst K T hid H M Q Qv) {xs : List V} {ds : List D} (r : Rvs K hid H M xs ds) {p : Addr} (hp : H p = none) (q : Q (.lst ds) M) : Qv (.ref p) (upd H p (.lst xs)) :=
  po _ _ _ _ (s.new hp) (Ext.new s hp) (.lst (.inl ⟨upd_same, s.fresh hp⟩) ((Ext.new s hp).rvs _ _ r)) q
/-- a new list that is to be written -/
theorem Ext.own (s : Sto K T hid H M) {p : Addr} {m : MO} {o : HO} (hp : H p = none) : Ext hid H M (upd H p o) (mset M p m) :=
  ⟨fun a xs h => by rw [upd_ne (ne_of_none h hp)]; exact h, fun a o u h => by rw [upd_ne (ne_of_none h hp)]; exact h,
   fun a xs h h' z => ⟨by rw [upd_ne (ne_of_none h hp)]; exact h, by rw [mset_ne (ne_of_none h hp)]; exact h'⟩, fun a ha => by rw [upd_ne]; intro e; subst e; exact (s.hidn _ ha).2 hp, fun a h => upd_dom a h⟩
theorem Sto.own (s : Sto K T hid H M) {p : Addr} {xs : List V} {ds : List D} (hp : H p = none) (r : Rvs K hid H M xs ds) : Sto K T hid (upd H p (.lst xs)) (mset M p (.lst ds)) := by
  have e := Ext.own (m := .lst ds) (o := .lst xs) s hp
  refine ⟨fun a m h => ?_, fun P hP => ?_, fun a ha => ?_⟩
  · by_cases hne : a = p
    · subst hne; rw [mset_same] at h; cases h
      exact ⟨xs, upd_same, e.rvs _ _ r⟩
    · rw [mset_ne hne] at h
      exact (s.mem a m h).ext e (upd_ne hne)
  · obtain ⟨ps, h1, h2⟩ := s.tab P hP
    exact ⟨ps, by rw [upd_ne (ne_of_none h1 hp)]; exact h1, h2⟩
  · obtain ⟨h1, h2⟩ := s.hidn a ha
    have hne : a ≠ p := by rintro rfl; exact h2 hp
    exact ⟨by rw [mset_ne hne]; exact h1, by rw [upd_ne hne]; exact h2⟩
/-- a list that is written is not written any more -/
theorem Ext.frees (hne : M ≠ M ∨ True) {p : Addr} : Ext hid H M H (mdel M p) :=
  ⟨fun _ _ h => h, fun _ _ _ h => h, fun a xs h h' _ => ⟨h, by unfold mdel; split <;> first | rfl | exact h'⟩, fun _ _ => rfl, fun _ h => h⟩
theorem Sto.frees (s : Sto K T hid H M) (p : Addr) : Sto K T hid H (mdel M p) := by
  have e : Ext hid H M H (mdel M p) := Ext.frees (.inr trivial)
  refine ⟨fun a m h => ?_, s.tab, fun a ha => ?_⟩
  · have hne : a ≠ p := by rintro rfl; rw [mdel_same] at h; cases h
    rw [mdel_ne hne] at h
    exact (s.mem a m h).ext e rfl
  · obtain ⟨h1, h2⟩ := s.hidn a ha
    exact ⟨by unfold mdel; split <;> first | rfl | exact h1, h2⟩
/-- a list is written -/
theorem Sto.at (s : Sto K T hid H M) {p : Addr} {ds : List D} (h : M p = some (.lst ds)) : ∃ xs, H p = some (.lst xs) ∧ Rvs K hid H M xs ds ∧ p ∉ hid := by
  obtain ⟨xs, h1, h2⟩ := s.mem p _ h
  exact ⟨xs, h1, h2, fun z => by rw [(s.hidn p z).1] at h; cases h⟩
theorem Ext.wr (s : Sto K T hid H M) {p : Addr} {ds es : List D} {xs : List V} (h : M p = some (.lst ds)) : Ext hid H M (upd H p (.lst xs)) (mset M p (.lst es)) := by
  obtain ⟨ys, h1, _, h3⟩ := s.at h
  refine ⟨fun a zs q => ?_, fun a o u q => ?_, fun a zs q q' z => ?_, fun a ha => ?_, fun a h => upd_dom a h⟩
  · rw [upd_ne (by rintro rfl; rw [h1] at q; cases q)]; exact q
  · rw [upd_ne (by rintro rfl; rw [h1] at q; cases q)]; exact q
  · have hne : a ≠ p := by rintro rfl; rw [h] at q'; cases q'
    exact ⟨by rw [upd_ne hne]; exact q, by rw [mset_ne hne]; exact q'⟩
  · rw [upd_ne (by rintro rfl; exact h3 ha)]
theorem Sto.wr (s : Sto K T hid H M) {p : Addr} {ds es : List D} {xs : List V} (h : M p = some (.lst ds)) (r : Rvs K hid H M xs es) : Sto K T hid (upd H p (.lst xs)) (mset M p (.lst es)) := by
  have e := Ext.wr (es := es) (xs := xs) s h
  obtain ⟨ys, h1, _, h3⟩ := s.at h
  refine ⟨fun a m q => ?_, fun P hP => ?_, fun a ha => ?_⟩
  · by_cases hne : a = p
    · subst hne; rw [mset_same] at q; cases q
      exact ⟨xs, upd_same, e.rvs _ _ r⟩
    · rw [mset_ne hne] at q
      exact (s.mem a m q).ext e (upd_ne hne)
  · obtain ⟨ps, h4, h5⟩ := s.tab P hP
    exact ⟨ps, by rw [upd_ne (by rintro rfl; rw [h1] at h4; cases h4)]; exact h4, h5⟩
  · obtain ⟨h4, h5⟩ := s.hidn a ha
    have hne : a ≠ p := by rintro rfl; exact h3 ha
    exact ⟨by rw [mset_ne hne]; exact h4, by rw [upd_ne hne]; exact h5⟩
end

/-! ### names, constants -/
def fNm (i : Nat) : FE := fun _ ρ M Q => match ρ[i]? with
  | some (some d) => Q d M
  | _ => False
def fC (d : D) : FE := fun _ _ M Q => Q d M
section
variable {X : Cx} {T : List Addr} {W : WX}
theorem DE.mk {e : Expr} {t : TE} {f : FE} (h : PE X e t) (s : ESim X.K T W t f) : DE X T W e f := ⟨t, h, s⟩
theorem de_nm (i : Nat) {x : Str} {pos : Pos} (hN : X.N[i]? = some x) (hv : Vis X.env.scope x) (hd : (x == ("__debug__" : Str)) = false) (hcd : (x == ("__classdict__" : Str)) = false) : DE X T W (.Name x pos) (fNm i) := by
  refine ⟨_, pe_var hN hv hd hcd, fun hid σ H ρ M xw Q Qv r s w q p => ?_⟩
  unfold fNm at q
  split at q
  · rename_i d e
    obtain ⟨v, h1, h2⟩ := r.2 i d e
    exact ⟨v, h1, p v H d M s (Ext.refl _ _ _) h2 q⟩
  · exact q.elim
theorem de_int {i : Int} {j : Nat} {pos : Pos} : DE X T W (.Constant (.int i) j pos) (fC (.int i)) := ⟨_, pe_int, fun hid σ H ρ M xw Q Qv r s w q p => p _ H _ M s (Ext.refl _ _ _) (.int i) q⟩
theorem de_bl {b : Bool} {j : Nat} {pos : Pos} : DE X T W (.Constant (.bool b) j pos) (fC (.bl b)) := ⟨_, pe_bl, fun hid σ H ρ M xw Q Qv r s w q p => p _ H _ M s (Ext.refl _ _ _) (.bl b) q⟩
theorem de_non {j : Nat} {pos : Pos} : DE X T W (.Constant .none j pos) (fC .non) := ⟨_, pe_non, fun hid σ H ρ M xw Q Qv r s w q p => p _ H _ M s (Ext.refl _ _ _) .non q⟩
theorem de_str {x : Str} {j : Nat} {pos : Pos} : DE X T W (.Constant (.str x) j pos) (fC (.str x)) := ⟨_, pe_str, fun hid σ H ρ M xw Q Qv r s w q p => p _ H _ M s (Ext.refl _ _ _) (.str x) q⟩
/-- a module's whole number -/
theorem de_gint {i : Int} {t : Tok} {x : Str} {pos : Pos} (hg : Gl X x) (hm : X.mg x = some (.int i t)) (hd : (x == ("__debug__" : Str)) = false) : DE X T W (.Name x pos) (fC (.int i)) :=
  ⟨_, pe_glob (v := .int i) hg hm ⟨t, rfl⟩ hd, fun hid σ H ρ M xw Q Qv r s w q p => p _ H _ M s (Ext.refl _ _ _) (.int i) q⟩

/-! ### two values -/
abbrev G2 := D → D → Mu → (D → Mu → Prop) → Prop
def OSim (K : PySem.W.Frag) (T : List Addr) (r : R2) (g : G2) : Prop :=
  ∀ hid H M x y v w Q Qv, Sto K T hid H M → Rv K hid H M v x → Rv K hid H M w y → g x y M Q → Pst K T hid H M Q Qv → r v w H Qv
def fOp (g : G2) (fa fb : FE) : FE := fun xw ρ M Q => fa xw ρ M fun x M1 => fb xw ρ M1 fun y M2 => g x y M2 Q
theorem sim_op {K : PySem.W.Frag} {r : R2} {g : G2} {ta tb : TE} {fa fb : FE} (o : OSim K T r g) (a : ESim K T W ta fa) (b : ESim K T W tb fb) : ESim K T W (tOp r ta tb) (fOp g fa fb) := by
  intro hid σ H ρ M xw Q Qv r s w q p
  refine a hid σ H ρ M xw _ _ r s w q fun v H1 d M1 s1 e1 r1 q1 => ?_
  refine b hid σ H1 ρ M1 xw _ _ (r.ext e1) s1 (w.ext e1) q1 fun u H2 d2 M2 s2 e2 r2 q2 => ?_
  exact o hid H2 M2 d d2 v u Q Qv s2 (e2.rv _ _ r1) r2 q2 (p.ext (e1.trans e2))
theorem de_bin {op : Operator} {r : R2} {g : G2} {a b : Expr} {fa fb : FE} {pos : Pos} (ho : OpR X (binaryOp op) r) (o : OSim X.K T r g) (ha : DE X T W a fa) (hb : DE X T W b fb) : DE X T W (.BinOp a op b pos) (fOp g fa fb) := by
  obtain ⟨ta, pa, sa⟩ := ha
  obtain ⟨tb, pb, sb⟩ := hb
  exact ⟨_, pe_op ho pa pb, sim_op o sa sb⟩
theorem de_cmp {op : CmpOp} {r : R2} {g : G2} {a b : Expr} {fa fb : FE} {pos : Pos} (ho : OpR X (compareOp op) r) (o : OSim X.K T r g) (hm : behindInMarks op b = false) (ha : DE X T W a fa) (hb : DE X T W b fb) : DE X T W (.Compare a [op] [b] pos) (fOp g fa fb) := by
  obtain ⟨ta, pa, sa⟩ := ha
  obtain ⟨tb, pb, sb⟩ := hb
  exact ⟨_, pe_cmpR ho pa pb hm, sim_op o sa sb⟩
theorem de_ix {r : R2} {g : G2} {a b : Expr} {fa fb : FE} {pos : Pos} (ho : IxR X r) (o : OSim X.K T r g) (hs : PlainIx b) (ha : DE X T W a fa) (hb : DE X T W b fb) : DE X T W (.Subscript a b pos) (fOp g fa fb) := by
  obtain ⟨ta, pa, sa⟩ := ha
  obtain ⟨tb, pb, sb⟩ := hb
  exact ⟨_, pe_ix ho pa pb hs, sim_op o sa sb⟩

/-! ### tests -/
def fB (f : FE) : FT := fun xw ρ M Q => f xw ρ M fun d M1 => match d with
  | .bl b => Q b M1
  | _ => False
theorem simT_of {K : PySem.W.Frag} {t : TE} {f : FE} (h : ESim K T W t f) : TSim K T W (tTest t) (fB f) := by
  intro hid σ H ρ M xw Q Qv r s w q p
  refine h hid σ H ρ M xw _ _ r s w q fun v H1 d M1 s1 e1 r1 q1 => ?_
  cases d with
  | bl b => cases r1; exact ⟨b, rfl, p b H1 M1 s1 e1 q1⟩
  | _ => exact (show False from q1).elim
theorem dt_cmp {op : CmpOp} {r : R2} {g : G2} {a b : Expr} {fa fb : FE} {pos : Pos} (ho : OpR X (compareOp op) r) (o : OSim X.K T r g) (hm : behindInMarks op b = false) (ha : DE X T W a fa) (hb : DE X T W b fb) : DT X T W (.Compare a [op] [b] pos) (fB (fOp g fa fb)) := by
  obtain ⟨ta, pa, sa⟩ := ha
  obtain ⟨tb, pb, sb⟩ := hb
  exact ⟨_, pt_cmpR ho pa pb hm, simT_of (sim_op o sa sb)⟩
/-- by truth -/
def trD (M : Mu) (d : D) (Q : Bool → Prop) : Prop := match d with
  | .non => Q false
  | .bl b => Q b
  | .int i => Q (i != 0)
  | .tup ds => Q (!ds.isEmpty)
  | .lst ds => Q (!ds.isEmpty)
  | .loc a => (match M a with
    | some (.lst ds) => Q (!ds.isEmpty)
    | _ => False)
  | .str x => x.length ≤ sizeLine ∧ Q ((x.length : Int) != 0)
  | .ty _ => False
def fTr (f : FE) : FT := fun xw ρ M Q => f xw ρ M fun d M1 => trD M1 d fun b => Q b M1
theorem Rvs.isEmpty {K : PySem.W.Frag} {hid : List Addr} {H : Hp} {M : Mu} {xs : List V} {ds : List D} (r : Rvs K hid H M xs ds) : xs.isEmpty = ds.isEmpty := by cases r <;> rfl
theorem truV_of {K : PySem.W.Frag} {hid : List Addr} {H : Hp} {M : Mu} {v : V} {d : D} {Q : Bool → Prop} (s : Sto K T hid H M) (r : Rv K hid H M v d) (q : trD M d Q) : ∃ k, TruV K v H k ∧ Q k := by
  cases d with
  | non => cases r; exact ⟨false, rfl, q⟩
  | bl b => cases r; exact ⟨b, rfl, q⟩
  | int i => cases r; exact ⟨_, rfl, q⟩
  | str x => cases r; exact ⟨_, ⟨q.1, rfl⟩, q.2⟩
  | tup ds =>
    cases r with
    | tup h r => exact ⟨_, .inr (.inl ⟨_, h, rfl⟩), by rw [r.isEmpty]; exact q⟩
  | lst ds =>
    cases r with
    | lst h r => exact ⟨_, .inl ⟨_, h.sq, rfl⟩, by rw [r.isEmpty]; exact q⟩
  | loc a =>
    cases r
    unfold trD at q
    dsimp only at q
    split at q
    · rename_i ds e
      obtain ⟨xs, h1, h2, _⟩ := s.at e
      exact ⟨_, .inl ⟨xs, SqL.of h1, rfl⟩, by rw [h2.isEmpty]; exact q⟩
    · exact q.elim
  | ty n => exact (show False from q).elim
theorem dt_tr {e : Expr} {f : FE} (h : DE X T W e f) (he : ∀ whole, isTrue e X.env whole = (do let v ← whole; standAt e.pos; holding [v] (truthy v))) : DT X T W e (fTr f) := by
  obtain ⟨t, pa, sa⟩ := h
  refine ⟨_, pt_truth pa he, fun hid σ H ρ M xw Q Qv r s w q p => ?_⟩
  refine sa hid σ H ρ M xw _ _ r s w q fun v H1 d M1 s1 e1 r1 q1 => ?_
  obtain ⟨k, h1, h2⟩ := truV_of s1 r1 q1
  exact ⟨k, h1, p k H1 M1 s1 e1 h2⟩
def fAnd (f g : FT) : FT := fun xw ρ M Q => f xw ρ M fun c M1 => if c = true then g xw ρ M1 Q else Q false M1
def fOr (f g : FT) : FT := fun xw ρ M Q => f xw ρ M fun c M1 => if c = true then Q true M1 else g xw ρ M1 Q
def fNot (f : FT) : FT := fun xw ρ M Q => f xw ρ M fun c M1 => Q (!c) M1
theorem dw_and1 {a : Expr} {f : FT} {pos : Pos} (h : DT X T W a f) : DW X T W (.BoolOp .And [a] pos) f := let ⟨t, p, s⟩ := h; ⟨t, pw_and1 p, s⟩
theorem dw_or1 {a : Expr} {f : FT} {pos : Pos} (h : DT X T W a f) : DW X T W (.BoolOp .Or [a] pos) f := let ⟨t, p, s⟩ := h; ⟨t, pw_or1 p, s⟩
theorem dw_and {a b : Expr} {rest : List Expr} {f g : FT} {pos : Pos} (h : DT X T W a f) (h2 : DW X T W (.BoolOp .And (b :: rest) pos) g) : DW X T W (.BoolOp .And (a :: b :: rest) pos) (fAnd f g) := by
  obtain ⟨t, p, sa⟩ := h
  obtain ⟨u, p2, sb⟩ := h2
  refine ⟨_, pw_and p p2, fun hid σ H ρ M xw Q Qv r s w q p => ?_⟩
  refine sa hid σ H ρ M xw _ _ r s w q fun c H1 M1 s1 e1 q1 => ?_
  cases c with
  | true => exact sb hid σ H1 ρ M1 xw Q Qv (r.ext e1) s1 (w.ext e1) q1 fun b H2 M2 s2 e2 => p b H2 M2 s2 (e1.trans e2)
  | false => exact p false H1 M1 s1 e1 q1
theorem dw_or {a b : Expr} {rest : List Expr} {f g : FT} {pos : Pos} (h : DT X T W a f) (h2 : DW X T W (.BoolOp .Or (b :: rest) pos) g) : DW X T W (.BoolOp .Or (a :: b :: rest) pos) (fOr f g) := by
  obtain ⟨t, p, sa⟩ := h
  obtain ⟨u, p2, sb⟩ := h2
  refine ⟨_, pw_or p p2, fun hid σ H ρ M xw Q Qv r s w q p => ?_⟩
  refine sa hid σ H ρ M xw _ _ r s w q fun c H1 M1 s1 e1 q1 => ?_
  cases c with
  | false => exact sb hid σ H1 ρ M1 xw Q Qv (r.ext e1) s1 (w.ext e1) q1 fun b H2 M2 s2 e2 => p b H2 M2 s2 (e1.trans e2)
  | true => exact p true H1 M1 s1 e1 q1
theorem DW.dt {e : Expr} {f : FT} (h : DW X T W e f) : DT X T W e f := let ⟨t, p, s⟩ := h; ⟨t, p.pt, s⟩
theorem dt_not {a : Expr} {f : FT} {pos : Pos} (h : DT X T W a f) : DT X T W (.UnaryOp .Not a pos) (fNot f) := by
  obtain ⟨t, p, sa⟩ := h
  exact ⟨_, pt_not p, fun hid σ H ρ M xw Q Qv r s w q p => sa hid σ H ρ M xw _ _ r s w q fun c H1 M1 s1 e1 q1 => p _ H1 M1 s1 e1 q1⟩
/-- and, or, not as values; of bools -/
def fAndV (f g : FE) : FE := fun xw ρ M Q => f xw ρ M fun d M1 => match d with
  | .bl b => if b = true then g xw ρ M1 Q else Q (.bl false) M1
  | _ => False
def fOrV (f g : FE) : FE := fun xw ρ M Q => f xw ρ M fun d M1 => match d with
  | .bl b => if b = true then Q (.bl true) M1 else g xw ρ M1 Q
  | _ => False
def fNotV (f : FE) : FE := fun xw ρ M Q => f xw ρ M fun d M1 => match d with
  | .bl b => Q (.bl (!b)) M1
  | _ => False
theorem de_one {op : BoolOp} {a : Expr} {f : FE} {pos : Pos} (h : DE X T W a f) : DE X T W (.BoolOp op [a] pos) f := let ⟨t, p, s⟩ := h; ⟨t, pe_one p, s⟩
theorem de_and {a b : Expr} {rest : List Expr} {f g : FE} {pos : Pos} (h : DE X T W a f) (h2 : DE X T W (.BoolOp .And (b :: rest) pos) g) : DE X T W (.BoolOp .And (a :: b :: rest) pos) (fAndV f g) := by
  obtain ⟨t, p, sa⟩ := h
  obtain ⟨u, p2, sb⟩ := h2
  refine ⟨_, pe_and p p2, fun hid σ H ρ M xw Q Qv r s w q p => ?_⟩
  refine sa hid σ H ρ M xw _ _ r s w q fun v H1 d M1 s1 e1 r1 q1 => ?_
  cases d with
  | bl c =>
    cases r1
    refine ⟨c, rfl, ?_⟩
    cases c with
    | true => exact sb hid σ H1 ρ M1 xw Q Qv (r.ext e1) s1 (w.ext e1) q1 (p.ext e1)
    | false => exact p _ H1 _ M1 s1 e1 (.bl false) q1
  | _ => exact (show False from q1).elim
theorem de_or {a b : Expr} {rest : List Expr} {f g : FE} {pos : Pos} (h : DE X T W a f) (h2 : DE X T W (.BoolOp .Or (b :: rest) pos) g) : DE X T W (.BoolOp .Or (a :: b :: rest) pos) (fOrV f g) := by
  obtain ⟨t, p, sa⟩ := h
  obtain ⟨u, p2, sb⟩ := h2
  refine ⟨_, pe_or p p2, fun hid σ H ρ M xw Q Qv r s w q p => ?_⟩
  refine sa hid σ H ρ M xw _ _ r s w q fun v H1 d M1 s1 e1 r1 q1 => ?_
  cases d with
  | bl c =>
    cases r1
    refine ⟨c, rfl, ?_⟩
    cases c with
    | false => exact sb hid σ H1 ρ M1 xw Q Qv (r.ext e1) s1 (w.ext e1) q1 (p.ext e1)
    | true => exact p _ H1 _ M1 s1 e1 (.bl true) q1
  | _ => exact (show False from q1).elim
theorem de_not {a : Expr} {f : FE} {pos : Pos} (h : DE X T W a f) : DE X T W (.UnaryOp .Not a pos) (fNotV f) := by
  obtain ⟨t, p, sa⟩ := h
  refine ⟨_, pe_not p, fun hid σ H ρ M xw Q Qv r s w q p => ?_⟩
  refine sa hid σ H ρ M xw _ _ r s w q fun v H1 d M1 s1 e1 r1 q1 => ?_
  cases d with
  | bl c => cases r1; exact ⟨c, rfl, p _ H1 _ M1 s1 e1 (.bl _) q1⟩
  | _ => exact (show False from q1).elim
def fIf (c : FT) (f g : FE) : FE := fun xw ρ M Q => c xw ρ M fun b M1 => if b = true then f xw ρ M1 Q else g xw ρ M1 Q
theorem de_if {c a b : Expr} {fc : FT} {f g : FE} {pos : Pos} (hc : DT X T W c fc) (ha : DE X T W a f) (hb : DE X T W b g) : DE X T W (.IfExp c a b pos) (fIf fc f g) := by
  obtain ⟨tc, pc, sc⟩ := hc
  obtain ⟨t, pa, sa⟩ := ha
  obtain ⟨u, pb, sb⟩ := hb
  refine ⟨_, pe_ifExp pc pa pb, fun hid σ H ρ M xw Q Qv r s w q p => ?_⟩
  refine sc hid σ H ρ M xw _ _ r s w q fun c H1 M1 s1 e1 q1 => ?_
  cases c with
  | true => exact sa hid σ H1 ρ M1 xw Q Qv (r.ext e1) s1 (w.ext e1) q1 (p.ext e1)
  | false => exact sb hid σ H1 ρ M1 xw Q Qv (r.ext e1) s1 (w.ext e1) q1 (p.ext e1)

/-! ### arguments and displays -/
def fNil : FA := fun _ _ M Q => Q [] M
def fCons (f : FE) (g : FA) : FA := fun xw ρ M Q => f xw ρ M fun d M1 => g xw ρ M1 fun ds M2 => Q (d :: ds) M2
theorem da_nil : DA X T W [] fNil := ⟨_, pa_nil, fun hid σ H ρ M xw Q Qv r s w q p => p _ H _ M s (Ext.refl _ _ _) .nil q⟩
theorem da_cons {e : Expr} {es : List Expr} {f : FE} {g : FA} (h : DE X T W e f) (h2 : DA X T W es g) (hs : starEach (e :: es) X.env = (false, eval e X.env) :: starEach es X.env) : DA X T W (e :: es) (fCons f g) := by
  obtain ⟨t, p, sa⟩ := h
  obtain ⟨u, p2, sb⟩ := h2
  refine ⟨_, pa_cons p p2 hs, fun hid σ H ρ M xw Q Qv r s w q p => ?_⟩
  refine sa hid σ H ρ M xw _ _ r s w q fun v H1 d M1 s1 e1 r1 q1 => ?_
  refine sb hid σ H1 ρ M1 xw _ _ (r.ext e1) s1 (w.ext e1) q1 fun vs H2 ds M2 s2 e2 r2 q2 => ?_
  exact p _ H2 _ M2 s2 (e1.trans e2) (.cons (e2.rv _ _ r1) r2) q2
def fTup (g : FA) : FE := fun xw ρ M Q => g xw ρ M fun ds M1 => ds.length ≤ sizeLine ∧ Q (.tup ds) M1
def fLst (g : FA) : FE := fun xw ρ M Q => g xw ρ M fun ds M1 => ds.length ≤ sizeLine ∧ Q (.lst ds) M1
theorem de_tup {es : List Expr} {k : Nat} {g : FA} {pos : Pos} (h : DA X T W es g) : DE X T W (.Tuple es k pos) (fTup g) := by
  obtain ⟨t, p, sa⟩ := h
  refine ⟨_, pe_tup p, fun hid σ H ρ M xw Q Qv r s w q p => ?_⟩
  refine sa hid σ H ρ M xw _ _ r s w q fun vs H1 ds M1 s1 e1 r1 q1 => ?_
  exact ⟨by rw [r1.length]; exact q1.1, fun a ha => new_tup s1 (p.ext e1) r1 ha q1.2⟩
theorem de_lst {es : List Expr} {g : FA} {pos : Pos} (h : DA X T W es g) : DE X T W (.List es pos) (fLst g) := by
  obtain ⟨t, p, sa⟩ := h
  refine ⟨_, pe_lst p, fun hid σ H ρ M xw Q Qv r s w q p => ?_⟩
  refine sa hid σ H ρ M xw _ _ r s w q fun vs H1 ds M1 s1 e1 r1 q1 => ?_
  exact ⟨by rw [r1.length]; exact q1.1, fun a ha => new_lst s1 (p.ext e1) r1 ha q1.2⟩
end
end U

set_option Elab.async false
set_option linter.all false
set_option maxRecDepth 100000
set_option maxHeartbeats 1000000
/-! U3: operators by data. -/
namespace U
open PySem PySem.Spec PyProof.Rows L2

/-- the items of a list | tuple, read at its place -/
def lstOf (M : Mu) : D → Option (List D)
  | .lst ds => some ds
  | .loc a => (match M a with
    | some (.lst ds) => some ds
    | _ => none)
  | _ => none
def tupOf : D → Option (List D)
  | .tup ds => some ds
  | _ => none
/-- a list that is written, as it stands -/
def rsv (M : Mu) : D → D
  | .loc a => (match M a with
    | some (.lst ds) => .lst ds
    | _ => .loc a)
  | d => d
section
variable {K : PySem.W.Frag} {T hid : List Addr} {H : Hp} {M : Mu}
theorem lstOf_ok (s : Sto K T hid H M) {v : V} {d : D} {ds : List D} (r : Rv K hid H M v d) (e : lstOf M d = some ds) : ∃ a xs, v = .ref a ∧ SqL K H a xs ∧ Rvs K hid H M xs ds := by
  cases d with
  | lst es =>
    cases e
    cases r with
    | lst h r => exact ⟨_, _, rfl, h.sq, r⟩
  | loc a =>
    cases r
    unfold lstOf at e
    dsimp only at e
    split at e
    · rename_i es q
      cases e
      obtain ⟨xs, h1, h2, _⟩ := s.at q
      exact ⟨a, xs, rfl, SqL.of h1, h2⟩
    · cases e
  | _ => cases e
theorem tupOf_ok {v : V} {d : D} {ds : List D} (r : Rv K hid H M v d) (e : tupOf d = some ds) : ∃ a xs, v = .ref a ∧ SqT K H a xs ∧ Rvs K hid H M xs ds := by
  cases d with
  | tup es =>
    cases e
    cases r with
    | tup h r => exact ⟨_, _, rfl, h, r⟩
  | _ => cases e
theorem rsv_dp (s : Sto K T hid H M) {v : V} {d : D} (r : Rv K hid H M v d) (h : dle 60 (rsv M d) = true) : Dp K H v (rsv M d).pd := by
  cases d with
  | loc a =>
    cases r
    unfold rsv at h ⊢
    dsimp only at h ⊢
    split at h
    · rename_i es q
      obtain ⟨xs, h1, h2, _⟩ := s.at q
      exact .lst (SqL.of h1) (Rvs.dp es 59 xs (by simpa only [dle] using h) h2)
    · simp [dle] at h
  | _ => exact r.dp _ _ _ h
end

/-! ### arithmetic -/
section
variable {X : Cx} {T : List Addr} {W : WX}
def rCatL (K : PySem.W.Frag) : R2 := fun x y H Q => ∃ l b xs zs, x = .ref l ∧ y = .ref b ∧ SqL K H l xs ∧ SqL K H b zs ∧ xs.length + zs.length ≤ sizeLine ∧ ∀ p, H p = none → Q (.ref p) (upd H p (.lst (xs ++ zs)))
theorem op_catL : OpR X (binaryOp .Add) (rCatL X.K) := by
  intro pins s σ H x y v u Q I rx ry h
  obtain ⟨l, b, xs, zs, rfl, rfl, hH, hB, hz, q⟩ := h
  cases rx
  cases ry
  obtain ⟨its, r, ⟨⟨cls, dd, data, sl⟩, n, ho, hc, hdn, hd⟩, z⟩ := I.list hH
  obtain ⟨its2, r2, ⟨⟨cls2, dd2, data2, sl2⟩, n2, ho2, hc2, hdn2, hd2⟩, z2⟩ := I.list hB
  simp only at hc hdn hd hc2 hdn2 hd2
  subst hc hdn hd hc2 hdn2 hd2
  have hl := r.length
  have hl2 := r2.length
  have ea : its.toArray ++ its2.toArray = (its ++ its2).toArray := by simp
  refine concat_meets ⟨_, ho, rfl⟩ ⟨_, ho2, rfl⟩ noFill_list_add seq_list_add PySem.F.slot_list_add PySem.F.entry_list_add (PySem.F.args_list_add_2 _ _) (list_addW l b its.toArray its2.toArray n n2 none none sl sl2 (by rw [List.size_toArray, List.size_toArray]; omega)) ⟨ho, ho2, ?_⟩
  rw [ea]
  exact ⟨.ref _, _, I.lnew (t' := s.toks) (r.append r2) (by rw [List.length_append]; omega), rfl, q _ I.fresh⟩
def rAddA (K : PySem.W.Frag) : R2 := fun x y H Q => rI0 (fun i j => .int (i + j)) x y H Q ∨ (rCatA K x y H Q ∨ (rCatL K x y H Q ∨ (∃ i j, x = .str i ∧ y = .str j ∧ i.length + j.length ≤ sizeLine ∧ Q (.str (i ++ j)) H)))
theorem op_addA : OpR X (binaryOp .Add) (rAddA X.K) := op_add.or (op_catA.or (op_catL.or op_add_str))
def gAdd : G2 := fun x y M Q => match x, y with
  | .int i, .int j => Q (.int (i + j)) M
  | .tup a, .tup b => a.length + b.length ≤ sizeLine ∧ Q (.tup (a ++ b)) M
  | .str i, .str j => i.length + j.length ≤ sizeLine ∧ Q (.str (i ++ j)) M
  | x, y => (match lstOf M x, lstOf M y with
    | some a, some b => a.length + b.length ≤ sizeLine ∧ Q (.lst (a ++ b)) M
    | _, _ => False)
theorem o_add {K : PySem.W.Frag} : OSim K T (rAddA K) gAdd := by
  intro hid H M x y v w Q Qv s r1 r2 q p
  unfold gAdd at q
  split at q
  · cases r1; cases r2
    exact .inl ⟨_, _, rfl, rfl, p _ H _ M s (Ext.refl _ _ _) (.int _) q⟩
  · rename_i a b
    cases r1 with
    | tup h1 k1 =>
      cases r2 with
      | tup h2 k2 =>
        rename_i p1 xs p2 ys
        have l1 := k1.length
        have l2 := k2.length
        refine .inr (.inl ⟨_, _, _, _, rfl, rfl, h1, h2, by omega, fun e => ?_, fun _ e => ?_, fun _ _ c hc => new_tup s p (k1.append k2) hc q.2⟩)
        · subst e
          cases k1
          exact p _ H _ M s (Ext.refl _ _ _) (.tup h2 k2) (by simpa using q.2)
        · subst e
          cases k2
          exact p _ H _ M s (Ext.refl _ _ _) (.tup h1 k1) (by simpa using q.2)
  · cases r1; cases r2
    exact .inr (.inr (.inr ⟨_, _, rfl, rfl, q.1, p _ H _ M s (Ext.refl _ _ _) (.str _) q.2⟩))
  · split at q
    · rename_i a b e1 e2
      obtain ⟨l, xs, rfl, h1, k1⟩ := lstOf_ok s r1 e1
      obtain ⟨l2, ys, rfl, h2, k2⟩ := lstOf_ok s r2 e2
      have i1 := k1.length
      have i2 := k2.length
      exact .inr (.inr (.inl ⟨_, _, _, _, rfl, rfl, h1, h2, by omega, fun c hc => new_lst s p (k1.append k2) hc q.2⟩))
    · exact q.elim
/-- two ints -/
def gI (C : Int → Int → Prop) (g : Int → Int → D) : G2 := fun x y M Q => match x, y with
  | .int i, .int j => C i j ∧ Q (g i j) M
  | _, _ => False
def gI0 (g : Int → Int → D) : G2 := fun x y M Q => match x, y with
  | .int i, .int j => Q (g i j) M
  | _, _ => False
theorem o_I {K : PySem.W.Frag} {C : Int → Int → Prop} {gv : Int → Int → V} {g : Int → Int → D} (h : ∀ hid H M i j, Rv K hid H M (gv i j) (g i j)) : OSim K T (rI C gv) (gI C g) := by
  intro hid H M x y v w Q Qv s r1 r2 q p
  unfold gI at q
  split at q
  · cases r1; cases r2
    exact ⟨_, _, rfl, rfl, q.1, p _ H _ M s (Ext.refl _ _ _) (h _ _ _ _ _) q.2⟩
  · exact q.elim
theorem o_I0 {K : PySem.W.Frag} {gv : Int → Int → V} {g : Int → Int → D} (h : ∀ hid H M i j, Rv K hid H M (gv i j) (g i j)) : OSim K T (rI0 gv) (gI0 g) := by
  intro hid H M x y v w Q Qv s r1 r2 q p
  unfold gI0 at q
  split at q
  · cases r1; cases r2
    exact ⟨_, _, rfl, rfl, p _ H _ M s (Ext.refl _ _ _) (h _ _ _ _ _) q⟩
  · exact q.elim
abbrev gSub : G2 := gI0 fun i j => .int (i - j)
abbrev gFdiv : G2 := gI CDivW fun i j => .int (i / j)
abbrev gMod : G2 := gI (fun _ j => 0 < j) fun i j => .int (i % j)
abbrev gPow : G2 := gI CPow fun i j => .int (i ^ j.toNat)
abbrev gLt : G2 := gI0 fun i j => .bl (decide (i < j))
abbrev gLe : G2 := gI0 fun i j => .bl (decide (i ≤ j))
abbrev gGt : G2 := gI0 fun i j => .bl (decide (j < i))
abbrev gGe : G2 := gI0 fun i j => .bl (decide (j ≤ i))
theorem o_sub {K : PySem.W.Frag} : OSim K T (rI0 fun i j => .int (i - j)) gSub := o_I0 fun _ _ _ _ _ => .int _
theorem o_fdiv {K : PySem.W.Frag} : OSim K T (rI CDivW fun i j => .int (i / j)) gFdiv := o_I fun _ _ _ _ _ => .int _
theorem o_mod {K : PySem.W.Frag} : OSim K T (rI (fun _ j => 0 < j) fun i j => .int (i % j)) gMod := o_I fun _ _ _ _ _ => .int _
theorem o_pow {K : PySem.W.Frag} : OSim K T (rI CPow fun i j => .int (i ^ j.toNat)) gPow := o_I fun _ _ _ _ _ => .int _
theorem o_lt {K : PySem.W.Frag} : OSim K T (rI0 fun i j => .bl (decide (i < j))) gLt := o_I0 fun _ _ _ _ _ => .bl _
theorem o_le {K : PySem.W.Frag} : OSim K T (rI0 fun i j => .bl (decide (i ≤ j))) gLe := o_I0 fun _ _ _ _ _ => .bl _
theorem o_gt {K : PySem.W.Frag} : OSim K T (rI0 fun i j => .bl (decide (j < i))) gGt := o_I0 fun _ _ _ _ _ => .bl _
theorem o_ge {K : PySem.W.Frag} : OSim K T (rI0 fun i j => .bl (decide (j ≤ i))) gGe := o_I0 fun _ _ _ _ _ => .bl _
/-- a product: of ints; of a tuple and an int -/
def rMulA (K : PySem.W.Frag) : R2 := fun x y H Q => rI CMul (fun i j => .int (i * j)) x y H Q ∨ (rI CMulW (fun i j => .int (i * j)) x y H Q ∨ rRepT K x y H Q)
theorem op_mulA : OpR X (binaryOp .Mult) (rMulA X.K) := op_mul.or (op_mulW.or op_repT)
def gMul : G2 := fun x y M Q => match x, y with
  | .int i, .int j => (CMul i j ∨ CMulW i j) ∧ Q (.int (i * j)) M
  | .tup a, .int k => a ≠ [] ∧ 2 ≤ k ∧ k ≤ 1000 ∧ a.length ≤ 1000 ∧ Q (.tup (List.replicate k.toNat a).flatten) M
  | _, _ => False
theorem o_mul {K : PySem.W.Frag} : OSim K T (rMulA K) gMul := by
  intro hid H M x y v w Q Qv s r1 r2 q p
  unfold gMul at q
  split at q
  · cases r1; cases r2
    have q2 := p _ H _ M s (Ext.refl _ _ _) (.int _) q.2
    rcases q.1 with q1 | q1
    · exact .inl ⟨_, _, rfl, rfl, q1, q2⟩
    · exact .inr (.inl ⟨_, _, rfl, rfl, q1, q2⟩)
  · cases r2
    cases r1 with
    | tup h1 k1 =>
      have l1 := k1.length
      refine .inr (.inr ⟨_, _, _, rfl, rfl, h1, fun e => q.1 ?_, q.2.1, q.2.2.1, by rw [l1]; exact q.2.2.2.1, fun c hc => new_tup s p (k1.rep _) hc q.2.2.2.2⟩)
      subst e
      cases k1
      rfl
  · exact q.elim
def fNeg (f : FE) : FE := fun xw ρ M Q => f xw ρ M fun d M1 => match d with
  | .int i => Q (.int (-i)) M1
  | _ => False
theorem de_neg {a : Expr} {f : FE} {pos : Pos} (h : DE X T W a f) : DE X T W (.UnaryOp .USub a pos) (fNeg f) := by
  obtain ⟨t, pa, sa⟩ := h
  refine ⟨_, pe_un un_neg pa, fun hid σ H ρ M xw Q Qv r s w q p => ?_⟩
  refine sa hid σ H ρ M xw _ _ r s w q fun v H1 d M1 s1 e1 r1 q1 => ?_
  cases d with
  | int i => cases r1; exact ⟨i, rfl, p _ H1 _ M1 s1 e1 (.int _) q1⟩
  | _ => exact (show False from q1).elim

/-! ### equality, identity, membership -/
def gEq : G2 := fun x y M Q => dle 60 (rsv M x) = true ∧ dle 60 (rsv M y) = true ∧ Q (.bl (eqD (rsv M x) (rsv M y))) M
def gNe : G2 := fun x y M Q => dle 60 (rsv M x) = true ∧ dle 60 (rsv M y) = true ∧ Q (.bl (!eqD (rsv M x) (rsv M y))) M
theorem o_eq {K : PySem.W.Frag} : OSim K T (rEqD K) gEq := fun hid H M x y v w Q Qv s r1 r2 q p =>
  ⟨_, _, rsv_dp s r1 q.1, rsv_dp s r2 q.2.1, dle_shaped q.1, dle_shaped q.2.1, p _ H _ M s (Ext.refl _ _ _) (.bl _) q.2.2⟩
theorem o_ne {K : PySem.W.Frag} : OSim K T (rNeD K) gNe := fun hid H M x y v w Q Qv s r1 r2 q p =>
  ⟨_, _, rsv_dp s r1 q.1, rsv_dp s r2 q.2.1, dle_shaped q.1, dle_shaped q.2.1, p _ H _ M s (Ext.refl _ _ _) (.bl _) q.2.2⟩
def isNon : D → Bool
  | .non => true
  | _ => false
theorem isNon_of {K : PySem.W.Frag} {hid : List Addr} {H : Hp} {M : Mu} {v : V} {d : D} (r : Rv K hid H M v d) : decide (v = .non) = isNon d := by
  cases r <;> simp [isNon]
def rIsA : R2 := fun x y H Q => (y = .non ∧ Q (.bl (decide (x = .non))) H) ∨ rIsB x y H Q
def rNotA : R2 := fun x y H Q => (y = .non ∧ Q (.bl (!decide (x = .non))) H) ∨ rNotB x y H Q
theorem op_isA : OpR X (compareOp .Is) rIsA := op_isN.or op_isBl
theorem op_notA : OpR X (compareOp .IsNot) rNotA := op_notN.or op_notBl
def gIs : G2 := fun x y M Q => match y with
  | .non => Q (.bl (isNon x)) M
  | .bl b => (match x with
    | .bl a => Q (.bl (decide (a = b))) M
    | _ => False)
  | _ => False
def gIsNot : G2 := fun x y M Q => match y with
  | .non => Q (.bl (!isNon x)) M
  | .bl b => (match x with
    | .bl a => Q (.bl (!decide (a = b))) M
    | _ => False)
  | _ => False
theorem o_is {K : PySem.W.Frag} : OSim K T rIsA gIs := by
  intro hid H M x y v w Q Qv s r1 r2 q p
  unfold gIs at q
  split at q
  · cases r2
    exact .inl ⟨rfl, by rw [isNon_of r1]; exact p _ H _ M s (Ext.refl _ _ _) (.bl _) q⟩
  · cases r2
    split at q
    · cases r1
      exact .inr ⟨_, _, rfl, rfl, p _ H _ M s (Ext.refl _ _ _) (.bl _) q⟩
    · exact q.elim
  · exact q.elim
theorem o_isNot {K : PySem.W.Frag} : OSim K T rNotA gIsNot := by
  intro hid H M x y v w Q Qv s r1 r2 q p
  unfold gIsNot at q
  split at q
  · cases r2
    exact .inl ⟨rfl, by rw [isNon_of r1]; exact p _ H _ M s (Ext.refl _ _ _) (.bl _) q⟩
  · cases r2
    split at q
    · cases r1
      exact .inr ⟨_, _, rfl, rfl, p _ H _ M s (Ext.refl _ _ _) (.bl _) q⟩
    · exact q.elim
  · exact q.elim
/-- x in a tuple or a list of data -/
def rInA (K : PySem.W.Frag) : R2 := fun x y H Q => rInD K x y H Q ∨ ∃ d ds, Dp K H x d ∧ Dp K H y (.tuple ds) ∧ SeqAt.shaped d = true ∧ SeqAt.shaped (.tuple ds) = true ∧ Q (.bl (ds.any fun z => PyData.eqv z d)) H
def rNotInA (K : PySem.W.Frag) : R2 := fun x y H Q => rNotInD K x y H Q ∨ ∃ d ds, Dp K H x d ∧ Dp K H y (.tuple ds) ∧ SeqAt.shaped d = true ∧ SeqAt.shaped (.tuple ds) = true ∧ Q (.bl (!ds.any fun z => PyData.eqv z d)) H
theorem op_inA (hu : X.A.units + 65 < cLine) : OpR X (compareOp .In) (rInA X.K) := by
  refine (op_inD hu).or ?_
  intro pins s σ H x y v u Q I rx ry h
  obtain ⟨d, ds, hd, he, sd, se, q⟩ := h
  obtain ⟨as, r1⟩ := Dp.reads I d x v hd rx
  obtain ⟨bs, r2⟩ := Dp.reads I (.tuple ds) y u he ry
  have hu' : X.A.units + 1 + min (PyData.depthAll ds) d.depth < cLine := by
    have h1 := SeqAt.depth_of_shaped sd
    have h2 : min (PyData.depthAll ds) d.depth ≤ d.depth := Nat.min_le_right _ _
    omega
  exact SeqAt.in_tuple_reads r2 r1 (SeqAt.canLay_of_shaped se) (SeqAt.canLay_of_shaped sd) hu' ⟨.bl _, H, I, rfl, q⟩
theorem op_notInA (hu : X.A.units + 65 < cLine) : OpR X (compareOp .NotIn) (rNotInA X.K) := by
  refine (op_notInD hu).or ?_
  intro pins s σ H x y v u Q I rx ry h
  obtain ⟨d, ds, hd, he, sd, se, q⟩ := h
  obtain ⟨as, r1⟩ := Dp.reads I d x v hd rx
  obtain ⟨bs, r2⟩ := Dp.reads I (.tuple ds) y u he ry
  have hu' : X.A.units + 1 + min (PyData.depthAll ds) d.depth < cLine := by
    have h1 := SeqAt.depth_of_shaped sd
    have h2 : min (PyData.depthAll ds) d.depth ≤ d.depth := Nat.min_le_right _ _
    omega
  exact SeqAt.notIn_tuple_reads r2 r1 (SeqAt.canLay_of_shaped se) (SeqAt.canLay_of_shaped sd) hu' ⟨.bl _, H, I, rfl, q⟩
def seqOf (M : Mu) : D → Option (List D)
  | .tup ds => some ds
  | d => lstOf M d
theorem pds_any (x : D) : ∀ ds : List D, (D.pds ds).any (fun z => PyData.eqv z x.pd) = ds.any fun y => eqD y x
  | [] => rfl
  | d :: ds => by
    show (PyData.eqv d.pd x.pd || (D.pds ds).any _) = _
    rw [pds_any x ds]; rfl
def gInB (k : Bool) : G2 := fun x y M Q => match seqOf M y with
  | some ds => dle 60 (rsv M x) = true ∧ ds.all (dle 59) = true ∧ Q (.bl (if k then !ds.any (fun y => eqD y (rsv M x)) else ds.any fun y => eqD y (rsv M x))) M
  | none => False
abbrev gIn : G2 := gInB false
abbrev gNotIn : G2 := gInB true
theorem seq_dp {K : PySem.W.Frag} {hid : List Addr} {H : Hp} {M : Mu} (s : Sto K T hid H M) {v : V} {y : D} {ds : List D} (r : Rv K hid H M v y) (e : seqOf M y = some ds) (h : ds.all (dle 59) = true) :
    (Dp K H v (.tuple (D.pds ds)) ∧ SeqAt.shaped (.tuple (D.pds ds)) = true) ∨ (Dp K H v (.list (D.pds ds)) ∧ SeqAt.shaped (.list (D.pds ds)) = true) := by
  have h1 : dle 60 (.tup ds) = true := by simpa only [dle] using h
  have h2 : dle 60 (.lst ds) = true := by simpa only [dle] using h
  have k2 : ∀ e : lstOf M y = some ds, (Dp K H v (.list (D.pds ds)) ∧ SeqAt.shaped (.list (D.pds ds)) = true) := fun e => by
    obtain ⟨a, xs, rfl, h3, h4⟩ := lstOf_ok s r e
    exact ⟨.lst h3 (Rvs.dp ds 59 xs h h4), dle_shaped h2⟩
  cases y with
  | tup es =>
    cases e
    cases r with
    | tup h3 h4 => exact .inl ⟨.tup h3 (Rvs.dp ds 59 _ h h4), dle_shaped h1⟩
  | lst es => exact .inr (k2 e)
  | loc a => exact .inr (k2 e)
  | _ => cases e
theorem o_in {K : PySem.W.Frag} : OSim K T (rInA K) gIn := by
  intro hid H M x y v w Q Qv s r1 r2 q p
  unfold gIn gInB at q
  split at q
  · rename_i ds e
    obtain ⟨q1, q2, q3⟩ := q
    have q4 := p _ H _ M s (Ext.refl _ _ _) (.bl _) q3
    rcases seq_dp s r2 e q2 with ⟨h1, h2⟩ | ⟨h1, h2⟩
    · exact .inr ⟨_, _, rsv_dp s r1 q1, h1, dle_shaped q1, h2, by rw [pds_any]; exact q4⟩
    · exact .inl ⟨_, _, rsv_dp s r1 q1, h1, dle_shaped q1, h2, by rw [pds_any]; exact q4⟩
  · exact q.elim
theorem o_notIn {K : PySem.W.Frag} : OSim K T (rNotInA K) gNotIn := by
  intro hid H M x y v w Q Qv s r1 r2 q p
  unfold gNotIn gInB at q
  split at q
  · rename_i ds e
    obtain ⟨q1, q2, q3⟩ := q
    have q4 := p _ H _ M s (Ext.refl _ _ _) (.bl _) q3
    rcases seq_dp s r2 e q2 with ⟨h1, h2⟩ | ⟨h1, h2⟩
    · exact .inr ⟨_, _, rsv_dp s r1 q1, h1, dle_shaped q1, h2, by rw [pds_any]; exact q4⟩
    · exact .inl ⟨_, _, rsv_dp s r1 q1, h1, dle_shaped q1, h2, by rw [pds_any]; exact q4⟩
  · exact q.elim

/-! ### subscripts, slices -/
theorem Rvs.atI {K : PySem.W.Frag} {hid : List Addr} {H : Hp} {M : Mu} {xs : List V} {ds : List D} (r : Rvs K hid H M xs ds) {i : Int} {d : D} (e : L2.atI ds i = some d) : ∃ v, L2.atI xs i = some v ∧ Rv K hid H M v d := by
  unfold L2.atI at e ⊢
  rw [r.length]
  cases h : ixN ds.length i with
  | none => rw [h] at e; cases e
  | some j =>
    rw [h] at e
    obtain ⟨v, h1, h2⟩ := r.get j (d := d) e
    exact ⟨v, h1, h2⟩
def gIx : G2 := fun x y M Q => match y with
  | .int i => (match x with
    | .str z => z.length ≤ sizeLine ∧ (match L2.atI z.cps.toList i with
      | some c => Q (.str ⟨#[c]⟩) M
      | none => False)
    | x => (match seqOf M x with
      | some ds => (match L2.atI ds i with
        | some d => Q d M
        | none => False)
      | none => False))
  | _ => False
theorem o_ix {K : PySem.W.Frag} : OSim K T (rIx K) gIx := by
  intro hid H M x y v w Q Qv s r1 r2 q p
  unfold gIx at q
  split at q
  · rename_i i
    cases r2
    split at q
    · cases r1
      obtain ⟨q0, q⟩ := q
      split at q
      · rename_i c e
        exact .inr (.inr ⟨_, _, _, rfl, rfl, q0, e, p _ H _ M s (Ext.refl _ _ _) (.str _) q⟩)
      · exact q.elim
    · split at q
      · rename_i ds e
        split at q
        · rename_i d e2
          have k2 : ∀ e : lstOf M x = some ds, rIxL K v (.int i) H Qv := fun e => by
            obtain ⟨a, xs, rfl, h3, h4⟩ := lstOf_ok s r1 e
            obtain ⟨z, h5, h6⟩ := h4.atI e2
            exact ⟨_, _, _, _, rfl, rfl, h3, h5, p _ H _ M s (Ext.refl _ _ _) h6 q⟩
          cases x with
          | tup es =>
            cases e
            cases r1 with
            | tup h3 h4 =>
              obtain ⟨z, h5, h6⟩ := h4.atI e2
              exact .inr (.inl ⟨_, _, _, _, rfl, rfl, h3, h5, p _ H _ M s (Ext.refl _ _ _) h6 q⟩)
          | lst es => exact .inl (k2 e)
          | loc a => exact .inl (k2 e)
          | _ => cases e
        · exact q.elim
      · exact q.elim
  · exact q.elim
/-- a part of a slice -/
abbrev FO := XW → Env' → Mu → (Option Int → Mu → Prop) → Prop
def fNo : FO := fun _ _ M Q => Q none M
def fSome (f : FE) : FO := fun xw ρ M Q => f xw ρ M fun d M1 => match d with
  | .int i => Q (some i) M1
  | _ => False
def DO (X : Cx) (T : List Addr) (W : WX) (e : Option Expr) (f : FO) : Prop := ∃ t, PO X e t ∧ ∀ hid σ H ρ M xw Q (Qv : Option Int → Hp → Prop), REnv X.K hid H M σ ρ → Sto X.K T hid H M → WOk X.K T hid W σ H M xw → f xw ρ M Q →
  (∀ o H' M', Sto X.K T hid H' M' → Ext hid H M H' M' → Q o M' → Qv o H') → t σ H Qv
theorem do_no : DO X T W none fNo := ⟨_, po_none, fun hid σ H ρ M xw Q Qv r s w q p => p none H M s (Ext.refl _ _ _) q⟩
theorem do_some {e : Expr} {f : FE} (h : DE X T W e f) : DO X T W (some e) (fSome f) := by
  obtain ⟨t, pa, sa⟩ := h
  refine ⟨_, po_some pa, fun hid σ H ρ M xw Q Qv r s w q p => ?_⟩
  refine sa hid σ H ρ M xw _ _ r s w q fun v H1 d M1 s1 e1 r1 q1 => ?_
  cases d with
  | int i => cases r1; exact ⟨i, rfl, p _ H1 M1 s1 e1 q1⟩
  | _ => exact (show False from q1).elim
def cutD (xs : List D) (lo hi : Option Int) : List D := (xs.drop (HT.sIx xs.length 0 lo)).take (HT.sIx xs.length xs.length hi - HT.sIx xs.length 0 lo)
theorem Rvs.cut {K : PySem.W.Frag} {hid : List Addr} {H : Hp} {M : Mu} {xs : List V} {ds : List D} (r : Rvs K hid H M xs ds) (lo hi : Option Int) : Rvs K hid H M (cutV xs lo hi) (cutD ds lo hi) := by
  unfold cutV cutD
  rw [r.length]
  exact (r.drop _).take _
def gSl (x : D) (lo hi : Option Int) (M : Mu) (Q : D → Mu → Prop) : Prop := match x with
  | .tup ds => Q (.tup (cutD ds lo hi)) M
  | .str z => z.length ≤ sizeLine ∧ Q (.str (cutS z lo hi)) M
  | x => (match lstOf M x with
    | some ds => Q (.lst (cutD ds lo hi)) M
    | none => False)
def fSl (f : FE) (l u : FO) : FE := fun xw ρ M Q => f xw ρ M fun x M1 => l xw ρ M1 fun lo M2 => u xw ρ M2 fun hi M3 => gSl x lo hi M3 Q
def rSl (K : PySem.W.Frag) : V → Option Int → Option Int → Hp → VK → Prop := fun x lo hi H Q => rSlA K x lo hi H Q ∨ rSlL K x lo hi H Q
theorem sl_any : SlR X (rSl X.K) := sl_tupA.or sl_list
theorem sl_sim {K : PySem.W.Frag} {hid : List Addr} {H : Hp} {M : Mu} {v : V} {x : D} {lo hi : Option Int} {Q : D → Mu → Prop} {Qv : VK} (s : Sto K T hid H M) (r : Rv K hid H M v x) (hx : ∀ z, x ≠ .str z) (q : gSl x lo hi M Q) (p : Pst K T hid H M Q Qv) : rSl K v lo hi H Qv := by
  have k2 : ∀ ds, lstOf M x = some ds → Q (.lst (cutD ds lo hi)) M → rSl K v lo hi H Qv := fun ds e q => by
    obtain ⟨a, xs, rfl, h3, h4⟩ := lstOf_ok s r e
    exact .inr ⟨_, _, rfl, h3, fun c hc => new_lst s p (h4.cut lo hi) hc q⟩
  unfold gSl at q
  split at q
  · rename_i ds
    cases r with
    | tup h3 h4 =>
      rename_i a xs
      refine .inl ⟨_, _, rfl, h3, fun e => ?_, fun _ c hc => new_tup s p (h4.cut lo hi) hc q⟩
      have e2 : cutD ds lo hi = ds := by
        unfold cutD
        rw [h4.length] at e
        rw [e.1, e.2]
        simp
      rw [e2] at q
      exact p _ H _ M s (Ext.refl _ _ _) (.tup h3 h4) q
  · rename_i z
    exact absurd rfl (hx z)
  · split at q
    · rename_i ds e
      exact k2 ds e q
    · exact q.elim
/-- a slice of a tuple or a list -/
def fSl' (f : FE) (l u : FO) : FE := fun xw ρ M Q => f xw ρ M fun x M1 => l xw ρ M1 fun lo M2 => u xw ρ M2 fun hi M3 => (match x with
  | .str _ => False
  | x => gSl x lo hi M3 Q)
theorem de_sl {e : Expr} {lo hi : Option Expr} {f : FE} {l u : FO} {p2 pos : Pos} (h : DE X T W e f) (hl : DO X T W lo l) (hu : DO X T W hi u) : DE X T W (.Subscript e (.Slice lo hi none p2) pos) (fSl' f l u) := by
  obtain ⟨t, pa, sa⟩ := h
  obtain ⟨tl, pl, sl⟩ := hl
  obtain ⟨tu, pu, su⟩ := hu
  refine ⟨_, pe_slice sl_any pa pl pu, fun hid σ H ρ M xw Q Qv r s w q p => ?_⟩
  refine sa hid σ H ρ M xw _ _ r s w q fun v H1 d M1 s1 e1 r1 q1 => ?_
  refine sl hid σ H1 ρ M1 xw _ _ (r.ext e1) s1 (w.ext e1) q1 fun o H2 M2 s2 e2 q2 => ?_
  refine su hid σ H2 ρ M2 xw _ _ (r.ext (e1.trans e2)) s2 (w.ext (e1.trans e2)) q2 fun o3 H3 M3 s3 e3 q3 => ?_
  split at q3
  · exact q3.elim
  · rename_i hx
    exact sl_sim s3 ((e2.trans e3).rv _ _ r1) hx q3 (p.ext ((e1.trans e2).trans e3))

/-! ### calls of built-ins, by values -/
abbrev GC := List D → Mu → (D → Mu → Prop) → Prop
def CSim (K : PySem.W.Frag) (T : List Addr) (r : List V → Hp → VK → Prop) (g : GC) : Prop :=
  ∀ hid H M ds vs Q Qv, Sto K T hid H M → Rvs K hid H M vs ds → g ds M Q → Pst K T hid H M Q Qv → r vs H Qv
def fCB (g : GC) (fa : FA) : FE := fun xw ρ M Q => fa xw ρ M fun ds M1 => g ds M1 Q
theorem sim_cb {K : PySem.W.Frag} {r : List V → Hp → VK → Prop} {g : GC} {ta : TA} {fa : FA} (o : CSim K T r g) (a : ASim K T W ta fa) : ESim K T W (tCB r ta) (fCB g fa) := by
  intro hid σ H ρ M xw Q Qv r s w q p
  refine a hid σ H ρ M xw _ _ r s w q fun vs H1 ds M1 s1 e1 r1 q1 => ?_
  exact o hid H1 M1 ds vs Q Qv s1 r1 q1 (p.ext e1)
theorem de_callB {id : String} {x : Str} {p pos : Pos} {e : Expr} {es : List Expr} {r : List V → Hp → VK → Prop} {g : GC} {fa : FA} (hc : CallR X (.builtin id) r) (o : CSim X.K T r g) (hg : Gl X x) (hm : X.mg x = none) (hv : bootBuiltins x = some (.builtin id)) (ha : DA X T W (e :: es) fa)
    (hn : x ≠ "__name__") (hdb : (x == ("__debug__" : Str)) = false)
    (he : starEach (e :: es) X.env = (false, eval e X.env) :: starEach es X.env) (hpl : (backTo pos (starEach es X.env)).any (·.1) = false) : DE X T W (.Call (.Name x p) (e :: es) [] pos) (fCB g fa) := by
  obtain ⟨t, pa, sa⟩ := ha
  exact ⟨_, pe_callB hc hg hm hv pa hn hdb he hpl, sim_cb o sa⟩
theorem de_callTy {id : String} {x : Str} {p pos : Pos} {e : Expr} {es : List Expr} {r : List V → Hp → VK → Prop} {g : GC} {fa : FA} (hc : CallR X (.type id) r) (o : CSim X.K T r g) (hg : Gl X x) (hm : X.mg x = none) (hv : bootBuiltins x = some (.type id)) (ha : DA X T W (e :: es) fa)
    (hn : x ≠ "__name__") (hdb : (x == ("__debug__" : Str)) = false)
    (he : starEach (e :: es) X.env = (false, eval e X.env) :: starEach es X.env) (hpl : (backTo pos (starEach es X.env)).any (·.1) = false) : DE X T W (.Call (.Name x p) (e :: es) [] pos) (fCB g fa) := by
  obtain ⟨t, pa, sa⟩ := ha
  exact ⟨_, pe_callTy hc hg hm hv pa hn hdb he hpl, sim_cb o sa⟩
/-- a built-in class as a value -/
theorem de_tyv {n : String} {x : Str} {pos : Pos} (hg : Gl X x) (hm : X.mg x = none) (hv : bootBuiltins x = some (.type n)) (hn : x ≠ "__name__") (hd : (x == ("__debug__" : Str)) = false) : DE X T W (.Name x pos) (fC (.ty n)) :=
  ⟨_, pe_bltn (v := .ty n) hg hm hv rfl hn hd, fun hid σ H ρ M xw Q Qv r s w q p => p _ H _ M s (Ext.refl _ _ _) (.ty n) q⟩
def gLen : GC := fun ds M Q => match ds with
  | [.str x] => x.length ≤ sizeLine ∧ Q (.int x.length) M
  | [d] => (match seqOf M d with
    | some es => Q (.int es.length) M
    | none => False)
  | _ => False
theorem seq_ok {K : PySem.W.Frag} {hid : List Addr} {H : Hp} {M : Mu} (s : Sto K T hid H M) {v : V} {y : D} {ds : List D} (r : Rv K hid H M v y) (e : seqOf M y = some ds) : ∃ a xs, v = .ref a ∧ (SqL K H a xs ∨ SqT K H a xs) ∧ Rvs K hid H M xs ds := by
  have k2 : ∀ e : lstOf M y = some ds, ∃ a xs, v = .ref a ∧ (SqL K H a xs ∨ SqT K H a xs) ∧ Rvs K hid H M xs ds := fun e => by
    obtain ⟨a, xs, h1, h3, h4⟩ := lstOf_ok s r e
    exact ⟨a, xs, h1, .inl h3, h4⟩
  cases y with
  | tup es =>
    cases e
    cases r with
    | tup h3 h4 => exact ⟨_, _, rfl, .inr h3, h4⟩
  | lst es => exact k2 e
  | loc a => exact k2 e
  | _ => cases e
theorem c_len {K : PySem.W.Frag} : CSim K T (fun xs H Q => ∃ x n, xs = [x] ∧ LenV K x H n ∧ Q (.int n) H) gLen := by
  intro hid H M ds vs Q Qv s r q p
  unfold gLen at q
  split at q
  · cases r with
    | cons h r => cases r; cases h; exact ⟨_, _, rfl, ⟨q.1, rfl⟩, p _ H _ M s (Ext.refl _ _ _) (.int _) q.2⟩
  · split at q
    · rename_i d hne es e
      cases r with
      | cons h r =>
        cases r
        obtain ⟨a, xs, rfl, h3, h4⟩ := seq_ok s h e
        have hl := h4.length
        refine ⟨_, es.length, rfl, ?_, p _ H _ M s (Ext.refl _ _ _) (.int _) q⟩
        rcases h3 with h3 | h3
        · exact .inl ⟨xs, h3, hl.symm⟩
        · exact .inr ⟨xs, h3, hl.symm⟩
    · exact q.elim
  · exact q.elim
def gInt : GC := fun ds M Q => match ds with
  | [.int i] => Q (.int i) M
  | [.bl b] => Q (.int (if b then 1 else 0)) M
  | _ => False
theorem c_int {K : PySem.W.Frag} : CSim K T (fun xs H Q => (∃ i, xs = [.int i] ∧ Q (.int i) H) ∨ ∃ k, xs = [.bl k] ∧ Q (.int (if k then 1 else 0)) H) gInt := by
  intro hid H M ds vs Q Qv s r q p
  unfold gInt at q
  split at q
  · cases r with
    | cons h r => cases r; cases h; exact .inl ⟨_, rfl, p _ H _ M s (Ext.refl _ _ _) (.int _) q⟩
  · cases r with
    | cons h r => cases r; cases h; exact .inr ⟨_, rfl, p _ H _ M s (Ext.refl _ _ _) (.int _) q⟩
  · exact q.elim
def gList : GC := fun ds M Q => match ds with
  | [d] => (match seqOf M d with
    | some es => Q (.lst es) M
    | none => False)
  | _ => False
def gTuple : GC := fun ds M Q => match ds with
  | [d] => (match seqOf M d with
    | some es => Q (.tup es) M
    | none => False)
  | _ => False
theorem c_list {K : PySem.W.Frag} : CSim K T (fun xs H Q => ∃ p ys, xs = [.ref p] ∧ (SqL K H p ys ∨ SqT K H p ys) ∧ ∀ l, H l = none → Q (.ref l) (upd H l (.lst ys))) gList := by
  intro hid H M ds vs Q Qv s r q p
  unfold gList at q
  split at q
  · split at q
    · rename_i d es e
      cases r with
      | cons h r =>
        cases r
        obtain ⟨a, xs, rfl, h3, h4⟩ := seq_ok s h e
        exact ⟨_, _, rfl, h3, fun c hc => new_lst s p h4 hc q⟩
    · exact q.elim
  · exact q.elim
theorem c_tuple {K : PySem.W.Frag} : CSim K T (fun xs H Q => ∃ p ys, xs = [.ref p] ∧ ((SqL K H p ys ∧ ∀ l, H l = none → Q (.ref l) (upd H l (.tup ys))) ∨ (SqT K H p ys ∧ Q (.ref p) H))) gTuple := by
  intro hid H M ds vs Q Qv s r q p
  unfold gTuple at q
  split at q
  · rename_i d
    split at q
    · rename_i es e
      cases r with
      | cons h r =>
        cases r
        have k2 : ∀ (e : lstOf M d = some es) (w : V), Rv K hid H M w d → ∃ p ys, [w] = [.ref p] ∧ ((SqL K H p ys ∧ ∀ l, H l = none → Qv (.ref l) (upd H l (.tup ys))) ∨ (SqT K H p ys ∧ Qv (.ref p) H)) := fun e w h => by
          obtain ⟨a, xs, rfl, h3, h4⟩ := lstOf_ok s h e
          exact ⟨_, _, rfl, .inl ⟨h3, fun c hc => new_tup s p h4 hc q⟩⟩
        cases d with
        | tup es' =>
          cases e
          cases h with
          | tup h3 h4 => exact ⟨_, _, rfl, .inr ⟨h3, p _ H _ M s (Ext.refl _ _ _) (.tup h3 h4) q⟩⟩
        | lst es' => exact k2 e _ h
        | loc a => exact k2 e _ h
        | _ => cases e
    · exact q.elim
  · exact q.elim
def gMax : GC := fun ds M Q => match ds with
  | [.int i, .int j] => Q (.int (if j > i then j else i)) M
  | _ => False
def gMin : GC := fun ds M Q => match ds with
  | [.int i, .int j] => Q (.int (if j < i then j else i)) M
  | _ => False
theorem c_max {K : PySem.W.Frag} : CSim K T (fun xs H Q => ∃ i j, xs = [.int i, .int j] ∧ Q (.int (if j > i then j else i)) H) gMax := by
  intro hid H M ds vs Q Qv s r q p
  unfold gMax at q
  split at q
  · cases r with
    | cons h r => cases r with
      | cons h' r => cases r; cases h; cases h'; exact ⟨_, _, rfl, p _ H _ M s (Ext.refl _ _ _) (.int _) q⟩
  · exact q.elim
theorem c_min {K : PySem.W.Frag} : CSim K T (fun xs H Q => ∃ i j, xs = [.int i, .int j] ∧ Q (.int (if j < i then j else i)) H) gMin := by
  intro hid H M ds vs Q Qv s r q p
  unfold gMin at q
  split at q
  · cases r with
    | cons h r => cases r with
      | cons h' r => cases r; cases h; cases h'; exact ⟨_, _, rfl, p _ H _ M s (Ext.refl _ _ _) (.int _) q⟩
  · exact q.elim
/-- isinstance(x, bool) -/
def gIsBool : GC := fun ds M Q => match ds with
  | [.bl _, .ty n] => n = "bool" ∧ Q (.bl true) M
  | [.int _, .ty n] => n = "bool" ∧ Q (.bl false) M
  | _ => False
theorem c_isBool {K : PySem.W.Frag} : CSim K T (rIsi K) gIsBool := by
  intro hid H M ds vs Q Qv s r q p
  unfold gIsBool at q
  split at q
  · cases r with
    | cons h r => cases r with
      | cons h' r =>
        cases r; cases h; cases h'
        obtain ⟨rfl, q⟩ := q
        exact ⟨_, _, .type "bool", .type "bool", true, rfl, .ty "bool", .base (.bl _), kit_ty (by decide +kernel), p _ H _ M s (Ext.refl _ _ _) (.bl _) q⟩
  · cases r with
    | cons h r => cases r with
      | cons h' r =>
        cases r; cases h; cases h'
        obtain ⟨rfl, q⟩ := q
        exact ⟨_, _, .type "int", .type "bool", false, rfl, .ty "bool", .base (.int _), kit_ty (by decide +kernel), p _ H _ M s (Ext.refl _ _ _) (.bl _) q⟩
  · exact q.elim
end
end U

set_option Elab.async false
set_option linter.all false
set_option maxRecDepth 100000
set_option maxHeartbeats 1000000
/-! U4: targets, what is walked, comprehensions, statements. -/
namespace U
open PySem PySem.Spec PyProof.Rows L2

/-! ### uniform readings -/
def canE (K : PySem.W.Frag) (T : List Addr) (W : WX) (f : FE) : TE := fun σ H Qv => ∃ hid ρ M xw Q, REnv K hid H M σ ρ ∧ Sto K T hid H M ∧ WOk K T hid W σ H M xw ∧ f xw ρ M Q ∧ Pst K T hid H M Q Qv
def canT (K : PySem.W.Frag) (T : List Addr) (W : WX) (f : FT) : TT := fun σ H Qv => ∃ hid ρ M xw Q, REnv K hid H M σ ρ ∧ Sto K T hid H M ∧ WOk K T hid W σ H M xw ∧ f xw ρ M Q ∧ PstB K T hid H M Q Qv
section
variable {X : Cx} {K : PySem.W.Frag} {T : List Addr} {W : WX}
theorem DE.can {e : Expr} {f : FE} (h : DE X T W e f) : PE X e (canE X.K T W f) := by
  obtain ⟨t, p, s⟩ := h
  exact ⟨fun pins s1 σ H Q I q => p.run pins s1 σ H Q I (let ⟨hid, ρ, M, xw, Q', a, b, c, d, e⟩ := q; s hid σ H ρ M xw Q' Q a b c d e)⟩
theorem canE_sim {f : FE} : ESim K T W (canE K T W f) f := fun hid σ H ρ M xw Q Qv a b c d e => ⟨hid, ρ, M, xw, Q, a, b, c, d, e⟩
theorem canT_sim {f : FT} : TSim K T W (canT K T W f) f := fun hid σ H ρ M xw Q Qv a b c d e => ⟨hid, ρ, M, xw, Q, a, b, c, d, e⟩
/-- a clause's tests -/
def DTs (X : Cx) (T : List Addr) (W : WX) (ifs : List Expr) (f : FT) : Prop := ∃ t, PTs X ifs t ∧ TSim X.K T W t f
def fYes : FT := fun _ _ M Q => Q true M
theorem dts_nil : DTs X T W [] fYes := ⟨_, pts_nil, fun hid σ H ρ M xw Q Qv r s w q p => p true H M s (Ext.refl _ _ _) q⟩
theorem dts_one {c : Expr} {f : FT} (h : DT X T W c f) : DTs X T W [c] f := let ⟨t, p, s⟩ := h; ⟨t, pts_one p, s⟩
theorem DTs.can {ifs : List Expr} {f : FT} (h : DTs X T W ifs f) : PTs X ifs (canT X.K T W f) := by
  obtain ⟨t, p, s⟩ := h
  exact ⟨fun pins s1 σ H Q I q => p.run pins s1 σ H Q I (let ⟨hid, ρ, M, xw, Q', a, b, c, d, e⟩ := q; s hid σ H ρ M xw Q' Q a b c d e)⟩
end

/-! ### carried from one place to another -/
structure Car (K : PySem.W.Frag) (hid : List Addr) (H : Hp) (M : Mu) (hid' : List Addr) (H' : Hp) (M' : Mu) : Prop where
  sqT : ∀ a xs, SqT K H a xs → SqT K H' a xs
  fzL : ∀ a xs, FzL K hid H M a xs → FzL K hid' H' M' a xs
section
variable {K : PySem.W.Frag} {T hid hid' hid2 : List Addr} {H H' H2 : Hp} {M M' M2 : Mu} {σ : L2.St} {ρ : Env'}
mutual
theorem Car.rv (e : Car K hid H M hid' H' M') : ∀ (d : D) (v : V), Rv K hid H M v d → Rv K hid' H' M' v d
  | .non, _, h => by cases h; exact .non
  | .bl b, _, h => by cases h; exact .bl b
  | .int i, _, h => by cases h; exact .int i
  | .str x, _, h => by cases h; exact .str x
  | .tup ds, _, h => by
    cases h with
    | tup h r => exact .tup (e.sqT _ _ h) (Car.rvs e ds _ r)
  | .lst ds, _, h => by
    cases h with
    | lst h r => exact .lst (e.fzL _ _ h) (Car.rvs e ds _ r)
  | .loc a, _, h => by cases h; exact .loc a
  | .ty n, _, h => by cases h; exact .ty n
theorem Car.rvs (e : Car K hid H M hid' H' M') : ∀ (ds : List D) (vs : List V), Rvs K hid H M vs ds → Rvs K hid' H' M' vs ds
  | [], _, h => by cases h; exact .nil
  | d :: ds, _, h => by
    cases h with
    | cons h r => exact .cons (Car.rv e d _ h) (Car.rvs e ds _ r)
end
theorem Car.trans (a : Car K hid H M hid' H' M') (b : Car K hid' H' M' hid2 H2 M2) : Car K hid H M hid2 H2 M2 := ⟨fun x xs h => b.sqT _ _ (a.sqT _ _ h), fun x xs h => b.fzL _ _ (a.fzL _ _ h)⟩
theorem Car.refl : Car K hid H M hid H M := ⟨fun _ _ h => h, fun _ _ h => h⟩
theorem Ext.car (e : Ext hid H M H' M') : Car K hid H M hid H' M' := ⟨fun _ _ h => e.sqT h, fun _ _ h => e.fzL h⟩
theorem REnv.car (r : REnv K hid H M σ ρ) (e : Car K hid H M hid' H' M') : REnv K hid' H' M' σ ρ :=
  ⟨r.1, fun i d h => let ⟨v, h1, h2⟩ := r.2 i d h; ⟨v, h1, e.rv _ _ h2⟩⟩
theorem MOk.car (e : Car K hid H M hid' H' M') {a : Addr} {m : MO} (h : MOk K hid H M a m) (k : H' a = H a) : MOk K hid' H' M' a m := by
  cases m with
  | lst ds => obtain ⟨xs, h1, h2⟩ := h; exact ⟨xs, by rw [k]; exact h1, e.rvs _ _ h2⟩
  | dct kvs => exact h
  | ins C fs => obtain ⟨dx, fvs, h1, h3, h2⟩ := h; exact ⟨dx, fvs, by rw [k]; exact h1, h3, e.rvs _ _ h2⟩
theorem Sto.lst_at (s : Sto K T hid H M) {p : Addr} (hp : p ∈ hid) {a : Addr} {m : MO} (h : M a = some m) : a ≠ p := by
  rintro rfl; rw [(s.hidn a hp).1] at h; cases h
/-- a list under way at D, hidden -/
theorem Car.hide (s : Sto K T hid H M) {D : Addr} {o : HO} (hD : H D = none) : Car K hid H M (D :: hid) (upd H D o) M := by
  have e := Ext.new (o := o) s hD
  refine ⟨fun _ _ h => e.sqT h, fun a xs h => ?_⟩
  rcases h with ⟨h1, h2, h3⟩ | ⟨ob, h⟩ | h
  · refine .inl ⟨by rw [upd_ne (ne_of_none h1 hD)]; exact h1, h2, ?_⟩
    rw [List.mem_cons, not_or]
    exact ⟨ne_of_none h1 hD, h3⟩
  · exact .inr (.inl ⟨ob, e.frz _ _ _ h⟩)
  · exact .inr (.inr h)
theorem Sto.hide (s : Sto K T hid H M) {D : Addr} {o : HO} (hD : H D = none) : Sto K T (D :: hid) (upd H D o) M := by
  have c := Car.hide (o := o) s hD
  have s1 := s.new (o := o) hD
  refine ⟨fun a m h => ?_, s1.tab, fun a ha => ?_⟩
  · have hne : a ≠ D := by rintro rfl; rw [(s.fresh hD).1] at h; cases h
    exact (s.mem a m h).car c (upd_ne hne)
  · rcases List.mem_cons.mp ha with rfl | ha
    · exact ⟨(s.fresh hD).1, by rw [upd_same]; exact fun z => nomatch z⟩
    · exact s1.hidn a ha
theorem Car.unhide {D : Addr} : Car K (D :: hid) H M hid H M := by
  refine ⟨fun _ _ h => h, fun a xs h => ?_⟩
  rcases h with ⟨h1, h2, h3⟩ | h | h
  · exact .inl ⟨h1, h2, fun z => h3 (List.mem_cons_of_mem _ z)⟩
  · exact .inr (.inl h)
  · exact .inr (.inr h)
theorem Sto.unhide {D : Addr} (s : Sto K T (D :: hid) H M) : Sto K T hid H M :=
  ⟨fun a m h => (s.mem a m h).car Car.unhide rfl, s.tab, fun a ha => s.hidn a (List.mem_cons_of_mem _ ha)⟩
theorem Ext.under {H1 : Hp} {M1 : Mu} {D : Addr} (a : Ext hid H1 M1 H M) (hD : H1 D = none) (b : Ext (D :: hid) H M H' M') : Ext hid H1 M1 H' M' := by
  refine ⟨fun x xs h => b.tup _ _ (a.tup x xs h), fun x o u h => b.frz _ _ _ (a.frz x o u h), fun x xs h h' z => ?_, fun x hx => (b.hid x (List.mem_cons_of_mem _ hx)).trans (a.hid x hx), fun x h => b.dom x (a.dom x h)⟩
  obtain ⟨p, q⟩ := a.lst x xs h h' z
  exact b.lst x xs p q (by rw [List.mem_cons, not_or]; exact ⟨ne_of_none h hD, z⟩)
theorem Car.of_under {H1 : Hp} {M1 : Mu} {D : Addr} (a : Ext hid H1 M1 H M) (hD : H1 D = none) : Car K hid H1 M1 (D :: hid) H M := by
  refine ⟨fun _ _ h => a.sqT h, fun x xs h => ?_⟩
  rcases h with ⟨h1, h2, h3⟩ | ⟨ob, h⟩ | h
  · obtain ⟨p, q⟩ := a.lst x xs h1 h2 h3
    exact .inl ⟨p, q, by rw [List.mem_cons, not_or]; exact ⟨ne_of_none h1 hD, h3⟩⟩
  · exact .inr (.inl ⟨ob, a.frz _ _ _ h⟩)
  · exact .inr (.inr h)
/-- the hidden list is written -/
theorem Car.whid {D : Addr} {xs : List V} {o : HO} (h : H D = some (.lst xs)) : Car K (D :: hid) H M (D :: hid) (upd H D o) M := by
  refine ⟨fun a ys q => ?_, fun a ys q => ?_⟩
  · rcases q with (q | ⟨ob, q⟩) | q
    · exact .inl (.inl (by rw [upd_ne (by rintro rfl; rw [h] at q; cases q)]; exact q))
    · exact .inl (.inr ⟨ob, by rw [upd_ne (by rintro rfl; rw [h] at q; cases q)]; exact q⟩)
    · exact .inr q
  · rcases q with ⟨h1, h2, h3⟩ | ⟨ob, q⟩ | q
    · exact .inl ⟨by rw [upd_ne (fun e => h3 (by rw [e]; exact List.mem_cons_self))]; exact h1, h2, h3⟩
    · exact .inr (.inl ⟨ob, by rw [upd_ne (by rintro rfl; rw [h] at q; cases q)]; exact q⟩)
    · exact .inr (.inr q)
theorem Sto.whid {D : Addr} {xs ys : List V} (s : Sto K T (D :: hid) H M) (h : H D = some (.lst xs)) : Sto K T (D :: hid) (upd H D (.lst ys)) M := by
  refine ⟨fun a m q => (s.mem a m q).car (Car.whid h) (upd_ne (s.lst_at List.mem_cons_self q)), fun P hP => ?_, fun a ha => ?_⟩
  · obtain ⟨ps, h1, h2⟩ := s.tab P hP
    exact ⟨ps, by rw [upd_ne (by rintro rfl; rw [h] at h1; cases h1)]; exact h1, h2⟩
  · obtain ⟨h1, h2⟩ := s.hidn a ha
    refine ⟨h1, ?_⟩
    by_cases e : a = D
    · subst e; rw [upd_same]; exact fun z => nomatch z
    · rw [upd_ne e]; exact h2
theorem Ext.whid {H1 : Hp} {M1 : Mu} {D : Addr} {o : HO} (a : Ext hid H1 M1 H M) (hD : H1 D = none) (hn : D ∉ hid) : Ext hid H1 M1 (upd H D o) M := by
  refine ⟨fun x xs h => by rw [upd_ne (ne_of_none h hD)]; exact a.tup x xs h, fun x o u h => by rw [upd_ne (ne_of_none h hD)]; exact a.frz x o u h, fun x xs h h' z => ?_, fun x hx => ?_, fun x h => upd_dom x (a.dom x h)⟩
  · obtain ⟨p, q⟩ := a.lst x xs h h' z
    exact ⟨by rw [upd_ne (ne_of_none h hD)]; exact p, q⟩
  · by_cases e : x = D
    · subst e
      exact absurd hx hn
    · rw [upd_ne e]; exact a.hid x hx
end

/-! ### slots wiped -/
theorem wipe_get (σ : L2.St) (j : Nat) : ∀ vs : List Nat, (wipe σ vs)[j]? = if j ∈ vs then σ[j]?.map (fun _ => none) else σ[j]?
  | [] => by simp [wipe]
  | v :: vs => by
    unfold wipe
    rw [List.getElem?_set]
    by_cases e : v = j
    · subst e
      rw [if_pos rfl, if_pos List.mem_cons_self, wipe_length]
      by_cases h : v < σ.length
      · rw [if_pos h, List.getElem?_eq_getElem h]; rfl
      · rw [if_neg h, List.getElem?_eq_none (by omega)]; rfl
    · rw [if_neg e, wipe_get σ j vs]
      have : (j ∈ v :: vs) ↔ j ∈ vs := by rw [List.mem_cons]; exact ⟨fun h => h.resolve_left (Ne.symm e), .inr⟩
      simp only [this]
theorem wipe_set {σ : L2.St} {i : Nat} {x : Option V} {vs : List Nat} (h : i ∈ vs) : wipe (σ.set i x) vs = wipe σ vs := by
  apply List.ext_getElem?
  intro j
  rw [wipe_get, wipe_get]
  by_cases e : j ∈ vs
  · rw [if_pos e, if_pos e]
    by_cases z : i = j
    · subst z
      rw [List.getElem?_set]
      by_cases hl : i < σ.length
      · rw [if_pos rfl, if_pos hl, List.getElem?_eq_getElem hl]; rfl
      · rw [if_pos rfl, if_neg hl, List.getElem?_eq_none (by omega)] <;> rfl
    · rw [List.getElem?_set_ne z]
  · rw [if_neg e, if_neg e, List.getElem?_set_ne (by rintro rfl; exact e h)]
theorem wipe_wipe {σ : L2.St} {vs : List Nat} : wipe (wipe σ vs) vs = wipe σ vs := by
  apply List.ext_getElem?
  intro j
  rw [wipe_get, wipe_get]
  by_cases e : j ∈ vs
  · rw [if_pos e, if_pos e]; cases σ[j]? <;> rfl
  · rw [if_neg e, if_neg e]
def wipeE (ρ : Env') : List Nat → Env'
  | [] => ρ
  | v :: vs => (wipeE ρ vs).set v none
theorem wipeE_get (ρ : Env') (j : Nat) : ∀ vs : List Nat, (wipeE ρ vs)[j]? = if j ∈ vs then ρ[j]?.map (fun _ => none) else ρ[j]?
  | [] => by simp [wipeE]
  | v :: vs => by
    have hl : ∀ us : List Nat, (wipeE ρ us).length = ρ.length := fun us => by
      induction us with
      | nil => rfl
      | cons u us ih => unfold wipeE; rw [List.length_set]; exact ih
    unfold wipeE
    rw [List.getElem?_set]
    by_cases e : v = j
    · subst e
      rw [if_pos rfl, if_pos List.mem_cons_self, hl]
      by_cases h : v < ρ.length
      · rw [if_pos h, List.getElem?_eq_getElem h]; rfl
      · rw [if_neg h, List.getElem?_eq_none (by omega)]; rfl
    · rw [if_neg e, wipeE_get ρ j vs]
      have : (j ∈ v :: vs) ↔ j ∈ vs := by rw [List.mem_cons]; exact ⟨fun h => h.resolve_left (Ne.symm e), .inr⟩
      simp only [this]
theorem wipeE_length (ρ : Env') : ∀ vs : List Nat, (wipeE ρ vs).length = ρ.length
  | [] => rfl
  | v :: vs => by unfold wipeE; rw [List.length_set]; exact wipeE_length ρ vs
theorem REnv.wipe {K : PySem.W.Frag} {hid : List Addr} {H : Hp} {M : Mu} {σ : L2.St} {ρ : Env'} (r : REnv K hid H M σ ρ) (vs : List Nat) : REnv K hid H M (L2.wipe σ vs) (wipeE ρ vs) := by
  refine ⟨by rw [wipeE_length, wipe_length]; exact r.1, fun i d h => ?_⟩
  rw [wipeE_get] at h
  by_cases e : i ∈ vs
  · rw [if_pos e] at h
    cases q : ρ[i]? with
    | none => rw [q] at h; cases h
    | some o => rw [q] at h; cases h
  · rw [if_neg e] at h
    obtain ⟨v, h1, h2⟩ := r.2 i d h
    exact ⟨v, by rw [wipe_get, if_neg e]; exact h1, h2⟩
end U

set_option Elab.async false
set_option linter.all false
set_option maxRecDepth 100000
set_option maxHeartbeats 1000000
/-! U5: targets, what is walked, new lists, comprehensions. -/
namespace U
open PySem PySem.Spec PyProof.Rows L2

/-! ### targets -/
abbrev BD := D → Env' → Option Env'
abbrev BL := List D → Env' → Option Env'
def GSim (K : PySem.W.Frag) (T : List Addr) (g : TG) (b : BD) (vs : List Nat) : Prop :=
  ∀ hid H M σ ρ v d ρ' (Q : L2.St → Hp → Prop), REnv K hid H M σ ρ → Sto K T hid H M → Rv K hid H M v d → b d ρ = some ρ' → (∀ σ', REnv K hid H M σ' ρ' → wipe σ' vs = wipe σ vs → Q σ' H) → g v σ H Q
def GLSim (K : PySem.W.Frag) (T : List Addr) (g : TGs) (b : BL) (vs : List Nat) : Prop :=
  ∀ hid H M σ ρ xs ds ρ' (Q : L2.St → Hp → Prop), REnv K hid H M σ ρ → Sto K T hid H M → Rvs K hid H M xs ds → b ds ρ = some ρ' → (∀ σ', REnv K hid H M σ' ρ' → wipe σ' vs = wipe σ vs → Q σ' H) → g xs σ H Q
def DG (X : Cx) (T : List Addr) (tg : Expr) (b : BD) (vs : List Nat) : Prop := ∃ g, PG X tg g ∧ GSim X.K T g b vs
def DGs (X : Cx) (T : List Addr) (tgs : List Expr) (b : BL) (vs : List Nat) : Prop := ∃ g, PGs X tgs g ∧ GLSim X.K T g b vs
def canG (K : PySem.W.Frag) (T : List Addr) (b : BD) (vs : List Nat) : TG := fun v σ H Q => ∃ hid M ρ d ρ', REnv K hid H M σ ρ ∧ Sto K T hid H M ∧ Rv K hid H M v d ∧ b d ρ = some ρ' ∧ ∀ σ', REnv K hid H M σ' ρ' → wipe σ' vs = wipe σ vs → Q σ' H
def bNm (i : Nat) : BD := fun d ρ => some (ρ.set i (some d))
def bNil : BL := fun ds ρ => match ds with
  | [] => some ρ
  | _ => none
def bCons (b : BD) (bs : BL) : BL := fun ds ρ => match ds with
  | d :: ds => (b d ρ).bind (bs ds)
  | [] => none
def bTup (n : Nat) (bs : BL) : BD := fun d ρ => match d with
  | .tup ds => if ds.length = n then bs ds ρ else none
  | _ => none
section
variable {X : Cx} {T : List Addr} {W : WX} {vs : List Nat}
theorem DG.can {tg : Expr} {b : BD} (h : DG X T tg b vs) : PG X tg (canG X.K T b vs) := by
  obtain ⟨g, p, s⟩ := h
  exact ⟨fun pins s1 σ H v u Q I r q => p.run pins s1 σ H v u Q I r (let ⟨hid, M, ρ, d, ρ', a, b, c, e, k⟩ := q; s hid H M σ ρ v d ρ' Q a b c e k)⟩
theorem canG_sim {K : PySem.W.Frag} {b : BD} : GSim K T (canG K T b vs) b vs := fun hid H M σ ρ v d ρ' Q a b c e k => ⟨hid, M, ρ, d, ρ', a, b, c, e, k⟩
theorem dg_nm {i : Nat} {x : Str} {pos : Pos} (hN : X.N.Nodup) (hi : X.N[i]? = some x) (hx : Loc X.env.scope x) (hf : X.fn x = true ∨ X.env.scope.names.lookup x = some .local) (hv : i ∈ vs) : DG X T (.Name x pos) (bNm i) vs := by
  refine ⟨_, pg_name hN hi hx hf, fun hid H M σ ρ v d ρ' Q r s rv e q => ?_⟩
  cases e
  exact q _ (r.set i rv) (wipe_set hv)
theorem dgs_nil : DGs X T [] bNil vs := by
  refine ⟨_, pgs_nil, fun hid H M σ ρ xs ds ρ' Q r s rv e q => ?_⟩
  cases rv with
  | nil => cases e; exact ⟨rfl, q _ r rfl⟩
  | cons => cases e
theorem dgs_cons {e : Expr} {es : List Expr} {b : BD} {bs : BL} (h1 : DG X T e b vs) (h2 : DGs X T es bs vs) (hs : (assignEach (e :: es) X.env).map (·.2) = assign e X.env :: (assignEach es X.env).map (·.2)) : DGs X T (e :: es) (bCons b bs) vs := by
  obtain ⟨g, p, s⟩ := h1
  obtain ⟨g2, p2, s2⟩ := h2
  refine ⟨_, pgs_cons p p2 hs, fun hid H M σ ρ xs ds ρ' Q r st rv e q => ?_⟩
  cases rv with
  | nil => cases e
  | cons hv rv =>
    rename_i v vr d dr
    unfold bCons at e
    dsimp only at e
    cases e1 : b d ρ with
    | none => rw [e1] at e; cases e
    | some ρ1 =>
      rw [e1] at e
      refine ⟨v, vr, rfl, s hid H M σ ρ v d ρ1 _ r st hv e1 fun σ1 r1 w1 => ?_⟩
      exact s2 hid H M σ1 ρ1 vr dr ρ' Q r1 st rv e fun σ2 r2 w2 => q σ2 r2 (w2.trans w1)
theorem dg_tup {es : List Expr} {k n : Nat} {bs : BL} {pos : Pos} (hc : X.calm = true) (h : DGs X T es bs vs) (hn : (assignEach es X.env).length = n) (hst : (assignEach es X.env).findIdx? (·.1) = none) : DG X T (.Tuple es k pos) (bTup n bs) vs := by
  obtain ⟨g, p, s⟩ := h
  refine ⟨_, pg_tup hc p hn hst, fun hid H M σ ρ v d ρ' Q r st rv e q => ?_⟩
  cases d with
  | tup ds =>
    cases rv with
    | tup h1 h2 =>
      unfold bTup at e
      dsimp only at e
      by_cases hl : ds.length = n
      · rw [if_pos hl] at e
        exact ⟨_, _, rfl, h1, by rw [h2.length]; exact hl, s hid H M σ ρ _ ds ρ' Q r st h2 e q⟩
      · rw [if_neg hl] at e; cases e
  | _ => cases e
end

/-! ### what is walked -/
abbrev FI := XW → Env' → Mu → (List D → Mu → Prop) → Prop
def Itm (K : PySem.W.Frag) (T hid : List Addr) (J : It) (H0 : Hp) (M0 : Mu) (ds : List D) : Prop :=
  ∀ hid' H M, Sto K T hid' H M → Car K hid H0 M0 hid' H M →
    (∀ i, i < ds.length → J.go i H ∧ ∀ x H', J.yld i H x H' → ∃ d, ds[i]? = some d ∧ Sto K T hid' H' M ∧ Ext hid' H M H' M ∧ Rv K hid' H' M x d) ∧ J.stop ds.length H
def ISim (K : PySem.W.Frag) (T : List Addr) (W : WX) (wi : TI) (fi : FI) : Prop :=
  ∀ hid σ H ρ M xw Q (R : It → Hp → Prop), REnv K hid H M σ ρ → Sto K T hid H M → WOk K T hid W σ H M xw → fi xw ρ M Q →
    (∀ J H' M' ds, Sto K T hid H' M' → Ext hid H M H' M' → Itm K T hid J H' M' ds → Q ds M' → R J H') → wi σ H R
def DI (X : Cx) (T : List Addr) (W : WX) (tg iter : Expr) (fi : FI) : Prop := ∃ wi, PI X tg iter wi ∧ ISim X.K T W wi fi
theorem Itm.car {K : PySem.W.Frag} {T hid hid2 : List Addr} {J : It} {H0 H2 : Hp} {M0 M2 : Mu} {ds : List D} (h : Itm K T hid J H0 M0 ds) (c : Car K hid H0 M0 hid2 H2 M2) : Itm K T hid2 J H2 M2 ds :=
  fun hid' H M s c2 => h hid' H M s (c.trans c2)
/-- a list or a tuple -/
def iLT (K : PySem.W.Frag) (tl : TE) : TI := fun σ H R => tl σ H fun x H1 => ∃ a, x = .ref a ∧ (((∃ xs, SqL K H1 a xs) ∧ R (Itl K a) H1) ∨ ((∃ xs, SqT K H1 a xs) ∧ R (Itt K a) H1))
theorem pi_lt {X : Cx} {tg l : Expr} {tl : TE} (hl : PE X l tl) : PI X tg l (iLT X.K tl) := by
  refine ⟨fun pins s σ H R I h => ?_⟩
  refine thn (hl.run pins s σ H _ I h) fun v s1 ⟨x, H1, I1, r1, q1⟩ => ?_
  obtain ⟨a, e, q1⟩ := q1
  subst e
  cases r1
  rcases q1 with ⟨⟨xs, hq⟩, q⟩ | ⟨⟨xs, hq⟩, q⟩
  · obtain ⟨its, rv, p, hz⟩ := I1.list hq
    refine wpAny_pyIter_list p.isList ?_
    refine ⟨s1.heap.objs.size, [s1.heap.objs.size], _, _, H1, rfl, I1.kept (t' := s1.toks) fun b o e => Heap.get?_push_of_some _ e, turn_list a _, ⟨_, Heap.get?_push_size _ rfl, rfl, rfl⟩, fun b hb => ?_, q⟩
    have e : b = s1.heap.objs.size := by simpa using hb
    subst e
    exact I1.fpOk (Nat.le_refl _) (I1.hok.fresh (Nat.le_refl _))
  · obtain ⟨its, rv, p, hz⟩ := I1.tuple hq
    refine wpAny_pyIter_tuple (show s1.heap.IsTuple a its.toArray from p) ?_
    refine ⟨s1.heap.objs.size, [s1.heap.objs.size], _, _, H1, rfl, I1.kept (t' := s1.toks) fun b o e => Heap.get?_push_of_some _ e, turn_tuple a _, ⟨_, Heap.get?_push_size _ rfl, rfl, rfl⟩, fun b hb => ?_, q⟩
    have e : b = s1.heap.objs.size := by simpa using hb
    subst e
    exact I1.fpOk (Nat.le_refl _) (I1.hok.fresh (Nat.le_refl _))
def fSeq (f : FE) : FI := fun xw ρ M Q => f xw ρ M fun d M1 => match d with
  | .tup ds => Q ds M1
  | .lst ds => Q ds M1
  | _ => False
theorem itm_list {K : PySem.W.Frag} {T hid : List Addr} {H : Hp} {M : Mu} {a : Addr} {xs : List V} {ds : List D} (h : FzL K hid H M a xs) (r : Rvs K hid H M xs ds) : Itm K T hid (Itl K a) H M ds := by
  intro hid' H' M' s c
  have h' := (c.fzL _ _ h).sq
  have r' := c.rvs _ _ r
  have hl := r.length
  refine ⟨fun i hi => ⟨⟨xs, xs[i]'(by omega), h', List.getElem?_eq_getElem (by omega)⟩, fun x H2 y => ?_⟩, ⟨xs, h', by omega⟩⟩
  obtain ⟨rfl, y⟩ := y
  obtain ⟨v, h1, h2⟩ := r'.get i (d := ds[i]) (List.getElem?_eq_getElem hi)
  rw [y xs h'] at h1
  cases h1
  exact ⟨_, List.getElem?_eq_getElem hi, s, Ext.refl _ _ _, h2⟩
theorem itm_tup {K : PySem.W.Frag} {T hid : List Addr} {H : Hp} {M : Mu} {a : Addr} {xs : List V} {ds : List D} (h : SqT K H a xs) (r : Rvs K hid H M xs ds) : Itm K T hid (Itt K a) H M ds := by
  intro hid' H' M' s c
  have h' := c.sqT _ _ h
  have r' := c.rvs _ _ r
  have hl := r.length
  refine ⟨fun i hi => ⟨⟨xs, xs[i]'(by omega), h', List.getElem?_eq_getElem (by omega)⟩, fun x H2 y => ?_⟩, ⟨xs, h', by omega⟩⟩
  obtain ⟨rfl, y⟩ := y
  obtain ⟨v, h1, h2⟩ := r'.get i (d := ds[i]) (List.getElem?_eq_getElem hi)
  rw [y xs h'] at h1
  cases h1
  exact ⟨_, List.getElem?_eq_getElem hi, s, Ext.refl _ _ _, h2⟩
section
variable {X : Cx} {T : List Addr} {W : WX} {tg : Expr}
theorem di_seq {e : Expr} {f : FE} (h : DE X T W e f) : DI X T W tg e (fSeq f) := by
  obtain ⟨t, p, sa⟩ := h
  refine ⟨_, pi_lt p, fun hid σ H ρ M xw Q R r s w q k => ?_⟩
  refine sa hid σ H ρ M xw _ _ r s w q fun v H1 d M1 s1 e1 r1 q1 => ?_
  cases d with
  | tup ds =>
    cases r1 with
    | tup h1 h2 => exact ⟨_, rfl, .inr ⟨⟨_, h1⟩, k _ H1 M1 ds s1 e1 (itm_tup h1 h2) q1⟩⟩
  | lst ds =>
    cases r1 with
    | lst h1 h2 => exact ⟨_, rfl, .inl ⟨⟨_, h1.sq⟩, k _ H1 M1 ds s1 e1 (itm_list h1 h2) q1⟩⟩
  | _ => exact (show False from q1).elim
def rngD (lo : Int) (n : Nat) : List D := (List.range n).map fun k => .int (lo + (k : Nat))
theorem itm_rng {K : PySem.W.Frag} {hid : List Addr} {H : Hp} {M : Mu} {lo : Int} {n : Nat} : Itm K T hid (Itr lo n) H M (rngD lo n) := by
  intro hid' H' M' s c
  have hl : (rngD lo n).length = n := by unfold rngD; rw [List.length_map, List.length_range]
  refine ⟨fun i hi => ⟨by rw [hl] at hi; exact hi, fun x H2 y => ?_⟩, by rw [hl]; exact Nat.le_refl n⟩
  obtain ⟨rfl, rfl⟩ := y
  refine ⟨.int (lo + (i : Nat)), ?_, s, Ext.refl _ _ _, .int _⟩
  unfold rngD
  rw [hl] at hi
  rw [List.getElem?_map, List.getElem?_range hi]; rfl
def fRng1 (fa : FA) : FI := fun xw ρ M Q => fa xw ρ M fun ds M1 => match ds with
  | [.int j] => (-(2 ^ 62) ≤ j ∧ j < 2 ^ 62) ∧ Q (rngD 0 j.toNat) M1
  | _ => False
def fRng2 (fa : FA) : FI := fun xw ρ M Q => fa xw ρ M fun ds M1 => match ds with
  | [.int i, .int j] => (-(2 ^ 62) ≤ i ∧ i < 2 ^ 62 ∧ -(2 ^ 62) ≤ j ∧ j < 2 ^ 62) ∧ Q (rngD i (j - i).toNat) M1
  | _ => False
theorem di_rng1 {a : Expr} {fa : FA} {p pos : Pos} (hg : Gl X "range") (hm : X.mg "range" = none) (ha : DA X T W [a] fa) (hs : starEach [a] X.env = [(false, eval a X.env)]) : DI X T W tg (.Call (.Name "range" p) [a] [] pos) (fRng1 fa) := by
  obtain ⟨t, pa, sa⟩ := ha
  refine ⟨_, pi_range1 hg hm pa hs, fun hid σ H ρ M xw Q R r s w q k => ?_⟩
  refine sa hid σ H ρ M xw _ _ r s w q fun vs H1 ds M1 s1 e1 r1 q1 => ?_
  split at q1
  · cases r1 with
    | cons h r => cases r; cases h; exact ⟨_, rfl, q1.1.1, q1.1.2, k _ H1 M1 _ s1 e1 itm_rng q1.2⟩
  · exact q1.elim
theorem di_rng2 {a b : Expr} {fa : FA} {p pos : Pos} (hg : Gl X "range") (hm : X.mg "range" = none) (ha : DA X T W [a, b] fa) (hs : starEach [a, b] X.env = [(false, eval a X.env), (false, eval b X.env)]) (hs2 : starEach [b] X.env = [(false, eval b X.env)]) : DI X T W tg (.Call (.Name "range" p) [a, b] [] pos) (fRng2 fa) := by
  obtain ⟨t, pa, sa⟩ := ha
  refine ⟨_, pi_range2 hg hm pa hs hs2, fun hid σ H ρ M xw Q R r s w q k => ?_⟩
  refine sa hid σ H ρ M xw _ _ r s w q fun vs H1 ds M1 s1 e1 r1 q1 => ?_
  split at q1
  · cases r1 with
    | cons h r => cases r with
      | cons h' r => cases r; cases h; cases h'; exact ⟨_, _, rfl, q1.1, k _ H1 M1 _ s1 e1 itm_rng q1.2⟩
  · exact q1.elim
end

/-! ### new lists -/
abbrev FL := XW → Env' → Mu → (List D → Mu → Prop) → Prop
/-- what follows a new list at p that nothing else knows -/
def PstL (K : PySem.W.Frag) (T hid : List Addr) (H : Hp) (M : Mu) (Q : List D → Mu → Prop) (Qv : VK) : Prop :=
  ∀ p xs H' ds M', H p = none → p ∉ hid → Sto K T (p :: hid) H' M' → Ext hid H M H' M' → H' p = some (.lst xs) → Rvs K (p :: hid) H' M' xs ds → Q ds M' → Qv (.ref p) H'
def LSim (K : PySem.W.Frag) (T : List Addr) (W : WX) (t : TE) (f : FL) : Prop :=
  ∀ hid σ H ρ M xw Q Qv, REnv K hid H M σ ρ → Sto K T hid H M → WOk K T hid W σ H M xw → f xw ρ M Q → PstL K T hid H M Q Qv → t σ H Qv
def DL (X : Cx) (T : List Addr) (W : WX) (e : Expr) (f : FL) : Prop := ∃ t, PE X e t ∧ LSim X.K T W t f
def fOfL (f : FL) : FE := fun xw ρ M Q => f xw ρ M fun ds M1 => Q (.lst ds) M1
theorem LSim.e {K : PySem.W.Frag} {T : List Addr} {W : WX} {t : TE} {f : FL} (h : LSim K T W t f) : ESim K T W t (fOfL f) := by
  intro hid σ H ρ M xw Q Qv r s w q p
  refine h hid σ H ρ M xw _ _ r s w q fun a xs H1 ds M1 hp hn s1 e1 h1 r1 q1 => ?_
  exact p _ H1 _ M1 s1.unhide e1 (.lst (.inl ⟨h1, (s1.hidn a List.mem_cons_self).1, hn⟩) (Car.unhide.rvs _ _ r1)) q1
theorem DL.e {X : Cx} {T : List Addr} {W : WX} {e : Expr} {f : FL} (h : DL X T W e f) : DE X T W e (fOfL f) := let ⟨t, p, s⟩ := h; ⟨t, p, s.e⟩
section
variable {K : PySem.W.Frag} {T hid : List Addr} {H H0 : Hp} {M M0 : Mu}
theorem Ext.fr (e : Ext hid H0 M0 H M) {a : Addr} (h : H a = Option.none) : H0 a = Option.none := by
  cases q : H0 a with
  | none => rfl
  | some o => exact absurd h (e.dom a (by rw [q]; exact fun z => nomatch z))
theorem PstL.new {Q : List D → Mu → Prop} {Qv : VK} (p : PstL K T hid H0 M0 Q Qv) (s : Sto K T hid H M) (e : Ext hid H0 M0 H M) {xs : List V} {ds : List D} (r : Rvs K hid H M xs ds) {a : Addr} (ha : H a = none) (q : Q ds M) : Qv (.ref a) (upd H a (.lst xs)) :=
  p a xs _ ds M (e.fr ha) (s.fresh ha).2 (s.hide ha) (e.trans (Ext.new s ha)) upd_same ((Car.hide s ha).rvs _ _ r) q
/-- the list is owned -/
theorem Car.own {p : Addr} {m : MO} : Car K (p :: hid) H M hid H (mset M p m) := by
  refine ⟨fun _ _ h => h, fun a xs h => ?_⟩
  rcases h with ⟨h1, h2, h3⟩ | h | h
  · rw [List.mem_cons, not_or] at h3
    exact .inl ⟨h1, by rw [mset_ne h3.1]; exact h2, h3.2⟩
  · exact .inr (.inl h)
  · exact .inr (.inr h)
theorem Sto.owned {p : Addr} {xs : List V} {ds : List D} (s : Sto K T (p :: hid) H M) (hn : p ∉ hid) (h : H p = some (.lst xs)) (r : Rvs K (p :: hid) H M xs ds) : Sto K T hid H (mset M p (.lst ds)) := by
  have c : Car K (p :: hid) H M hid H (mset M p (.lst ds)) := Car.own
  refine ⟨fun a m q => ?_, s.tab, fun a ha => ?_⟩
  · by_cases e : a = p
    · subst e; rw [mset_same] at q; cases q
      exact ⟨xs, h, c.rvs _ _ r⟩
    · rw [mset_ne e] at q
      exact (s.mem a m q).car c rfl
  · obtain ⟨h1, h2⟩ := s.hidn a (List.mem_cons_of_mem _ ha)
    exact ⟨by rw [mset_ne (by rintro rfl; exact hn ha)]; exact h1, h2⟩
theorem Ext.owned {p : Addr} {m : MO} (e : Ext hid H0 M0 H M) (h0 : H0 p = none) : Ext hid H0 M0 H (mset M p m) :=
  ⟨e.tup, e.frz, fun a xs h h' z => let ⟨k1, k2⟩ := e.lst a xs h h' z; ⟨k1, by rw [mset_ne (ne_of_none h h0)]; exact k2⟩, e.hid, e.dom⟩
end
end U

set_option Elab.async false
set_option linter.all false
set_option maxRecDepth 100000
set_option maxHeartbeats 1000000
/-! U6: expressions that make lists; comprehensions. -/
namespace U
open PySem PySem.Spec PyProof.Rows L2
section
variable {X : Cx} {T : List Addr} {W : WX}
def fLstL (g : FA) : FL := fun xw ρ M Q => g xw ρ M fun ds M1 => ds.length ≤ sizeLine ∧ Q ds M1
theorem dl_lst {es : List Expr} {g : FA} {pos : Pos} (h : DA X T W es g) : DL X T W (.List es pos) (fLstL g) := by
  obtain ⟨t, p, sa⟩ := h
  refine ⟨_, pe_lst p, fun hid σ H ρ M xw Q Qv r s w q p => ?_⟩
  refine sa hid σ H ρ M xw _ _ r s w q fun vs H1 ds M1 s1 e1 r1 q1 => ?_
  exact ⟨by rw [r1.length]; exact q1.1, fun a ha => p.new s1 e1 r1 ha q1.2⟩
/-- list(e) -/
def fListL (fa : FA) : FL := fun xw ρ M Q => fa xw ρ M fun ds M1 => match ds with
  | [d] => (match seqOf M1 d with
    | some es => Q es M1
    | none => False)
  | _ => False
theorem dl_list {x : Str} {p pos : Pos} {e : Expr} {fa : FA} (hg : Gl X x) (hm : X.mg x = none) (hv : bootBuiltins x = some (.type "list")) (ha : DA X T W [e] fa)
    (hn : x ≠ "__name__") (hdb : (x == ("__debug__" : Str)) = false)
    (he : starEach [e] X.env = (false, eval e X.env) :: starEach [] X.env) (hpl : (backTo pos (starEach [] X.env)).any (·.1) = false) : DL X T W (.Call (.Name x p) [e] [] pos) (fListL fa) := by
  obtain ⟨t, pa, sa⟩ := ha
  refine ⟨_, pe_callTy call_list_of hg hm hv pa hn hdb he hpl, fun hid σ H ρ M xw Q Qv r s w q p => ?_⟩
  refine sa hid σ H ρ M xw _ _ r s w q fun vs H1 ds M1 s1 e1 r1 q1 => ?_
  split at q1
  · rename_i d
    split at q1
    · rename_i es e
      cases r1 with
      | cons h r =>
        cases r
        obtain ⟨a, xs, rfl, h3, h4⟩ := seq_ok s1 h e
        exact ⟨_, _, rfl, h3, fun c hc => p.new s1 e1 h4 hc q1⟩
    · exact q1.elim
  · exact q1.elim
/-- a + b of lists -/
def fCatL (fa fb : FE) : FL := fun xw ρ M Q => fa xw ρ M fun x M1 => fb xw ρ M1 fun y M2 => match lstOf M2 x, lstOf M2 y with
  | some a, some b => a.length + b.length ≤ sizeLine ∧ Q (a ++ b) M2
  | _, _ => False
theorem dl_cat {a b : Expr} {fa fb : FE} {pos : Pos} (ha : DE X T W a fa) (hb : DE X T W b fb) : DL X T W (.BinOp a .Add b pos) (fCatL fa fb) := by
  obtain ⟨ta, pa, sa⟩ := ha
  obtain ⟨tb, pb, sb⟩ := hb
  refine ⟨_, pe_op op_catL pa pb, fun hid σ H ρ M xw Q Qv r s w q p => ?_⟩
  refine sa hid σ H ρ M xw _ _ r s w q fun v H1 d M1 s1 e1 r1 q1 => ?_
  refine sb hid σ H1 ρ M1 xw _ _ (r.ext e1) s1 (w.ext e1) q1 fun u H2 d2 M2 s2 e2 r2 q2 => ?_
  split at q2
  · rename_i x y h1 h2
    obtain ⟨l, xs, rfl, h3, k1⟩ := lstOf_ok s2 (e2.rv _ _ r1) h1
    obtain ⟨l2, ys, rfl, h4, k2⟩ := lstOf_ok s2 r2 h2
    have i1 := k1.length
    have i2 := k2.length
    exact ⟨_, _, _, _, rfl, rfl, h3, h4, by omega, fun c hc => p.new s2 (e1.trans e2) (k1.append k2) hc q2.2⟩
  · exact q2.elim

/-! ### comprehensions of one clause -/
abbrev xF : XW := fun _ _ => False
abbrev WF : WX := fun _ _ _ _ => False
def lcGo (b : BD) (ft : FT) (fe : FE) (ρ : Env') : List D → List D → Mu → (List D → Mu → Prop) → Prop
  | [], acc, M, Q => Q acc M
  | d :: ds, acc, M, Q => match b d ρ with
    | some ρ2 => ft xF ρ2 M fun c M1 => if c = true then fe xF ρ2 M1 fun y M2 => acc.length < sizeLine ∧ lcGo b ft fe ρ ds (acc ++ [y]) M2 Q else lcGo b ft fe ρ ds acc M1 Q
    | none => False
def fLc (fi : FI) (b : BD) (ft : FT) (fe : FE) (vs : List Nat) : FL := fun xw ρ M Q => fi xw ρ M fun ds M1 => lcGo b ft fe (wipeE ρ vs) ds [] M1 Q
theorem wok_F {K : PySem.W.Frag} {T hid : List Addr} {W : WX} {σ : L2.St} {H : Hp} {M : Mu} : WOk K T hid W σ H M xF := fun _ _ _ _ _ _ _ _ z => z.elim
theorem lc_sim {K : PySem.W.Frag} {T : List Addr} {W W' : WX} {wi : TI} {fi : FI} {g : TG} {b : BD} {tt : TT} {ft : FT} {te : TE} {fe : FE} {vs : List Nat} (hi : ISim K T W wi fi) (hg : GSim K T g b vs) (ht : TSim K T W' tt ft) (he : ESim K T W' te fe) :
    LSim K T W (tLc wi g tt te vs) (fLc fi b ft fe vs) := by
  intro hid σ H ρ M xw Q Qv r s w q p
  refine hi hid σ H ρ M xw _ _ r s w q fun J H1 M1 ds s1 e1 im q1 => ?_
  intro D hD
  have hn : D ∉ hid := (s1.fresh hD).2
  refine ⟨fun i m H2 => ∃ M2 acc accV, m = ds.length - i ∧ i ≤ ds.length ∧ Sto K T (D :: hid) H2 M2 ∧ Ext hid H1 M1 H2 M2 ∧ H2 D = some (.lst accV) ∧ Rvs K (D :: hid) H2 M2 accV acc ∧ lcGo b ft fe (wipeE ρ vs) (ds.drop i) acc M2 Q,
    ⟨ds.length, M1, [], [], by simp, Nat.zero_le _, s1.hide hD, Ext.new s1 hD, upd_same, .nil, q1⟩, ?_⟩
  rintro i m H2 ⟨M2, acc, accV, rfl, hle, s2, e2, h2, r2, q2⟩
  have c2 : Car K hid H1 M1 (D :: hid) H2 M2 := Car.of_under e2 hD
  obtain ⟨go, stop⟩ := im (D :: hid) H2 M2 s2 c2
  by_cases hlt : i < ds.length
  · refine .inr ⟨(go i hlt).1, fun H5 => ∃ M5 acc' accV', i + 1 ≤ ds.length ∧ Sto K T (D :: hid) H5 M5 ∧ Ext hid H1 M1 H5 M5 ∧ H5 D = some (.lst accV') ∧ Rvs K (D :: hid) H5 M5 accV' acc' ∧ lcGo b ft fe (wipeE ρ vs) (ds.drop (i + 1)) acc' M5 Q, ?_, ?_⟩
    · rintro H5 ⟨M5, acc', accV', h⟩
      exact ⟨ds.length - (i + 1), by omega, M5, acc', accV', rfl, h⟩
    · intro x H3 hy
      obtain ⟨d, hd, s3, e3, r3⟩ := (go i hlt).2 x H3 hy
      rw [List.drop_eq_getElem_cons hlt] at q2
      have ed : ds[i] = d := by rw [List.getElem?_eq_getElem hlt] at hd; exact Option.some.inj hd
      rw [ed] at q2
      unfold lcGo at q2
      have rw3 : REnv K (D :: hid) H3 M2 (wipe σ vs) (wipeE ρ vs) := (((r.ext e1).car c2).ext e3).wipe vs
      split at q2
      · rename_i ρ2 eb
        refine hg (D :: hid) H3 M2 (wipe σ vs) (wipeE ρ vs) x d ρ2 _ rw3 s3 r3 eb fun σ2 rr2 w2 => ⟨w2.trans wipe_wipe, ?_⟩
        refine ht (D :: hid) σ2 H3 ρ2 M2 xF _ _ rr2 s3 wok_F q2 fun c H4 M4 s4 e4 q4 => ?_
        have e14 : Ext hid H1 M1 H4 M4 := e2.under hD (e3.trans e4)
        have hD4 : H4 D = some (.lst accV) := (((e3.trans e4).hid D List.mem_cons_self)).trans h2
        cases c with
        | false => exact ⟨M4, acc, accV, hlt, s4, e14, hD4, (e3.trans e4).rvs _ _ r2, q4⟩
        | true =>
          refine he (D :: hid) σ2 H4 ρ2 M4 xF _ _ (rr2.ext e4) s4 wok_F q4 fun v H5 y M5 s5 e5 r5 q5 => ?_
          have hD5 : H5 D = some (.lst accV) := (e5.hid D List.mem_cons_self).trans hD4
          have hl := r2.length
          have e345 := (e3.trans e4).trans e5
          have cw : Car K (D :: hid) H5 M5 (D :: hid) (upd H5 D (.lst (accV ++ [v]))) M5 := Car.whid hD5
          exact ⟨accV, hD5, by rw [hl]; exact q5.1, M5, acc ++ [y], accV ++ [v], hlt, s5.whid hD5, (e2.under hD e345).whid hD hn, upd_same, cw.rvs _ _ ((e345.rvs _ _ r2).append (.cons r5 .nil)), q5.2⟩
      · exact q2.elim
  · have ei : i = ds.length := by omega
    subst ei
    rw [List.drop_of_length_le (Nat.le_refl _)] at q2
    exact .inl ⟨stop, p D accV H2 acc M2 (e1.fr hD) hn s2 (e1.trans e2) h2 r2 q2⟩
/-- [elt for tg in iter if ..], as a value -/
theorem dl_lc {elt tg iter : Expr} {ifs : List Expr} {scope : Scope} {own : List (Str × Nat)} {pos : Pos} {fi : FI} {b : BD} {ft : FT} {fe : FE} (hc : X.calm = true) (hN : X.N.Nodup) (hi : DI X T W tg iter fi) (ok : BlkOk X.N X.env.scope scope own)
    (h : ∀ (s : Shared) (H : Hp) (C : Addr) (cl : List (Str × Addr)) (fp : List Addr), DG (X.blk s H scope (compEnvC scope cl C X.env) fp) T tg b (own.map (·.2)) ∧ DTs (X.blk s H scope (compEnvC scope cl C X.env) fp) T WF ifs ft ∧ DE (X.blk s H scope (compEnvC scope cl C X.env) fp) T WF elt fe)
    (hs : ∀ x, foldedSetIterable iter X.env x = pure x) : DL X T W (.ListComp elt [⟨tg, iter, ifs, 0⟩] scope pos) (fLc fi b ft fe (own.map (·.2))) := by
  obtain ⟨wi, pi, si⟩ := hi
  exact ⟨_, pe_lc hc hN pi ok (fun s H C cl fp => (h s H C cl fp).1.can) (fun s H C cl fp => (h s H C cl fp).2.1.can) (fun s H C cl fp => (h s H C cl fp).2.2.can) hs, lc_sim si canG_sim canT_sim canE_sim⟩
end
end U

set_option Elab.async false
set_option linter.all false
set_option maxRecDepth 100000
set_option maxHeartbeats 1000000
/-! U7: statements. -/
namespace U
open PySem PySem.Spec PyProof.Rows L2
section
variable {X : Cx} {T : List Addr} {W : WX}
abbrev xwAt (E : FEnds) (ρ : Env') : XW := fun xd M' => E.xw xd ρ M'
def fPass : FS := fun E ρ M => E.nx ρ M
theorem dss_nil : DSs X T W [] fPass := ⟨_, pss_nil, fun hid σ H ρ M E D r s w q k => k.nx σ H ρ M r s (Ext.refl _ _ _) q⟩
def fThen (f g : FS) : FS := fun E ρ M => f { E with nx := g E } ρ M
theorem EndsOk.then {K : PySem.W.Frag} {T hid : List Addr} {W : WX} {H : Hp} {M : Mu} {E : FEnds} {D : Ends} {t : TS} {g : FS} (k : EndsOk K T hid H M E D) (w : WOkS K T hid W H M E.xw) (h : SSim K T W t g) : EndsOk K T hid H M { E with nx := g E } { D with nx := t D } :=
  ⟨fun σ' H' ρ' M' r s e q => h hid σ' H' ρ' M' E D r s (w.ext e) q (k.ext e), k.rt, k.bk, k.ct⟩
theorem dss_cons {st : Stmt} {rest : List Stmt} {f g : FS} (h1 : DS X T W st f) (h2 : DSs X T W rest g) : DSs X T W (st :: rest) (fThen f g) := by
  obtain ⟨t, p, a⟩ := h1
  obtain ⟨u, p2, b⟩ := h2
  exact ⟨_, pss_cons p p2, fun hid σ H ρ M E D r s w q k => a hid σ H ρ M { E with nx := g E } _ r s w q (EndsOk.then (g := g) k w b)⟩
theorem dss_one {st : Stmt} {f : FS} (h1 : DS X T W st f) : DSs X T W [st] f := let ⟨t, p, a⟩ := h1; ⟨t, pss_one p, a⟩
theorem ds_pass {pos : Pos} : DS X T W (.Pass pos) fPass := ⟨_, ps_pass, fun hid σ H ρ M E D r s w q k => k.nx σ H ρ M r s (Ext.refl _ _ _) q⟩
def fBreak : FS := fun E ρ M => E.bk ρ M
def fCont : FS := fun E ρ M => E.ct ρ M
theorem ds_break {pos : Pos} : DS X T W (.Break pos) fBreak := ⟨_, ps_break, fun hid σ H ρ M E D r s w q k => k.bk σ H ρ M r s (Ext.refl _ _ _) q⟩
theorem ds_cont {pos : Pos} : DS X T W (.Continue pos) fCont := ⟨_, ps_continue, fun hid σ H ρ M E D r s w q k => k.ct σ H ρ M r s (Ext.refl _ _ _) q⟩
def fExpr (f : FE) : FS := fun E ρ M => f (xwAt E ρ) ρ M fun _ M1 => E.nx ρ M1
theorem ds_expr {e : Expr} {f : FE} {pos : Pos} (h : DE X T W e f) (hs : swapsWith e none pos.line X.env = pure false) : DS X T W (.Expr e pos) (fExpr f) := by
  obtain ⟨t, p, sa⟩ := h
  refine ⟨_, ps_expr p hs, fun hid σ H ρ M E D r s w q k => ?_⟩
  exact sa hid σ H ρ M _ _ _ r s (w.at r) q fun v H1 d M1 s1 e1 r1 q1 => k.nx σ H1 ρ M1 (r.ext e1) s1 e1 q1
def fRet (f : FE) : FS := fun E ρ M => f (xwAt E ρ) ρ M E.rt
theorem ds_ret {e : Expr} {f : FE} {pos : Pos} (h : DE X T W e f) : DS X T W (.Return (some e) pos) (fRet f) := by
  obtain ⟨t, p, sa⟩ := h
  exact ⟨_, ps_ret p, fun hid σ H ρ M E D r s w q k => sa hid σ H ρ M _ _ _ r s (w.at r) q k.rt⟩
def fRetN : FS := fun E _ M => E.rt .non M
theorem ds_retN {pos : Pos} : DS X T W (.Return none pos) fRetN := ⟨_, ps_retN, fun hid σ H ρ M E D r s w q k => k.rt _ H _ M s (Ext.refl _ _ _) .non q⟩
def fIfS (c : FT) (f g : FS) : FS := fun E ρ M => c (xwAt E ρ) ρ M fun b M1 => if b = true then f E ρ M1 else g E ρ M1
theorem ds_if {c : Expr} {a b : List Stmt} {fc : FT} {f g : FS} {pos : Pos} (hc : DT X T W c fc) (ha : DSs X T W a f) (hb : DSs X T W b g) : DS X T W (.If c a b pos) (fIfS fc f g) := by
  obtain ⟨tc, pc, sc⟩ := hc
  obtain ⟨t, pa, sa⟩ := ha
  obtain ⟨u, pb, sb⟩ := hb
  refine ⟨_, ps_if pc pa pb, fun hid σ H ρ M E D r s w q k => ?_⟩
  refine sc hid σ H ρ M _ _ _ r s (w.at r) q fun c H1 M1 s1 e1 q1 => ?_
  cases c with
  | true => exact sa hid σ H1 ρ M1 E D (r.ext e1) s1 (w.ext e1) q1 (k.ext e1)
  | false => exact sb hid σ H1 ρ M1 E D (r.ext e1) s1 (w.ext e1) q1 (k.ext e1)

/-! ### assignments -/
def fSet (i : Nat) (f : FE) : FS := fun E ρ M => f (xwAt E ρ) ρ M fun d M1 => E.nx (ρ.set i (some d)) M1
theorem set_sim {K : PySem.W.Frag} {i : Nat} {t : TE} {f : FE} (h : ESim K T W t f) : SSim K T W (tAsg t (gName i)) (fSet i f) := fun hid σ H ρ M E D r s w q k =>
  h hid σ H ρ M _ _ _ r s (w.at r) q fun v H1 d M1 s1 e1 r1 q1 => k.nx _ H1 _ M1 ((r.ext e1).set i r1) s1 e1 q1
theorem ds_set {i : Nat} {x : Str} {e : Expr} {f : FE} {pos pos' : Pos} (hN : X.N.Nodup) (hi : X.N[i]? = some x) (hx : Loc X.env.scope x) (he : DE X T W e f) (hs : swapsWith e (some (.Name x pos')) pos.line X.env = pure false) (hf : X.fn x = true ∨ X.env.scope.names.lookup x = some .local) :
    DS X T W (.Assign [.Name x pos'] e pos) (fSet i f) := by
  obtain ⟨t, p, sa⟩ := he
  exact ⟨_, ps_set hN hi hx p hs hf, set_sim sa⟩
/-- a new list that the name owns -/
def fOwn (i : Nat) (f : FL) : FS := fun E ρ M => f (xwAt E ρ) ρ M fun ds M1 => ∀ p, M p = none → M1 p = none → E.nx (ρ.set i (some (.loc p))) (mset M1 p (.lst ds))
theorem own_sim {K : PySem.W.Frag} {i : Nat} {t : TE} {f : FL} (h : LSim K T W t f) : SSim K T W (tAsg t (gName i)) (fOwn i f) := fun hid σ H ρ M E D r s w q k =>
  h hid σ H ρ M _ _ _ r s (w.at r) q fun p xs H1 ds M1 hp hn s1 e1 h1 r1 q1 =>
    have e2 : Ext hid H M H1 (mset M1 p (.lst ds)) := e1.owned hp
    k.nx _ H1 _ _ ((r.ext e2).set i (.loc p)) (s1.owned hn h1 r1) e2 (q1 p (s.fresh hp).1 (s1.hidn p List.mem_cons_self).1)
theorem ds_own {i : Nat} {x : Str} {e : Expr} {f : FL} {pos pos' : Pos} (hN : X.N.Nodup) (hi : X.N[i]? = some x) (hx : Loc X.env.scope x) (he : DL X T W e f) (hs : swapsWith e (some (.Name x pos')) pos.line X.env = pure false) (hf : X.fn x = true ∨ X.env.scope.names.lookup x = some .local) :
    DS X T W (.Assign [.Name x pos'] e pos) (fOwn i f) := by
  obtain ⟨t, p, sa⟩ := he
  exact ⟨_, ps_set hN hi hx p hs hf, own_sim sa⟩
/-- x = [.. for ..] where the list is stored from within -/
theorem ds_setLc {i : Nat} {y : Str} {py : Pos} {elt tg iter : Expr} {ifs : List Expr} {scope : Scope} {own : List (Str × Nat)} {pos spos : Pos} {fi : FI} {b : BD} {ft : FT} {fe : FE} (hc : X.calm = true) (hN : X.N.Nodup) (hy : X.N[i]? = some y) (hyl : X.env.scope.names.lookup y = some .local)
    (hsw : swapsWith (.ListComp elt [⟨tg, iter, ifs, 0⟩] scope pos) (some (.Name y py)) spos.line X.env = pure true) (hi : DI X T W tg iter fi) (ok : BlkOk X.N X.env.scope scope own)
    (h : ∀ (s : Shared) (H : Hp) (C : Addr) (cl : List (Str × Addr)) (fp : List Addr), DG (X.blk s H scope (compEnvC scope cl C X.env) fp) T tg b (own.map (·.2)) ∧ DTs (X.blk s H scope (compEnvC scope cl C X.env) fp) T WF ifs ft ∧ DE (X.blk s H scope (compEnvC scope cl C X.env) fp) T WF elt fe)
    (hs : ∀ x, foldedSetIterable iter X.env x = pure x) : DS X T W (.Assign [.Name y py] (.ListComp elt [⟨tg, iter, ifs, 0⟩] scope pos) spos) (fSet i (fOfL (fLc fi b ft fe (own.map (·.2))))) ∧ DS X T W (.Assign [.Name y py] (.ListComp elt [⟨tg, iter, ifs, 0⟩] scope pos) spos) (fOwn i (fLc fi b ft fe (own.map (·.2)))) := by
  obtain ⟨wi, pi, si⟩ := hi
  have P := ps_setLc (te := canE X.K T WF fe) (tt := canT X.K T WF ft) (g := canG X.K T b (own.map (·.2))) hc hN hy hyl hsw pi ok (fun s H C cl fp => (h s H C cl fp).1.can) (fun s H C cl fp => (h s H C cl fp).2.1.can) (fun s H C cl fp => (h s H C cl fp).2.2.can) hs
  exact ⟨⟨_, P, set_sim (lc_sim si canG_sim canT_sim canE_sim).e⟩, ⟨_, P, own_sim (lc_sim si canG_sim canT_sim canE_sim)⟩⟩
/-- target = value, the target a tuple of names -/
def fAsg (f : FE) (b : BD) : FS := fun E ρ M => f (xwAt E ρ) ρ M fun d M1 => match b d ρ with
  | some ρ1 => E.nx ρ1 M1
  | none => False
theorem ds_asg {tg e : Expr} {f : FE} {b : BD} {vs : List Nat} {pos : Pos} (he : DE X T W e f) (hg : DG X T tg b vs) (hs : swapsWithSole [tg] e pos.line X.env = pure false) (hw : swappedStores [tg] e X.env = pure none)
    (h1 : (assignEach [tg] X.env).map (·.2) = [assign tg X.env]) : DS X T W (.Assign [tg] e pos) (fAsg f b) := by
  obtain ⟨t, p, sa⟩ := he
  obtain ⟨g, pg, sg⟩ := hg
  refine ⟨_, ps_asg p pg hs hw h1, fun hid σ H ρ M E D r s w q k => ?_⟩
  refine sa hid σ H ρ M _ _ _ r s (w.at r) q fun v H1 d M1 s1 e1 r1 q1 => ?_
  split at q1
  · rename_i ρ1 eb
    exact sg hid H1 M1 σ ρ v d ρ1 _ (r.ext e1) s1 r1 eb fun σ' r' _ => k.nx σ' H1 ρ1 M1 r' s1 e1 q1
  · exact q1.elim
/-- a, b = x, y -/
def fPar (i j : Nat) (fa : FA) : FS := fun E ρ M => fa (xwAt E ρ) ρ M fun ds M1 => match ds with
  | [d, e] => E.nx ((ρ.set i (some d)).set j (some e)) M1
  | _ => False
theorem ds_par {i j : Nat} {x y : Str} {a b : Expr} {fa : FA} {px py pt pos : Pos} {kt k2 : Nat} {pt2 : Pos} (hc : X.calm = true) (hN : X.N.Nodup) (hi : X.N[i]? = some x) (hj : X.N[j]? = some y) (hij : i ≠ j)
    (hx : X.env.scope.names.lookup x = some .local) (hy : X.env.scope.names.lookup y = some .local) (ha : DA X T W [a, b] fa)
    (hw : swappedStores [.Tuple [.Name x px, .Name y py] kt pt] (.Tuple [a, b] k2 pt2) X.env = pure (some [x, y]))
    (hs : swapsWithSole [.Tuple [.Name x px, .Name y py] kt pt] (.Tuple [a, b] k2 pt2) pos.line X.env = pure false) :
    DS X T W (.Assign [.Tuple [.Name x px, .Name y py] kt pt] (.Tuple [a, b] k2 pt2) pos) (fPar i j fa) := by
  obtain ⟨t, p, sa⟩ := ha
  refine ⟨_, ps_par hc hN hi hj hij hx hy p hw hs, fun hid σ H ρ M E D r s w q k => ?_⟩
  refine sa hid σ H ρ M _ _ _ r s (w.at r) q fun vs H1 ds M1 s1 e1 r1 q1 => ?_
  split at q1
  · cases r1 with
    | cons h r1 => cases r1 with
      | cons h' r1 => cases r1; exact ⟨_, _, rfl, k.nx _ H1 _ M1 (((r.ext e1).set i h).set j h') s1 e1 q1⟩
  · exact q1.elim
/-- o[i] = e -/
def gSetIx (o i v : D) (M : Mu) (k : Mu → Prop) : Prop := match o, i with
  | .loc a, .int z => (match M a with
    | some (.lst ds) => (match ixN ds.length z with
      | some j => k (mset M a (.lst (ds.set j v)))
      | none => False)
    | _ => False)
  | _, _ => False
def fSetIx (fo fi fe : FE) : FS := fun E ρ M => fe (xwAt E ρ) ρ M fun v M1 => fo (xwAt E ρ) ρ M1 fun o M2 => fi (xwAt E ρ) ρ M2 fun i M3 => gSetIx o i v M3 fun M4 => E.nx ρ M4
theorem ds_setIx {o i e : Expr} {fo fi fe : FE} {tpos pos : Pos} (ho : DE X T W o fo) (hi : DE X T W i fi) (he : DE X T W e fe)
    (ha : ∀ v, assign (.Subscript o i tpos) X.env v = (do
      let ov ← holding [v] (eval o X.env)
      let iv ← holding [v, ov] (eval i X.env)
      standAt tpos
      holding [v, ov, iv] (setItem ov iv v)
      release [v, ov, iv] []))
    (hs : swapsWithSole [.Subscript o i tpos] e pos.line X.env = pure false) (hw : swappedStores [.Subscript o i tpos] e X.env = pure none)
    (h1 : (assignEach [.Subscript o i tpos] X.env).map (·.2) = [assign (.Subscript o i tpos) X.env]) : DS X T W (.Assign [.Subscript o i tpos] e pos) (fSetIx fo fi fe) := by
  obtain ⟨to, po, so⟩ := ho
  obtain ⟨ti, pi, si⟩ := hi
  obtain ⟨te, pe, se⟩ := he
  refine ⟨_, ps_asg pe (pg_sub po pi set_list ha) hs hw h1, fun hid σ H ρ M E D r s w q k => ?_⟩
  refine se hid σ H ρ M _ _ _ r s (w.at r) q fun v H1 d M1 s1 e1 r1 q1 => ?_
  refine so hid σ H1 ρ M1 _ _ _ (r.ext e1) s1 ((w.at r).ext e1) q1 fun ov H2 od M2 s2 e2 r2 q2 => ?_
  refine si hid σ H2 ρ M2 _ _ _ (r.ext (e1.trans e2)) s2 ((w.at r).ext (e1.trans e2)) q2 fun iv H3 id M3 s3 e3 r3 q3 => ?_
  unfold gSetIx at q3
  split at q3
  · rename_i a z
    split at q3
    · rename_i ds em
      split at q3
      · rename_i j ej
        cases r3
        have r2' : ov = .ref a := by cases r2; rfl
        subst r2'
        obtain ⟨xs, h4, h5, _⟩ := s3.at em
        have rv : Rv X.K hid H3 M3 v d := (e2.trans e3).rv _ _ r1
        refine ⟨a, xs, z, j, rfl, rfl, h4, by rw [h5.length]; exact ej, ?_⟩
        have ew := Ext.wr (es := ds.set j d) (xs := xs.set j v) s3 em
        have e13 := (e1.trans e2).trans (e3.trans ew)
        exact k.nx σ _ ρ _ (r.ext e13) (s3.wr em (h5.set j rv)) e13 q3
      · exact q3.elim
    · exact q3.elim
  · exact q3.elim

/-! ### name op= e -/
theorem iadd_meets (l b : Addr) (us ws : Array Value) (n m : Nat) (dd : Option Addr) (sl : Array (Option Value)) (h0 : ¬ (!us.isEmpty && Builtin.List.listTooLong (us.size + ws.size)) = true) (h1 : us.size ≤ sizeLine) (h2 : us.size + ws.size ≤ sizeLine) :
    Meets (Builtin.«list.__iadd__» ⟨[.ref l, .ref b], []⟩) (fun _ R s => s.heap.get? l = some { cls := .type "list", data := .seq us n } ∧ s.heap.get? b = some { cls := .type "list", dict := dd, data := .seq ws m, slots := sl } ∧
      R (.ok (.ret (.ref l))) { s with heap := s.heap.update l (Obj.mapSeq (· ++ ws)) }) := by
  refine .of_wp fun prog w A R s h => ?_
  obtain ⟨h, g, d, t, os⟩ := s
  obtain ⟨ql, qb, qr⟩ := h
  have k1 := AutoSeq1.idx_int
  have k2 := AutoSeq1.sub_list_list
  have k3 := AutoSeq1.sub_list_tuple
  have hsum : (us ++ ws).size ≤ sizeLine + 1 := by rw [Array.size_append]; omega
  wp_walk using (wpAny_updateSeq ql rfl (hz := h1) (_hz' := hsum)), AutoSeq1.wpAny_loadPart' ql, AutoSeq1.wpAny_loadPart' qb
  exact ⟨_, rfl, qr⟩
def rExtL (K : PySem.W.Frag) : R2 := fun x y H Q => ∃ l b xs zs, x = .ref l ∧ y = .ref b ∧ H l = some (.lst xs) ∧ SqL K H b zs ∧ xs.length + zs.length ≤ sizeLine ∧ Q (.ref l) (upd H l (.lst (xs ++ zs)))
theorem iop_extL : OpR X (inplaceOp .Add) (rExtL X.K) := by
  intro pins s σ H x y v u Q I rx ry h
  obtain ⟨l, b, xs, zs, rfl, rfl, hH, hB, hz, q⟩ := h
  cases rx
  cases ry
  obtain ⟨z, its, n, r, hl, e⟩ := I.lstM hH
  obtain ⟨its2, r2, ⟨⟨cls2, dd2, data2, sl2⟩, n2, e2, hc2, hdn2, hd2⟩, z2⟩ := I.list hB
  simp only at hc2 hdn2 hd2
  subst hc2 hdn2 hd2
  have hl2 := r2.length
  have hsz : its.toArray.size + its2.toArray.size ≤ sizeLine := by rw [List.size_toArray, List.size_toArray]; omega
  have hlong : ¬ (!its.toArray.isEmpty && Builtin.List.listTooLong (its.toArray.size + its2.toArray.size)) = true := by rw [notLongL hsz, Bool.and_false]; exact Bool.false_ne_true
  refine iadd_road ⟨_, e, rfl⟩ ⟨_, e2, rfl⟩ (call_meets PySem.F.slot_list_iadd ⟨_, e, rfl⟩ PySem.F.entry_list_iadd (PySem.F.args_list_iadd_2 _ _) (iadd_meets l b its.toArray its2.toArray n n2 none sl2 hlong (by omega) hsz) ⟨e, e2, ?_⟩)
  exact ⟨.ref l, _, I.lset (its' := its ++ its2) (t' := s.toks) hH e (by simp) (r.append r2) (by rw [List.length_append]; omega), rfl, q⟩
def rIaddA (K : PySem.W.Frag) : R2 := fun x y H Q => rI0 (fun i j => .int (i + j)) x y H Q ∨ rExtL K x y H Q
theorem iop_addA : OpR X (inplaceOp .Add) (rIaddA X.K) := iop_add.or iop_extL
def gIadd : G2 := fun x y M Q => match x, y with
  | .int i, .int j => Q (.int (i + j)) M
  | .loc a, y => (match M a, lstOf M y with
    | some (.lst ds), some es => ds.length + es.length ≤ sizeLine ∧ Q (.loc a) (mset M a (.lst (ds ++ es)))
    | _, _ => False)
  | _, _ => False
theorem o_iadd {K : PySem.W.Frag} : OSim K T (rIaddA K) gIadd := by
  intro hid H M x y v w Q Qv s r1 r2 q p
  unfold gIadd at q
  split at q
  · cases r1; cases r2
    exact .inl ⟨_, _, rfl, rfl, p _ H _ M s (Ext.refl _ _ _) (.int _) q⟩
  · rename_i a
    split at q
    · rename_i ds es e1 e2
      cases r1
      obtain ⟨xs, h4, h5, _⟩ := s.at e1
      obtain ⟨b, ys, rfl, h6, h7⟩ := lstOf_ok s r2 e2
      have l1 := h5.length
      have l2 := h7.length
      exact .inr ⟨a, b, xs, ys, rfl, rfl, h4, h6, by omega, p _ _ _ _ (s.wr e1 (h5.append h7)) (Ext.wr s e1) (.loc a) q.2⟩
    · exact q.elim
  · exact q.elim
def fAug (i : Nat) (g : G2) (f : FE) : FS := fun E ρ M => match ρ[i]? with
  | some (some d) => f (xwAt E ρ) ρ M fun y M1 => g d y M1 fun z M2 => E.nx (ρ.set i (some z)) M2
  | _ => False
theorem ds_aug {i : Nat} {x : Str} {e : Expr} {f : FE} {op : Operator} {r : R2} {g : G2} {pos pos' : Pos} (hN : X.N.Nodup) (hi : X.N[i]? = some x) (hx : Loc X.env.scope x) (ho : OpR X (inplaceOp op) r) (o : OSim X.K T r g) (he : DE X T W e f) (hf : X.fn x = true ∨ X.env.scope.names.lookup x = some .local) :
    DS X T W (.AugAssign (.Name x pos') op e pos) (fAug i g f) := by
  obtain ⟨t, p, sa⟩ := he
  refine ⟨_, ps_aug hN hi hx p ho hf, fun hid σ H ρ M E D r s w q k => ?_⟩
  unfold fAug at q
  split at q
  · rename_i d ed
    obtain ⟨v, h1, h2⟩ := r.2 i d ed
    refine ⟨v, h1, ?_⟩
    refine sa hid σ H ρ M _ _ _ r s (w.at r) q fun u H1 y M1 s1 e1 r1 q1 => ?_
    exact o hid H1 M1 d y v u _ _ s1 (e1.rv _ _ h2) r1 q1 fun z H2 z' M2 s2 e2 r2 q2 => k.nx _ H2 _ M2 ((r.ext (e1.trans e2)).set i r2) s2 (e1.trans e2) q2
  · exact q.elim

/-! ### a list that is written no more -/
def fFrz (i : Nat) (f : FS) : FS := fun E ρ M => match ρ[i]? with
  | some (some (.loc a)) => (match M a with
    | some (.lst ds) => f E (ρ.set i (some (.lst ds))) (mdel M a)
    | _ => False)
  | _ => False
theorem dss_frz {i : Nat} {sts : List Stmt} {f : FS} (h : DSs X T W sts f) : DSs X T W sts (fFrz i f) := by
  obtain ⟨t, p, sa⟩ := h
  refine ⟨t, p, fun hid σ H ρ M E D r s w q k => ?_⟩
  unfold fFrz at q
  split at q
  · rename_i a ea
    split at q
    · rename_i ds em
      obtain ⟨v, h1, h2⟩ := r.2 i _ ea
      cases h2
      obtain ⟨xs, h3, h4, h5⟩ := s.at em
      have e : Ext hid H M H (mdel M a) := Ext.frees (.inr trivial)
      have rl : Rv X.K hid H (mdel M a) (.ref a) (.lst ds) := .lst (.inl ⟨h3, mdel_same, h5⟩) (e.rvs _ _ h4)
      have hs : σ.set i (some (.ref a)) = σ := by
        apply List.ext_getElem?
        intro j
        by_cases z : i = j
        · subst z
          have hlt := (List.getElem?_eq_some_iff.mp h1).1
          rw [List.getElem?_set_self hlt, h1]
        · rw [List.getElem?_set_ne z]
      have r' := (r.ext e).set i rl
      rw [hs] at r'
      exact sa hid σ H _ _ E D r' (s.frees a) (w.ext e) q (k.ext e)
    · exact q.elim
  · exact q.elim

/-! ### loops -/
def forGo (b : BD) (f : FS) : List D → FEnds → Env' → Mu → Prop
  | [], E, ρ, M => E.nx ρ M
  | d :: ds, E, ρ, M => match b d ρ with
    | some ρ2 => f { E with nx := forGo b f ds E, ct := forGo b f ds E, bk := E.nx } ρ2 M
    | none => False
def fFor (fi : FI) (b : BD) (f : FS) : FS := fun E ρ M => fi (xwAt E ρ) ρ M fun ds M1 => forGo b f ds E ρ M1
theorem ds_for {tg iter : Expr} {body : List Stmt} {fi : FI} {b : BD} {f : FS} {vs : List Nat} {pos : Pos} (hp : PassesOwn (model X.prog X.w) X.A X.env X.xe) (hc : X.calm = true) (hi : DI X T W tg iter fi) (hg : DG X T tg b vs) (hb : DSs X T W body f)
    (hs : ∀ x, foldedSetIterable iter X.env x = pure x) : DS X T W (.For tg iter body [] pos) (fFor fi b f) := by
  obtain ⟨wi, pi, si⟩ := hi
  obtain ⟨g, pg, sg⟩ := hg
  obtain ⟨t, pb, sb⟩ := hb
  refine ⟨_, ps_for hp hc pi pg pb hs, fun hid σ H ρ M E D r s w q k => ?_⟩
  refine si hid σ H ρ M _ _ _ r s (w.at r) q fun J H1 M1 ds s1 e1 im q1 => ?_
  refine ⟨fun i m σ2 H2 => ∃ ρ2 M2, m = ds.length - i ∧ i ≤ ds.length ∧ REnv X.K hid H2 M2 σ2 ρ2 ∧ Sto X.K T hid H2 M2 ∧ Ext hid H1 M1 H2 M2 ∧ forGo b f (ds.drop i) E ρ2 M2,
    ⟨ds.length, ρ, M1, by simp, Nat.zero_le _, r.ext e1, s1, Ext.refl _ _ _, q1⟩, ?_⟩
  rintro i m σ2 H2 ⟨ρ2, M2, rfl, hle, r2, s2, e2, q2⟩
  obtain ⟨go, stop⟩ := im hid H2 M2 s2 e2.car
  by_cases hlt : i < ds.length
  · refine .inr ⟨(go i hlt).1, fun σ5 H5 => ∃ ρ5 M5, REnv X.K hid H5 M5 σ5 ρ5 ∧ Sto X.K T hid H5 M5 ∧ Ext hid H1 M1 H5 M5 ∧ forGo b f (ds.drop (i + 1)) E ρ5 M5, ?_, ?_⟩
    · rintro σ5 H5 ⟨ρ5, M5, h1, h2, h3, h4⟩
      exact ⟨ds.length - (i + 1), by omega, ρ5, M5, rfl, hlt, h1, h2, h3, h4⟩
    · intro x H3 hy
      obtain ⟨d, hd, s3, e3, r3⟩ := (go i hlt).2 x H3 hy
      rw [List.drop_eq_getElem_cons hlt] at q2
      have ed : ds[i] = d := by rw [List.getElem?_eq_getElem hlt] at hd; exact Option.some.inj hd
      rw [ed] at q2
      unfold forGo at q2
      split at q2
      · rename_i ρ3 eb
        refine sg hid H3 M2 σ2 ρ2 x d ρ3 _ (r2.ext e3) s3 r3 eb fun σ3 r4 _ => ?_
        have e13 := e2.trans e3
        refine sb hid σ3 H3 ρ3 M2 { E with nx := forGo b f (ds.drop (i + 1)) E, ct := forGo b f (ds.drop (i + 1)) E, bk := E.nx } _ r4 s3 (w.ext (e1.trans e13)) q2 ⟨fun σ5 H5 ρ5 M5 r5 s5 e5 q5 => ?_, k.rt.ext (e1.trans e13), fun σ5 H5 ρ5 M5 r5 s5 e5 q5 => ?_, fun σ5 H5 ρ5 M5 r5 s5 e5 q5 => ?_⟩
        · exact ⟨ρ5, M5, r5, s5, e13.trans e5, q5⟩
        · exact k.nx σ5 H5 ρ5 M5 r5 s5 ((e1.trans e13).trans e5) q5
        · exact ⟨ρ5, M5, r5, s5, e13.trans e5, q5⟩
      · exact q2.elim
  · have ei : i = ds.length := by omega
    subst ei
    rw [List.drop_of_length_le (Nat.le_refl _)] at q2
    exact .inl ⟨stop, k.nx σ2 H2 ρ2 M2 r2 s2 (e1.trans e2) q2⟩
def fWhile (c : FT) (f : FS) : FS := fun E ρ M => ∃ Wn : Nat → Env' → Mu → Prop, (∃ m, Wn m ρ M) ∧ ∀ m ρ M, Wn m ρ M → c (xwAt E ρ) ρ M fun b M1 =>
  if b = true then f { E with nx := fun ρ' M' => ∃ m', m' < m ∧ Wn m' ρ' M', ct := fun ρ' M' => ∃ m', m' < m ∧ Wn m' ρ' M', bk := E.nx } ρ M1 else E.nx ρ M1
theorem ds_while {c : Expr} {body : List Stmt} {fc : FT} {f : FS} {pos : Pos} (hp : PassesOwn (model X.prog X.w) X.A X.env X.xe) (hc : DT X T W c fc) (hb : DSs X T W body f) : DS X T W (.While c body [] pos) (fWhile fc f) := by
  obtain ⟨tc, pc, sc⟩ := hc
  obtain ⟨t, pb, sb⟩ := hb
  refine ⟨_, ps_while hp pc pb, fun hid σ H ρ M E D r s w q k => ?_⟩
  obtain ⟨Wn, ⟨m0, w0⟩, turn⟩ := q
  refine ⟨fun m σ2 H2 => ∃ ρ2 M2, REnv X.K hid H2 M2 σ2 ρ2 ∧ Sto X.K T hid H2 M2 ∧ Ext hid H M H2 M2 ∧ Wn m ρ2 M2, ⟨m0, ρ, M, r, s, Ext.refl _ _ _, w0⟩, ?_⟩
  rintro m σ2 H2 ⟨ρ2, M2, r2, s2, e2, w2⟩
  refine sc hid σ2 H2 ρ2 M2 _ _ _ r2 s2 ((w.ext e2).at r2) (turn m ρ2 M2 w2) fun b H3 M3 s3 e3 q3 => ?_
  have e13 := e2.trans e3
  cases b with
  | true =>
    refine ⟨fun σ5 H5 => ∃ m', m' < m ∧ ∃ ρ5 M5, REnv X.K hid H5 M5 σ5 ρ5 ∧ Sto X.K T hid H5 M5 ∧ Ext hid H M H5 M5 ∧ Wn m' ρ5 M5, ?_, ?_⟩
    · rintro σ5 H5 ⟨m', hm, h⟩
      exact ⟨m', hm, h⟩
    · rw [if_pos rfl] at q3
      refine sb hid σ2 H3 ρ2 M3 { E with nx := fun ρ' M' => ∃ m', m' < m ∧ Wn m' ρ' M', ct := fun ρ' M' => ∃ m', m' < m ∧ Wn m' ρ' M', bk := E.nx } _ (r2.ext e3) s3 (w.ext e13) q3 ⟨fun σ5 H5 ρ5 M5 r5 s5 e5 q5 => ?_, k.rt.ext e13, fun σ5 H5 ρ5 M5 r5 s5 e5 q5 => ?_, fun σ5 H5 ρ5 M5 r5 s5 e5 q5 => ?_⟩
      · obtain ⟨m', hm, h⟩ := q5
        exact ⟨m', hm, ρ5, M5, r5, s5, e13.trans e5, h⟩
      · exact k.nx σ5 H5 ρ5 M5 r5 s5 (e13.trans e5) q5
      · obtain ⟨m', hm, h⟩ := q5
        exact ⟨m', hm, ρ5, M5, r5, s5, e13.trans e5, h⟩
  | false => exact k.nx σ2 H3 ρ2 M3 (r2.ext e3) s3 e13 q3
end
end U

set_option Elab.async false
set_option linter.all false
set_option maxRecDepth 100000
set_option maxHeartbeats 1000000
/-! U8: defs: what they promise, calls, bodies; where one stands. -/
namespace U
open PySem PySem.Spec PyProof.Rows L2

/-! ### methods of lists that are written -/
section
variable {X : Cx} {T : List Addr} {W : WX}
def fAppend (fo : FE) (fa : FA) : FE := fun xw ρ M Q => fo xw ρ M fun o M1 => (match o with
  | .loc a => (match M1 a with
    | some (.lst _) => fa xw ρ M1 fun ds M2 => (match ds with
      | [d] => (match M2 a with
        | some (.lst es) => es.length < sizeLine ∧ Q .non (mset M2 a (.lst (es ++ [d])))
        | _ => False)
      | _ => False)
    | _ => False)
  | _ => False)
theorem de_append {o e : Expr} {fo : FE} {fa : FA} {apos cpos : Pos} (ho : DE X T W o fo) (ha : DA X T W [e] fa) (hbase : attributeBase o "append" X.env (eval o X.env) = eval o X.env)
    (hfew : ((backTo cpos (starEach [e] X.env)).all (fun x => !x.1) && (backToKw cpos (keywordEach [] X.env)).all (fun x => x.1.isSome)
      && decide ([e].length + ([] : List Keyword).length + (if ([] : List Keyword).isEmpty then 0 else 1) < 30)) = true)
    (hline : (apos.endLine == cpos.line) = true) (hs : starEach [e] X.env = (false, eval e X.env) :: starEach [] X.env) (hplain : (backTo cpos (starEach [] X.env)).any (·.1) = false) :
    DE X T W (.Call (.Attribute o "append" apos) [e] [] cpos) (fAppend fo fa) := by
  obtain ⟨to, po, so⟩ := ho
  obtain ⟨ta, pa, sa⟩ := ha
  refine ⟨_, pe_bm PySem.F.plainAttrs_list PySem.F.slot_list_append PySem.F.type_list_append mt_append po pa hbase hfew hline hs hplain, fun hid σ H ρ M xw Q Qv r s w q p => ?_⟩
  refine so hid σ H ρ M xw _ _ r s w q fun v H1 d M1 s1 e1 r1 q1 => ?_
  split at q1
  · rename_i a
    split at q1
    · rename_i ds0 em0
      cases r1
      obtain ⟨xs0, h0, _, _⟩ := s1.at em0
      refine ⟨.inl ⟨rfl, _, SqL.of h0⟩, ?_⟩
      refine sa hid σ H1 ρ M1 xw _ _ (r.ext e1) s1 (w.ext e1) q1 fun vs H2 ds M2 s2 e2 r2 q2 => ?_
      split at q2
      · rename_i d
        split at q2
        · rename_i es em
          cases r2 with
          | cons h r2 =>
            cases r2
            obtain ⟨xs, h4, h5, _⟩ := s2.at em
            have l1 := h5.length
            exact ⟨a, xs, _, rfl, rfl, h4, by rw [l1]; exact q2.1, p _ _ _ _ (s2.wr em (h5.append (.cons h .nil))) ((e1.trans e2).trans (Ext.wr s2 em)) .non q2.2⟩
        · exact q2.elim
      · exact q2.elim
    · exact q1.elim
  · exact q1.elim
/-- o.pop() -/
def fPop (fo : FE) : FE := fun xw ρ M Q => fo xw ρ M fun o M1 => (match o with
  | .loc a => (match M1 a with
    | some (.lst es) => (match es.getLast? with
      | some d => Q d (mset M1 a (.lst es.dropLast))
      | none => False)
    | _ => False)
  | _ => False)
theorem de_pop {o : Expr} {fo : FE} {apos cpos : Pos} (ho : DE X T W o fo) (hbase : attributeBase o "pop" X.env (eval o X.env) = eval o X.env) (hline : (apos.endLine == cpos.line) = true) :
    DE X T W (.Call (.Attribute o "pop" apos) [] [] cpos) (fPop fo) := by
  obtain ⟨to, po, so⟩ := ho
  refine ⟨_, pe_bm0 PySem.F.plainAttrs_list PySem.F.slot_list_pop PySem.F.type_list_pop mt_pop po hbase hline, fun hid σ H ρ M xw Q Qv r s w q p => ?_⟩
  refine so hid σ H ρ M xw _ _ r s w q fun v H1 d M1 s1 e1 r1 q1 => ?_
  split at q1
  · rename_i a
    split at q1
    · rename_i es em
      split at q1
      · rename_i d ed
        cases r1
        obtain ⟨xs, h4, h5, _⟩ := s1.at em
        have l1 := h5.length
        rw [List.getLast?_eq_getElem?] at ed
        obtain ⟨y, h6, h7⟩ := h5.get _ ed
        refine ⟨.inl ⟨rfl, _, SqL.of h4⟩, a, xs, y, rfl, rfl, h4, by rw [l1]; exact h6, ?_⟩
        have ew := Ext.wr (es := es.dropLast) (xs := xs.dropLast) s1 em
        exact p _ _ _ _ (s1.wr em h5.dropLast) (e1.trans ew) (ew.rv _ _ h7) q1
      · exact q1.elim
    · exact q1.elim
  · exact q1.elim
end

/-! ### promises -/
abbrev FSpec := List D → Mu → (D → Mu → Prop) → XW → Prop
def spOf (K : PySem.W.Frag) (T : List Addr) (S : FSpec) : Sp := fun vs H Q E => ∃ hid ds M Qd xw, Sto K T hid H M ∧ Rvs K hid H M vs ds ∧ S ds M Qd xw ∧ Pst K T hid H M Qd Q ∧
  ∀ cls dd H' M' xd, Sto K T hid H' M' → Ext hid H M H' M' → XR K hid H' M' cls dd xd → xw xd M' → E cls dd H'
/-- the module's name x is a def of n parameters that keeps the promise S -/
structure Fn (P : Program) (w : World) (K : PySem.W.Frag) (mg : Str → Option Value) (base : Heap) (T : List Addr) (k : Nat) (x : Str) (S : FSpec) : Prop where
  ex : ∃ f fd ps, mg x = some (.ref f) ∧ PySem.W.keepIn K (.ref f) = true ∧ Binds K fd ps [] ∧ FnOk P w K mg base (L2.CX P w) k f fd ps (spOf K T S)
theorem Fn.mono {P : Program} {w : World} {K : PySem.W.Frag} {mg : Str → Option Value} {base : Heap} {T : List Addr} {j k : Nat} {x : Str} {S : FSpec} (F : Fn P w K mg base T j x S) (h : j ≤ k) : Fn P w K mg base T k x S :=
  let ⟨f, fd, ps, a, b, c, d⟩ := F.ex; ⟨f, fd, ps, a, b, c, d.mono h⟩
theorem Fn.imp {P : Program} {w : World} {K : PySem.W.Frag} {mg : Str → Option Value} {base : Heap} {T : List Addr} {k : Nat} {x : Str} {S S' : FSpec} (F : Fn P w K mg base T k x S) (h : ∀ ds M Q xw, S' ds M Q xw → S ds M Q xw) : Fn P w K mg base T k x S' :=
  let ⟨f, fd, ps, a, b, c, d⟩ := F.ex
  ⟨f, fd, ps, a, b, c, d.imp fun vs H Q E ⟨hid, ds, M, Qd, xw, h1, h2, h3, h4⟩ => ⟨hid, ds, M, Qd, xw, h1, h2, h _ _ _ _ h3, h4⟩⟩
def fCall (S : FSpec) (fa : FA) : FE := fun xw ρ M Q => fa xw ρ M fun ds M1 => S ds M1 Q xw
section
variable {X : Cx} {T : List Addr} {W : WX}
theorem de_call {k : Nat} {x : Str} {S : FSpec} {p pos : Pos} {e : Expr} {es : List Expr} {fa : FA} (F : Fn X.prog X.w X.K X.mg X.base T k x S) (hr : Room k X.A) (tk : Takes X W) (hg : Gl X x) (ha : DA X T W (e :: es) fa) (hdb : (x == ("__debug__" : Str)) = false)
    (he : starEach (e :: es) X.env = (false, eval e X.env) :: starEach es X.env) (hpl : (backTo pos (starEach es X.env)).any (·.1) = false) : DE X T W (.Call (.Name x p) (e :: es) [] pos) (fCall S fa) := by
  obtain ⟨f, fd, ps, hm, hk, hb, G⟩ := F.ex
  obtain ⟨t, pa, sa⟩ := ha
  refine ⟨_, pe_callS G hr hg hm hk hb (fun σ => passAt tk σ) pa hdb he hpl, fun hid σ H ρ M xw Q Qv r s w q p => ?_⟩
  refine sa hid σ H ρ M xw _ _ r s w q fun vs H1 ds M1 s1 e1 r1 q1 => ?_
  exact ⟨hid, ds, M1, Q, xw, s1, r1, q1, p.ext e1, fun cls dd H' M' xd s2 e2 x2 q2 => w cls dd H' M' xd s2 (e1.trans e2) x2 q2⟩
end

/-! ### where one stands -/
structure Std (P : Program) (w : World) (K : PySem.W.Frag) (mg : Str → Option Value) (base : Heap) (N : List Str) (sc : Scope) (fn : Str → Bool) (k : Nat) (W : WX) (X : Cx) : Prop where
  eP : X.prog = P
  ew : X.w = w
  eK : X.K = K
  em : X.mg = mg
  eb : X.base = base
  eN : X.N = N
  nd : N.Nodup
  es : X.env.scope = sc
  fn : ∀ x, fn x = true → X.fn x = true
  calm : X.calm = true
  takes : Takes X W
  pass : PassesOwn (model X.prog X.w) X.A X.env X.xe
  room : Room k X.A
section
variable {P : Program} {w : World} {K : PySem.W.Frag} {mg : Str → Option Value} {base : Heap} {N ps : List Str} {sc : Scope} {fn : Str → Bool} {k : Nat} {W : WX} {X : Cx} {T : List Addr}
theorem Std.blk (g : Std P w K mg base N sc fn k W X) (s : Shared) (H : Hp) (scope : Scope) (C : Addr) (cl : List (Str × Addr)) (fp : List Addr) :
    Std P w K mg base N (relS scope sc) (fun x => scope.names.lookup x == some .cell) k WF (X.blk s H scope (compEnvC scope cl C X.env) fp) :=
  ⟨g.eP, g.ew, g.eK, g.em, g.eb, g.eN, g.nd, by rw [← g.es]; rfl, fun _ h => h, g.calm, takes0, PassesOwn.never, g.room⟩
/-- the data of a def's body -/
def startD (N : List Str) (ds : List D) : Env' := ds.map some ++ List.replicate (N.length - ds.length) none
def bodyE (N : List Str) (f : FS) (ds : List D) (M : Mu) (Q : D → Mu → Prop) (xw : XW) : Prop :=
  f { nx := fun _ M' => Q .non (mres M' M), rt := fun d M' => Q d (mres M' M), xw := fun xd _ M' => xw xd (mres M' M) } (startD N ds) M
theorem Ext.res {hid : List Addr} {H : Hp} {M M' : Mu} : Ext hid H M' H (mres M' M) := Ext.less fun a h => by unfold mres; split <;> first | rfl | exact h
theorem Sto.res {hid : List Addr} {H : Hp} {M M' : Mu} (s : Sto K T hid H M') : Sto K T hid H (mres M' M) := by
  have e : Ext hid H M' H (mres M' M) := Ext.res
  refine ⟨fun a m h => ?_, s.tab, fun a ha => ?_⟩
  · have h' : M' a = some m := by
      unfold mres at h
      split at h
      · cases h
      · exact h
    exact (s.mem a m h').ext e rfl
  · obtain ⟨h1, h2⟩ := s.hidn a ha
    exact ⟨by unfold mres; split <;> first | rfl | exact h1, h2⟩
theorem XR.ext {hid : List Addr} {H H' : Hp} {M M' : Mu} {cls : Value} {dd : Option Addr} {xd : XD} (e : Ext hid H M H' M') (hh : H' = H) (x : XR K hid H M cls dd xd) : XR K hid H' M' cls dd xd := by
  subst hh
  obtain ⟨h1, h2⟩ := x
  refine ⟨h1, ?_⟩
  rcases h2 with h2 | ⟨d, fvs, a, b, c, r⟩
  · exact .inl h2
  · exact .inr ⟨d, fvs, a, b, c, e.rvs _ _ r⟩
/-- THE RULE for a def -/
theorem fn_okF {x qual : Str} {params : Arguments} {body : List Stmt} {f : Addr} {fd : FuncData} {S : FSpec} {fs : FS} (F : FunD K x qual params body sc [] [] f fd) (sco : FnScope N ps sc)
    (har : ∀ ds M Q xw, S ds M Q xw → ds.length = ps.length)
    (hd : ∀ X W, Std P w K mg base N sc (fun _ => true) k W X → DSs X T W body fs)
    (hs : ∀ ds M Q xw, S ds M Q xw → bodyE N fs ds M Q xw) : FnOk P w K mg base (L2.CX P w) (k + 1) f fd ps (spOf K T S) := by
  refine F.ok sco (fun vs H Q E h => ?_) fun cdv A outer s H vs Q E hr h => ?_
  · obtain ⟨hid, ds, M, Qd, xw, s, r, q, _⟩ := h
    rw [r.length]
    exact har ds M Qd xw q
  · obtain ⟨hid, ds, M, Qd, xw, st, r, q, po, px⟩ := h
    have hl : vs.length = ds.length := r.length
    have g : Std P w K mg base N sc (fun _ => true) k (fun cls d _ H' => E cls d H') (cxOf (L2.CX P w) P w K mg base N qual sc f cdv A outer s H E) :=
      ⟨rfl, rfl, rfl, rfl, rfl, rfl, sco.nd, rfl, fun _ _ => rfl, rfl, takes_of rfl rfl rfl rfl, passes_of rfl, hr⟩
    obtain ⟨t, p, sim⟩ := hd _ _ g
    refine ⟨t, p, sim hid _ H (startD N ds) M { nx := fun _ M' => Qd .non (mres M' M), rt := fun d M' => Qd d (mres M' M), xw := fun xd _ M' => xw xd (mres M' M) } _ ⟨?_, fun i d hi => ?_⟩ st (fun cls dd σ' H' ρ' M' xd r' s' e' x' q' => ?_) (hs ds M Qd xw q) ⟨?_, ?_, fun _ _ _ _ _ _ _ z => z, fun _ _ _ _ _ _ _ z => z⟩⟩
    · unfold startD L2.start
      rw [List.length_append, List.length_append, List.length_map, List.length_map, List.length_replicate, List.length_replicate, hl]
    · unfold startD at hi
      have hi' : i < ds.length := by
        by_cases h : i < ds.length
        · exact h
        · rw [List.getElem?_append_right (by simpa using h), List.getElem?_replicate] at hi
          split at hi <;> cases hi
      rw [List.getElem?_append_left (by simpa using hi'), List.getElem?_map] at hi
      have hd' : ds[i]? = some d := by
        cases e : ds[i]? with
        | none => rw [e] at hi; cases hi
        | some a => rw [e] at hi; cases hi; rfl
      obtain ⟨v, h1, h2⟩ := r.get i hd'
      refine ⟨v, ?_, h2⟩
      unfold L2.start
      rw [List.getElem?_append_left (by rw [List.length_map]; omega), List.getElem?_map, h1]
      rfl
    · exact px cls dd H' (mres M' M) xd s'.res (e'.trans Ext.res) (x'.ext Ext.res rfl) q'
    · intro σ' H' ρ' M' r' s' e' q'
      exact po _ H' _ (mres M' M) s'.res (e'.trans Ext.res) .non q'
    · intro v H' d M' s' e' r' q'
      exact po v H' d (mres M' M) s'.res (e'.trans Ext.res) ((Ext.res (M := M)).rv _ _ r') q'
theorem fn_ok {x qual : Str} {params : Arguments} {body : List Stmt} {f : Addr} {fd : FuncData} {S : FSpec} {fs : FS} {nm : Str} (F : FunD K x qual params body sc [] [] f fd) (hm : mg nm = some (.ref f)) (sco : FnScope N ps sc) (hb : Binds K fd ps [])
    (har : ∀ ds M Q xw, S ds M Q xw → ds.length = ps.length)
    (hd : ∀ X W, Std P w K mg base N sc (fun _ => true) k W X → DSs X T W body fs)
    (hs : ∀ ds M Q xw, S ds M Q xw → bodyE N fs ds M Q xw) : Fn P w K mg base T (k + 1) nm S := ⟨f, fd, ps, hm, F.kp, hb, fn_okF F sco har hd hs⟩
end
end U

set_option Elab.async false
set_option linter.all false
set_option maxRecDepth 100000
set_option maxHeartbeats 1000000
/-! U9: the rules as they are printed: n_ for an expression, t_ for a test, s_ for a statement. -/
namespace U
open PySem PySem.Spec PyProof.Rows L2
/-- the built-in names that no module of the program binds -/
structure Fr (mg : Str → Option Value) : Prop where
  len : mg "len" = none
  int : mg "int" = none
  list : mg "list" = none
  tuple : mg "tuple" = none
  range : mg "range" = none
  zip : mg "zip" = none
  enumerate : mg "enumerate" = none
  reversed : mg "reversed" = none
  any : mg "any" = none
  all : mg "all" = none
  sum : mg "sum" = none
  sorted : mg "sorted" = none
  set : mg "set" = none
  max : mg "max" = none
  min : mg "min" = none
  isinstance : mg "isinstance" = none
  bool : mg "bool" = none
  str : mg "str" = none
  dict : mg "dict" = none
def frNames : List Str := ["len", "int", "list", "tuple", "range", "zip", "enumerate", "reversed", "any", "all", "sum", "sorted", "set", "max", "min", "isinstance", "bool", "str", "dict"]
theorem Fr.of {mg : Str → Option Value} (h : ∀ x ∈ frNames, mg x = none) : Fr mg := by
  constructor <;> exact h _ (by simp [frNames])

/-- a op b op' c -/
def fChain (g g' : G2) (fa fb fc : FE) : FE := fun xw ρ M Q => fa xw ρ M fun x M1 => fb xw ρ M1 fun y M2 => g x y M2 fun z M3 => match z with
  | .bl k => if k = true then fc xw ρ M3 fun u M4 => g' y u M4 Q else Q (.bl false) M3
  | _ => False
theorem sim_chain {K : PySem.W.Frag} {T : List Addr} {W : WX} {r r' : R2} {g g' : G2} {ta tb tc : TE} {fa fb fc : FE} (o : OSim K T r g) (o' : OSim K T r' g') (a : ESim K T W ta fa) (b : ESim K T W tb fb) (c : ESim K T W tc fc) : ESim K T W (tChain r r' ta tb tc) (fChain g g' fa fb fc) := by
  intro hid σ H ρ M xw Q Qv r s w q p
  refine a hid σ H ρ M xw _ _ r s w q fun v H1 d M1 s1 e1 r1 q1 => ?_
  refine b hid σ H1 ρ M1 xw _ _ (r.ext e1) s1 (w.ext e1) q1 fun u H2 d2 M2 s2 e2 r2 q2 => ?_
  have e12 := e1.trans e2
  refine o hid H2 M2 d d2 v u _ _ s2 (e2.rv _ _ r1) r2 q2 fun z H3 d3 M3 s3 e3 r3 q3 => ?_
  have e13 := e12.trans e3
  cases d3 with
  | bl k =>
    cases r3
    refine ⟨k, rfl, ?_⟩
    cases k with
    | false => exact p _ H3 _ M3 s3 e13 (.bl false) q3
    | true =>
      refine c hid σ H3 ρ M3 xw _ _ (r.ext e13) s3 (w.ext e13) q3 fun u4 H4 d4 M4 s4 e4 r4 q4 => ?_
      exact o' hid H4 M4 d2 d4 u u4 Q Qv s4 ((e3.trans e4).rv _ _ r2) r4 q4 (p.ext (e13.trans e4))
  | _ => exact (show False from q3).elim
section
variable {X : Cx} {T : List Addr} {W : WX}
theorem de_chain {op op' : CmpOp} {r r' : R2} {g g' : G2} {a b c : Expr} {fa fb fc : FE} {pos : Pos} (ho : OpR X (compareOp op) r) (ho' : OpR X (compareOp op') r') (o : OSim X.K T r g) (o' : OSim X.K T r' g') (ha : DE X T W a fa) (hb : DE X T W b fb) (hc : DE X T W c fc)
    (hm : lastMarks [op, op'] [b, c] = false) : DE X T W (.Compare a [op, op'] [b, c] pos) (fChain g g' fa fb fc) := by
  obtain ⟨ta, pa, sa⟩ := ha
  obtain ⟨tb, pb, sb⟩ := hb
  obtain ⟨tc, pc, sc⟩ := hc
  exact ⟨_, pe_chain ho ho' pa pb pc hm, sim_chain o o' sa sb sc⟩
theorem dt_chain {op op' : CmpOp} {r r' : R2} {g g' : G2} {a b c : Expr} {fa fb fc : FE} {pos : Pos} (ho : OpR X (compareOp op) r) (ho' : OpR X (compareOp op') r') (o : OSim X.K T r g) (o' : OSim X.K T r' g') (ha : DE X T W a fa) (hb : DE X T W b fb) (hc : DE X T W c fc)
    (hm : lastMarks [op, op'] [b, c] = false) : DT X T W (.Compare a [op, op'] [b, c] pos) (fB (fChain g g' fa fb fc)) := by
  obtain ⟨ta, pa, sa⟩ := ha
  obtain ⟨tb, pb, sb⟩ := hb
  obtain ⟨tc, pc, sc⟩ := hc
  exact ⟨_, pt_chain ho ho' pa pb pc hm, simT_of (sim_chain o o' sa sb sc)⟩
end

section
variable {P : Program} {w : World} {K : PySem.W.Frag} {mg : Str → Option Value} {base : Heap} {N : List Str} {sc : Scope} {fn : Str → Bool} {k : Nat} {W : WX} {X : Cx} {T : List Addr}
variable (g : Std P w K mg base N sc fn k W X)
include g
theorem Std.gl {x : Str} (h : sc.names.lookup x = some .globalImplicit) : Gl X x := by unfold Gl Env.kindOf; rw [g.es]; exact h
theorem Std.none {x : Str} (h : mg x = Option.none) : X.mg x = Option.none := by rw [g.em]; exact h
theorem Std.hu : X.A.units + 64 < cLine := g.room.units
theorem Std.hu65 : X.A.units + 65 < cLine := by have := g.room.un; omega
theorem n_nm (i : Nat) {x : Str} {pos : Pos} (hN : N[i]? = some x := by rfl) (hv : Vis sc x := by first | exact Or.inl rfl | exact Or.inr (Or.inl rfl) | exact Or.inr (Or.inr rfl)) (hd : (x == ("__debug__" : Str)) = false := by decide +kernel) (hcd : (x == ("__classdict__" : Str)) = false := by decide +kernel) : DE X T W (.Name x pos) (fNm i) :=
  de_nm i (by rw [g.eN]; exact hN) (by rw [g.es]; exact hv) hd hcd
theorem n_gint {i : Int} {t : Tok} {x : Str} {pos : Pos} (hm : mg x = some (.int i t)) (hg : sc.names.lookup x = some .globalImplicit := by rfl) (hd : (x == ("__debug__" : Str)) = false := by decide +kernel) : DE X T W (.Name x pos) (fC (.int i)) :=
  de_gint (g.gl hg) (by rw [g.em]; exact hm) hd
theorem n_tyv {n : String} {x : Str} {pos : Pos} (hm : mg x = none) (hv : bootBuiltins x = some (.type n)) (hg : sc.names.lookup x = some .globalImplicit := by rfl) (hn : x ≠ "__name__" := by decide +kernel) (hd : (x == ("__debug__" : Str)) = false := by decide +kernel) : DE X T W (.Name x pos) (fC (.ty n)) :=
  de_tyv (g.gl hg) (g.none hm) hv hn hd
variable {a b c : Expr} {fa fb fc : FE} {pos : Pos}
theorem n_add (ha : DE X T W a fa) (hb : DE X T W b fb) : DE X T W (.BinOp a .Add b pos) (fOp gAdd fa fb) := de_bin op_addA o_add ha hb
theorem n_sub (ha : DE X T W a fa) (hb : DE X T W b fb) : DE X T W (.BinOp a .Sub b pos) (fOp gSub fa fb) := de_bin op_sub o_sub ha hb
theorem n_mul (ha : DE X T W a fa) (hb : DE X T W b fb) : DE X T W (.BinOp a .Mult b pos) (fOp gMul fa fb) := de_bin op_mulA o_mul ha hb
theorem n_fdiv (ha : DE X T W a fa) (hb : DE X T W b fb) : DE X T W (.BinOp a .FloorDiv b pos) (fOp gFdiv fa fb) := de_bin op_fdivW o_fdiv ha hb
theorem n_mod (ha : DE X T W a fa) (hb : DE X T W b fb) : DE X T W (.BinOp a .Mod b pos) (fOp gMod fa fb) := de_bin op_mod o_mod ha hb
theorem n_pow (ha : DE X T W a fa) (hb : DE X T W b fb) : DE X T W (.BinOp a .Pow b pos) (fOp gPow fa fb) := de_bin op_pow o_pow ha hb
theorem n_neg (ha : DE X T W a fa) : DE X T W (.UnaryOp .USub a pos) (fNeg fa) := de_neg ha
theorem n_eq (ha : DE X T W a fa) (hb : DE X T W b fb) : DE X T W (.Compare a [.Eq] [b] pos) (fOp gEq fa fb) := de_cmp (op_eqD g.hu) o_eq (nomark _) ha hb
theorem n_ne (ha : DE X T W a fa) (hb : DE X T W b fb) : DE X T W (.Compare a [.NotEq] [b] pos) (fOp gNe fa fb) := de_cmp (op_neD g.hu) o_ne (nomark _) ha hb
theorem n_lt (ha : DE X T W a fa) (hb : DE X T W b fb) : DE X T W (.Compare a [.Lt] [b] pos) (fOp gLt fa fb) := de_cmp op_lt o_lt (nomark _) ha hb
theorem n_le (ha : DE X T W a fa) (hb : DE X T W b fb) : DE X T W (.Compare a [.LtE] [b] pos) (fOp gLe fa fb) := de_cmp op_le o_le (nomark _) ha hb
theorem n_gt (ha : DE X T W a fa) (hb : DE X T W b fb) : DE X T W (.Compare a [.Gt] [b] pos) (fOp gGt fa fb) := de_cmp op_gt o_gt (nomark _) ha hb
theorem n_ge (ha : DE X T W a fa) (hb : DE X T W b fb) : DE X T W (.Compare a [.GtE] [b] pos) (fOp gGe fa fb) := de_cmp op_ge o_ge (nomark _) ha hb
theorem n_is (ha : DE X T W a fa) (hb : DE X T W b fb) : DE X T W (.Compare a [.Is] [b] pos) (fOp gIs fa fb) := de_cmp op_isA o_is (nomark _) ha hb
theorem n_isNot (ha : DE X T W a fa) (hb : DE X T W b fb) : DE X T W (.Compare a [.IsNot] [b] pos) (fOp gIsNot fa fb) := de_cmp op_notA o_isNot (nomark _) ha hb
theorem n_in (ha : DE X T W a fa) (hb : DE X T W b fb) (hm : behindInMarks .In b = false := by rfl) : DE X T W (.Compare a [.In] [b] pos) (fOp gIn fa fb) := de_cmp (op_inA g.hu65) o_in hm ha hb
theorem n_notIn (ha : DE X T W a fa) (hb : DE X T W b fb) (hm : behindInMarks .NotIn b = false := by rfl) : DE X T W (.Compare a [.NotIn] [b] pos) (fOp gNotIn fa fb) := de_cmp (op_notInA g.hu65) o_notIn hm ha hb
theorem t_eq (ha : DE X T W a fa) (hb : DE X T W b fb) : DT X T W (.Compare a [.Eq] [b] pos) (fB (fOp gEq fa fb)) := dt_cmp (op_eqD g.hu) o_eq (nomark _) ha hb
theorem t_ne (ha : DE X T W a fa) (hb : DE X T W b fb) : DT X T W (.Compare a [.NotEq] [b] pos) (fB (fOp gNe fa fb)) := dt_cmp (op_neD g.hu) o_ne (nomark _) ha hb
theorem t_lt (ha : DE X T W a fa) (hb : DE X T W b fb) : DT X T W (.Compare a [.Lt] [b] pos) (fB (fOp gLt fa fb)) := dt_cmp op_lt o_lt (nomark _) ha hb
theorem t_le (ha : DE X T W a fa) (hb : DE X T W b fb) : DT X T W (.Compare a [.LtE] [b] pos) (fB (fOp gLe fa fb)) := dt_cmp op_le o_le (nomark _) ha hb
theorem t_gt (ha : DE X T W a fa) (hb : DE X T W b fb) : DT X T W (.Compare a [.Gt] [b] pos) (fB (fOp gGt fa fb)) := dt_cmp op_gt o_gt (nomark _) ha hb
theorem t_ge (ha : DE X T W a fa) (hb : DE X T W b fb) : DT X T W (.Compare a [.GtE] [b] pos) (fB (fOp gGe fa fb)) := dt_cmp op_ge o_ge (nomark _) ha hb
theorem t_is (ha : DE X T W a fa) (hb : DE X T W b fb) : DT X T W (.Compare a [.Is] [b] pos) (fB (fOp gIs fa fb)) := dt_cmp op_isA o_is (nomark _) ha hb
theorem t_isNot (ha : DE X T W a fa) (hb : DE X T W b fb) : DT X T W (.Compare a [.IsNot] [b] pos) (fB (fOp gIsNot fa fb)) := dt_cmp op_notA o_isNot (nomark _) ha hb
theorem t_in (ha : DE X T W a fa) (hb : DE X T W b fb) (hm : behindInMarks .In b = false := by rfl) : DT X T W (.Compare a [.In] [b] pos) (fB (fOp gIn fa fb)) := dt_cmp (op_inA g.hu65) o_in hm ha hb
theorem t_notIn (ha : DE X T W a fa) (hb : DE X T W b fb) (hm : behindInMarks .NotIn b = false := by rfl) : DT X T W (.Compare a [.NotIn] [b] pos) (fB (fOp gNotIn fa fb)) := dt_cmp (op_notInA g.hu65) o_notIn hm ha hb
theorem n_leLt (ha : DE X T W a fa) (hb : DE X T W b fb) (hc : DE X T W c fc) (hm : lastMarks [.LtE, .Lt] [b, c] = false := by with_unfolding_all rfl) : DE X T W (.Compare a [.LtE, .Lt] [b, c] pos) (fChain gLe gLt fa fb fc) := de_chain op_le op_lt o_le o_lt ha hb hc hm
theorem n_leLe (ha : DE X T W a fa) (hb : DE X T W b fb) (hc : DE X T W c fc) (hm : lastMarks [.LtE, .LtE] [b, c] = false := by with_unfolding_all rfl) : DE X T W (.Compare a [.LtE, .LtE] [b, c] pos) (fChain gLe gLe fa fb fc) := de_chain op_le op_le o_le o_le ha hb hc hm
theorem t_leLt (ha : DE X T W a fa) (hb : DE X T W b fb) (hc : DE X T W c fc) (hm : lastMarks [.LtE, .Lt] [b, c] = false := by with_unfolding_all rfl) : DT X T W (.Compare a [.LtE, .Lt] [b, c] pos) (fB (fChain gLe gLt fa fb fc)) := dt_chain op_le op_lt o_le o_lt ha hb hc hm
theorem t_leLe (ha : DE X T W a fa) (hb : DE X T W b fb) (hc : DE X T W c fc) (hm : lastMarks [.LtE, .LtE] [b, c] = false := by with_unfolding_all rfl) : DT X T W (.Compare a [.LtE, .LtE] [b, c] pos) (fB (fChain gLe gLe fa fb fc)) := dt_chain op_le op_le o_le o_le ha hb hc hm
theorem t_tr {e : Expr} {f : FE} (h : DE X T W e f) (he : ∀ whole, isTrue e X.env whole = (do let v ← whole; standAt e.pos; holding [v] (truthy v)) := by intro _; rfl) : DT X T W e (fTr f) := dt_tr h he
theorem n_ix (ha : DE X T W a fa) (hb : DE X T W b fb) (hs : PlainIx b := by exact fun _ _ => rfl) : DE X T W (.Subscript a b pos) (fOp gIx fa fb) := de_ix ix_seq o_ix hs ha hb
theorem l_cons {e : Expr} {es : List Expr} {f : FE} {h : FA} (h1 : DE X T W e f) (h2 : DA X T W es h) (hs : starEach (e :: es) X.env = (false, eval e X.env) :: starEach es X.env := by rfl) : DA X T W (e :: es) (fCons f h) := da_cons h1 h2 hs
theorem n_tup {es : List Expr} {j : Nat} {h : FA} (h1 : DA X T W es h) : DE X T W (.Tuple es j pos) (fTup h) := de_tup h1
theorem n_lst {es : List Expr} {h : FA} (h1 : DA X T W es h) : DL X T W (.List es pos) (fLstL h) := dl_lst h1
theorem n_cat (ha : DE X T W a fa) (hb : DE X T W b fb) : DL X T W (.BinOp a .Add b pos) (fCatL fa fb) := dl_cat ha hb
variable {p : Pos} {e : Expr} {es : List Expr} {fs : FA}
theorem n_len {p : Pos} {fs : FA} (F : Fr mg) (ha : DA X T W [e] fs) (hg : sc.names.lookup ("len" : Str) = some .globalImplicit := by rfl) (he : starEach [e] X.env = (false, eval e X.env) :: starEach [] X.env := by rfl) : DE X T W (.Call (.Name "len" p) [e] [] pos) (fCB gLen fs) :=
  de_callB call_len c_len (g.gl hg) (g.none F.len) boot_len ha (by decide +kernel) (by decide +kernel) he rfl
theorem n_int1 {p : Pos} {fs : FA} (F : Fr mg) (ha : DA X T W [e] fs) (hg : sc.names.lookup ("int" : Str) = some .globalImplicit := by rfl) (he : starEach [e] X.env = (false, eval e X.env) :: starEach [] X.env := by rfl) : DE X T W (.Call (.Name "int" p) [e] [] pos) (fCB gInt fs) :=
  de_callTy call_int1 c_int (g.gl hg) (g.none F.int) boot_int ha (by decide +kernel) (by decide +kernel) he rfl
theorem n_tuple {p : Pos} {fs : FA} (F : Fr mg) (ha : DA X T W [e] fs) (hg : sc.names.lookup ("tuple" : Str) = some .globalImplicit := by rfl) (he : starEach [e] X.env = (false, eval e X.env) :: starEach [] X.env := by rfl) : DE X T W (.Call (.Name "tuple" p) [e] [] pos) (fCB gTuple fs) :=
  de_callTy call_tuple_of c_tuple (g.gl hg) (g.none F.tuple) boot_tuple ha (by decide +kernel) (by decide +kernel) he rfl
theorem n_list {p : Pos} {fs : FA} (F : Fr mg) (ha : DA X T W [e] fs) (hg : sc.names.lookup ("list" : Str) = some .globalImplicit := by rfl) (he : starEach [e] X.env = (false, eval e X.env) :: starEach [] X.env := by rfl) : DL X T W (.Call (.Name "list" p) [e] [] pos) (fListL fs) :=
  dl_list (g.gl hg) (g.none F.list) boot_list ha (by decide +kernel) (by decide +kernel) he rfl
theorem n_max {e2 : Expr} {p : Pos} {fs : FA} (F : Fr mg) (ha : DA X T W [e, e2] fs) (hg : sc.names.lookup ("max" : Str) = some .globalImplicit := by rfl) (he : starEach [e, e2] X.env = (false, eval e X.env) :: starEach [e2] X.env := by rfl) (hpl : (backTo pos (starEach [e2] X.env)).any (·.1) = false := by rfl) : DE X T W (.Call (.Name "max" p) [e, e2] [] pos) (fCB gMax fs) :=
  de_callB (call_max2 g.calm) c_max (g.gl hg) (g.none F.max) boot_max ha (by decide +kernel) (by decide +kernel) he hpl
theorem n_min {e2 : Expr} {p : Pos} {fs : FA} (F : Fr mg) (ha : DA X T W [e, e2] fs) (hg : sc.names.lookup ("min" : Str) = some .globalImplicit := by rfl) (he : starEach [e, e2] X.env = (false, eval e X.env) :: starEach [e2] X.env := by rfl) (hpl : (backTo pos (starEach [e2] X.env)).any (·.1) = false := by rfl) : DE X T W (.Call (.Name "min" p) [e, e2] [] pos) (fCB gMin fs) :=
  de_callB (call_min2 g.calm) c_min (g.gl hg) (g.none F.min) boot_min ha (by decide +kernel) (by decide +kernel) he hpl
theorem n_isBool {e2 : Expr} {p : Pos} {fs : FA} (F : Fr mg) (ha : DA X T W [e, e2] fs) (hg : sc.names.lookup ("isinstance" : Str) = some .globalImplicit := by rfl) (he : starEach [e, e2] X.env = (false, eval e X.env) :: starEach [e2] X.env := by rfl) (hpl : (backTo pos (starEach [e2] X.env)).any (·.1) = false := by rfl) : DE X T W (.Call (.Name "isinstance" p) [e, e2] [] pos) (fCB gIsBool fs) :=
  de_callB call_isi c_isBool (g.gl hg) (g.none F.isinstance) boot_isinstance ha (by decide +kernel) (by decide +kernel) he hpl
theorem n_call {x : Str} {S : FSpec} {p : Pos} {fs : FA} (F : Fn P w K mg base T k x S) (ha : DA X T W (e :: es) fs) (hg : sc.names.lookup x = some .globalImplicit := by rfl) (hdb : (x == ("__debug__" : Str)) = false := by decide +kernel)
    (he : starEach (e :: es) X.env = (false, eval e X.env) :: starEach es X.env := by rfl) (hpl : (backTo pos (starEach es X.env)).any (·.1) = false := by rfl) : DE X T W (.Call (.Name x p) (e :: es) [] pos) (fCall S fs) := by
  refine de_call (k := k) ?_ g.room g.takes (g.gl hg) ha hdb he hpl
  rw [g.eP, g.ew, g.eK, g.em, g.eb]
  exact F
theorem n_append {o : Expr} {fo : FE} {apos : Pos} {fs : FA} (ho : DE X T W o fo) (ha : DA X T W [e] fs) (hbase : attributeBase o "append" X.env (eval o X.env) = eval o X.env := by rfl)
    (hfew : ((backTo pos (starEach [e] X.env)).all (fun x => !x.1) && (backToKw pos (keywordEach [] X.env)).all (fun x => x.1.isSome)
      && decide ([e].length + ([] : List Keyword).length + (if ([] : List Keyword).isEmpty then 0 else 1) < 30)) = true := by rfl)
    (hline : (apos.endLine == pos.line) = true := by rfl) (hs : starEach [e] X.env = (false, eval e X.env) :: starEach [] X.env := by rfl) :
    DE X T W (.Call (.Attribute o "append" apos) [e] [] pos) (fAppend fo fs) := de_append ho ha hbase hfew hline hs rfl
theorem n_pop {o : Expr} {fo : FE} {apos : Pos} (ho : DE X T W o fo) (hbase : attributeBase o "pop" X.env (eval o X.env) = eval o X.env := by rfl) (hline : (apos.endLine == pos.line) = true := by rfl) : DE X T W (.Call (.Attribute o "pop" apos) [] [] pos) (fPop fo) := de_pop ho hbase hline
/-! targets, walks -/
theorem g_nm {vs : List Nat} (i : Nat) {x : Str} (hN : N[i]? = some x := by rfl) (hx : Loc sc x := by first | exact Or.inl rfl | exact Or.inr rfl) (hf : fn x = true ∨ sc.names.lookup x = some .local := by first | exact .inr rfl | exact .inl rfl) (hv : i ∈ vs := by decide) : DG X T (.Name x pos) (bNm i) vs :=
  dg_nm (by rw [g.eN]; exact g.nd) (by rw [g.eN]; exact hN) (by rw [g.es]; exact hx) (hf.elim (fun h => .inl (g.fn x h)) fun h => .inr (by rw [g.es]; exact h)) hv
theorem g_cons {vs : List Nat} {es : List Expr} {b : BD} {bs : BL} (h1 : DG X T e b vs) (h2 : DGs X T es bs vs) (hs : (assignEach (e :: es) X.env).map (·.2) = assign e X.env :: (assignEach es X.env).map (·.2) := by rfl) : DGs X T (e :: es) (bCons b bs) vs := dgs_cons h1 h2 hs
theorem g_tup {vs : List Nat} {es : List Expr} {j n : Nat} {bs : BL} (h : DGs X T es bs vs) (hn : (assignEach es X.env).length = n := by rfl) (hst : (assignEach es X.env).findIdx? (·.1) = none := by rfl) : DG X T (.Tuple es j pos) (bTup n bs) vs := dg_tup g.calm h hn hst
theorem i_rng1 {tg : Expr} {p : Pos} {fs : FA} (F : Fr mg) (ha : DA X T W [a] fs) (hg : sc.names.lookup ("range" : Str) = some .globalImplicit := by rfl) (hs : starEach [a] X.env = [(false, eval a X.env)] := by rfl) : DI X T W tg (.Call (.Name "range" p) [a] [] pos) (fRng1 fs) := di_rng1 (g.gl hg) (g.none F.range) ha hs
theorem i_rng2 {tg : Expr} {p : Pos} {fs : FA} (F : Fr mg) (ha : DA X T W [a, b] fs) (hg : sc.names.lookup ("range" : Str) = some .globalImplicit := by rfl) (hs : starEach [a, b] X.env = [(false, eval a X.env), (false, eval b X.env)] := by rfl) (hs2 : starEach [b] X.env = [(false, eval b X.env)] := by rfl) : DI X T W tg (.Call (.Name "range" p) [a, b] [] pos) (fRng2 fs) := di_rng2 (g.gl hg) (g.none F.range) ha hs hs2
/-! comprehensions -/
theorem n_lc {elt tg iter : Expr} {ifs : List Expr} {scope : Scope} (own : List (Str × Nat)) {fi : FI} {b : BD} {ft : FT} {fe : FE} (hi : DI X T W tg iter fi) (ok : blkC N sc scope own = true)
    (h : ∀ X', Std P w K mg base N (relS scope sc) (fun x => scope.names.lookup x == some .cell) k WF X' → DG X' T tg b (own.map (·.2)) ∧ DTs X' T WF ifs ft ∧ DE X' T WF elt fe)
    (hs : ∀ x, foldedSetIterable iter X.env x = pure x := by intro _; rfl) : DL X T W (.ListComp elt [⟨tg, iter, ifs, 0⟩] scope pos) (fLc fi b ft fe (own.map (·.2))) :=
  dl_lc g.calm (by rw [g.eN]; exact g.nd) hi (blkOk_by (by rw [g.eN, g.es]; exact ok)) (fun s H C cl fp => h _ (g.blk s H scope C cl fp)) hs
/-! statements -/
theorem s_set {i : Nat} {x : Str} {f : FE} {pos' : Pos} (he : DE X T W e f) (hN : N[i]? = some x := by rfl) (hx : Loc sc x := by first | exact Or.inl rfl | exact Or.inr rfl) (hs : swapsWith e (some (.Name x pos')) pos.line X.env = pure false := by rfl) (hf : fn x = true ∨ sc.names.lookup x = some .local := by first | exact .inr rfl | exact .inl rfl) :
    DS X T W (.Assign [.Name x pos'] e pos) (fSet i f) :=
  ds_set (by rw [g.eN]; exact g.nd) (by rw [g.eN]; exact hN) (by rw [g.es]; exact hx) he hs (hf.elim (fun h => .inl (g.fn x h)) fun h => .inr (by rw [g.es]; exact h))
theorem s_own {i : Nat} {x : Str} {f : FL} {pos' : Pos} (he : DL X T W e f) (hN : N[i]? = some x := by rfl) (hx : Loc sc x := by first | exact Or.inl rfl | exact Or.inr rfl) (hs : swapsWith e (some (.Name x pos')) pos.line X.env = pure false := by rfl) (hf : fn x = true ∨ sc.names.lookup x = some .local := by first | exact .inr rfl | exact .inl rfl) :
    DS X T W (.Assign [.Name x pos'] e pos) (fOwn i f) :=
  ds_own (by rw [g.eN]; exact g.nd) (by rw [g.eN]; exact hN) (by rw [g.es]; exact hx) he hs (hf.elim (fun h => .inl (g.fn x h)) fun h => .inr (by rw [g.es]; exact h))
/-- y = [.. for ..], y a local, on one line -/
theorem s_lc2 {i : Nat} {y : Str} {py spos : Pos} {elt tg iter : Expr} {ifs : List Expr} {scope : Scope} (own : List (Str × Nat)) {fi : FI} {b : BD} {ft : FT} {fe : FE} (hi : DI X T W tg iter fi) (ok : blkC N sc scope own = true)
    (h : ∀ X', Std P w K mg base N (relS scope sc) (fun x => scope.names.lookup x == some .cell) k WF X' → DG X' T tg b (own.map (·.2)) ∧ DTs X' T WF ifs ft ∧ DE X' T WF elt fe)
    (hN : N[i]? = some y) (hyl : sc.names.lookup y = some .local) (hk : sc.kind = .function) (hl : (py.line == pos.line) = true) (hz : (scope.names.any fun (n, k) => n == y && (k == .local || k == .cell)) = false)
    (hs : ∀ x, foldedSetIterable iter X.env x = pure x) :
    DS X T W (.Assign [.Name y py] (.ListComp elt [⟨tg, iter, ifs, 0⟩] scope pos) spos) (fSet i (fOfL (fLc fi b ft fe (own.map (·.2))))) ∧ DS X T W (.Assign [.Name y py] (.ListComp elt [⟨tg, iter, ifs, 0⟩] scope pos) spos) (fOwn i (fLc fi b ft fe (own.map (·.2)))) :=
  ds_setLc g.calm (by rw [g.eN]; exact g.nd) (by rw [g.eN]; exact hN) (by rw [g.es]; exact hyl) (sw_true (by rw [g.es]; exact hk) (by rw [g.es]; exact hyl) hl hz) hi (blkOk_by (by rw [g.eN, g.es]; exact ok)) (fun s H C cl fp => h _ (g.blk s H scope C cl fp)) hs
theorem s_setLc {i : Nat} {y : Str} {py spos : Pos} {elt tg iter : Expr} {ifs : List Expr} {scope : Scope} (own : List (Str × Nat)) {fi : FI} {b : BD} {ft : FT} {fe : FE} (hi : DI X T W tg iter fi) (ok : blkC N sc scope own = true)
    (h : ∀ X', Std P w K mg base N (relS scope sc) (fun x => scope.names.lookup x == some .cell) k WF X' → DG X' T tg b (own.map (·.2)) ∧ DTs X' T WF ifs ft ∧ DE X' T WF elt fe)
    (hN : N[i]? = some y := by rfl) (hyl : sc.names.lookup y = some .local := by rfl) (hk : sc.kind = .function := by rfl) (hl : (py.line == pos.line) = true := by rfl) (hz : (scope.names.any fun (n, k) => n == y && (k == .local || k == .cell)) = false := by decide +kernel)
    (hs : ∀ x, foldedSetIterable iter X.env x = pure x := by intro _; rfl) :
    DS X T W (.Assign [.Name y py] (.ListComp elt [⟨tg, iter, ifs, 0⟩] scope pos) spos) (fSet i (fOfL (fLc fi b ft fe (own.map (·.2))))) := (s_lc2 g own hi ok h hN hyl hk hl hz hs).1
theorem s_ownLc {i : Nat} {y : Str} {py spos : Pos} {elt tg iter : Expr} {ifs : List Expr} {scope : Scope} (own : List (Str × Nat)) {fi : FI} {b : BD} {ft : FT} {fe : FE} (hi : DI X T W tg iter fi) (ok : blkC N sc scope own = true)
    (h : ∀ X', Std P w K mg base N (relS scope sc) (fun x => scope.names.lookup x == some .cell) k WF X' → DG X' T tg b (own.map (·.2)) ∧ DTs X' T WF ifs ft ∧ DE X' T WF elt fe)
    (hN : N[i]? = some y := by rfl) (hyl : sc.names.lookup y = some .local := by rfl) (hk : sc.kind = .function := by rfl) (hl : (py.line == pos.line) = true := by rfl) (hz : (scope.names.any fun (n, k) => n == y && (k == .local || k == .cell)) = false := by decide +kernel)
    (hs : ∀ x, foldedSetIterable iter X.env x = pure x := by intro _; rfl) :
    DS X T W (.Assign [.Name y py] (.ListComp elt [⟨tg, iter, ifs, 0⟩] scope pos) spos) (fOwn i (fLc fi b ft fe (own.map (·.2)))) := (s_lc2 g own hi ok h hN hyl hk hl hz hs).2
/-- y = [.. for ..], y a cell: the list is made, then stored -/
theorem sw_cell {elt : Expr} {gs : List Comprehension} {scope : Scope} {py : Pos} {y : Str} {l : Nat} (hy : sc.names.lookup y = some .cell) : swapsWith (.ListComp elt gs scope pos) (some (.Name y py)) l X.env = pure false := by
  have ky : X.env.kindOf y = some .cell := by unfold Env.kindOf; rw [g.es]; exact hy
  have hb : (X.env.kindOf y == some .local) = false := by rw [ky]; rfl
  unfold swapsWith
  show (pure (X.env.blockKind == .function && X.env.kindOf y == some .local && py.line == (Expr.ListComp elt gs scope pos).pos.line && _) : Sem Bool) = pure false
  rw [hb, Bool.and_false, Bool.false_and, Bool.false_and]
theorem s_asg {tg : Expr} {f : FE} {b : BD} {vs : List Nat} (he : DE X T W e f) (hg : DG X T tg b vs) (hs : swapsWithSole [tg] e pos.line X.env = pure false := by rfl) (hw : swappedStores [tg] e X.env = pure none := by rfl)
    (h1 : (assignEach [tg] X.env).map (·.2) = [assign tg X.env] := by rfl) : DS X T W (.Assign [tg] e pos) (fAsg f b) := ds_asg he hg hs hw h1
theorem s_setIx {o i : Expr} {fo fi fe : FE} {tpos : Pos} (ho : DE X T W o fo) (hi : DE X T W i fi) (he : DE X T W e fe)
    (ha : ∀ v, assign (.Subscript o i tpos) X.env v = (do
      let ov ← holding [v] (eval o X.env)
      let iv ← holding [v, ov] (eval i X.env)
      standAt tpos
      holding [v, ov, iv] (setItem ov iv v)
      release [v, ov, iv] []) := by intro _; rfl)
    (hs : swapsWithSole [.Subscript o i tpos] e pos.line X.env = pure false := by rfl) (hw : swappedStores [.Subscript o i tpos] e X.env = pure none := by rfl)
    (h1 : (assignEach [.Subscript o i tpos] X.env).map (·.2) = [assign (.Subscript o i tpos) X.env] := by rfl) : DS X T W (.Assign [.Subscript o i tpos] e pos) (fSetIx fo fi fe) := ds_setIx ho hi he ha hs hw h1
theorem s_aug {i : Nat} {x : Str} {f : FE} {pos' : Pos} (he : DE X T W e f) (hN : N[i]? = some x := by rfl) (hx : Loc sc x := by first | exact Or.inl rfl | exact Or.inr rfl) (hf : fn x = true ∨ sc.names.lookup x = some .local := by first | exact .inr rfl | exact .inl rfl) :
    DS X T W (.AugAssign (.Name x pos') .Add e pos) (fAug i gIadd f) :=
  ds_aug (by rw [g.eN]; exact g.nd) (by rw [g.eN]; exact hN) (by rw [g.es]; exact hx) iop_addA o_iadd he (hf.elim (fun h => .inl (g.fn x h)) fun h => .inr (by rw [g.es]; exact h))
theorem s_expr {f : FE} (h : DE X T W e f) (hs : swapsWith e none pos.line X.env = pure false := by rfl) : DS X T W (.Expr e pos) (fExpr f) := ds_expr h hs
theorem s_for {tg iter : Expr} {body : List Stmt} {fi : FI} {b : BD} {f : FS} {vs : List Nat} (hi : DI X T W tg iter fi) (hg : DG X T tg b vs) (hb : DSs X T W body f) (hs : ∀ x, foldedSetIterable iter X.env x = pure x := by intro _; rfl) : DS X T W (.For tg iter body [] pos) (fFor fi b f) :=
  ds_for g.pass g.calm hi hg hb hs
theorem s_while {body : List Stmt} {fc : FT} {f : FS} (hc : DT X T W c fc) (hb : DSs X T W body f) : DS X T W (.While c body [] pos) (fWhile fc f) := ds_while g.pass hc hb
end
end U

set_option Elab.async false
set_option linter.all false
set_option maxRecDepth 100000
set_option maxHeartbeats 1000000
/-! U10: defs that call themselves; the law's end. -/
namespace U
open PySem PySem.Spec PyProof.Rows L2
section
variable {P : Program} {w : World} {K : PySem.W.Frag} {mg : Str → Option Value} {base : Heap} {N ps : List Str} {sc : Scope} {k : Nat} {T : List Addr}
theorem fn_false {x qual : Str} {params : Arguments} {body : List Stmt} {f : Addr} {fd : FuncData} {nm : Str} (F : FunD K x qual params body sc [] [] f fd) (hm : mg nm = some (.ref f)) (sco : FnScope N ps sc) (hb : Binds K fd ps [])
    {S : FSpec} (h0 : ∀ ds M Q xw, ¬ S ds M Q xw) : Fn P w K mg base T (k + 1) nm S :=
  ⟨f, fd, ps, hm, F.kp, hb, F.ok sco (fun vs H Q E ⟨_, _, _, _, _, _, _, q, _⟩ => (h0 _ _ _ _ q).elim) fun cdv A outer s H vs Q E hr ⟨_, _, _, _, _, _, _, q, _⟩ => (h0 _ _ _ _ q).elim⟩
/-- a def that calls itself: S n tells what it does at inputs of size below n -/
theorem fn_rec {x qual : Str} {params : Arguments} {body : List Stmt} {f : Addr} {fd : FuncData} {S : Nat → FSpec} {fs : Nat → FS} {nm : Str} (F : FunD K x qual params body sc [] [] f fd) (hm : mg nm = some (.ref f)) (sco : FnScope N ps sc) (hb : Binds K fd ps [])
    (har : ∀ n ds M Q xw, S n ds M Q xw → ds.length = ps.length) (h0 : ∀ ds M Q xw, ¬ S 0 ds M Q xw)
    (hd : ∀ j n, k ≤ j → Fn P w K mg base T j nm (S n) → ∀ X W, Std P w K mg base N sc (fun _ => true) j W X → DSs X T W body (fs n))
    (hs : ∀ n ds M Q xw, S (n + 1) ds M Q xw → bodyE N (fs n) ds M Q xw) : ∀ n, Fn P w K mg base T (k + n + 1) nm (S n)
  | 0 => fn_false F hm sco hb h0
  | n + 1 => fn_ok F hm sco hb (har (n + 1)) (hd (k + n + 1) n (by omega) (fn_rec F hm sco hb har h0 hd hs n)) (hs n)
end
section
variable {l : PySem.W.OpenLaw} {w : World} {K : PySem.W.Frag} {mg : Str → Option Value} {h : Heap} {k n : Nat}
theorem sto0 {T : List Addr} {H : Hp} (hT : ∀ P ∈ T, H P = some (.tbl #[])) : Sto K T [] H fun _ => none :=
  ⟨fun _ _ e => (nomatch e), fun P hP => ⟨#[], hT P hP, by with_unfolding_all trivial⟩, fun _ hm => (nomatch hm)⟩
theorem rvs_ints {H : Hp} {M : Mu} : ∀ ns : List Int, Rvs K [] H M (ns.map V.int) (ns.map D.int)
  | [] => .nil
  | i :: ns => .cons (.int i) (rvs_ints ns)
theorem law_at {x : Str} {f : Addr} {fd : FuncData} {S : FSpec} (cs : List (Addr × Addr)) (hT : ∀ p ∈ cs, h.get? p.2 = some { cls := .none, data := .fields #[] }) (hn : ∀ p ∈ cs, K.lookup p.2 = none) (hC : ∀ p ∈ cs, PySem.W.CodeHd h p.1 p.2)
    (hb : ∀ (s : Shared) (u : Value), BindsTo s fd ⟨[u], []⟩ [(x, u)]) (hS : ∀ ns : List Int, ns.length ≤ n → (∀ z ∈ ns, Builtin.Int.intBits z ≤ 1048576) → S [.lst (ns.map .int)] (fun _ => none) (fun d _ => d = .bl true) fun _ _ => False)
    (hF : ∀ base : Heap, K.In base → base.Ns mainGlobals mg → (∀ p ∈ cs, LamX.TabB base mg p.1 p.2) → FnOk l.prog w K mg base (L2.CX l.prog w) k f fd [x] (spOf K (cs.map (·.2)) S)) : LamX.LawAtS l w K (L2.CX l.prog w) k n x mg f h := by
  refine ⟨fd, cs, spOf K (cs.map (·.2)) S, hT, hn, hC, hb, fun H a ns h1 h2 h3 h4 => ?_, hF⟩
  have hT2 : ∀ P ∈ cs.map (·.2), H P = some (.tbl #[]) := fun P hP => by
    obtain ⟨p, hp, rfl⟩ := List.mem_map.mp hP
    exact h3 p hp
  refine ⟨[], [.lst (ns.map .int)], fun _ => none, _, _, sto0 hT2, .cons (.lst ?_ (rvs_ints ns)) .nil, hS ns h1 h2, fun v H' d M' _ _ r q => ?_, fun _ _ _ _ _ _ _ _ z => z⟩
  · rcases h4 with (h4 | h4) | h4
    · exact .inl ⟨h4, rfl, fun z => (nomatch z)⟩
    · exact .inr (.inl h4)
    · exact .inr (.inr h4)
  · cases q
    cases r
    rfl
theorem cx_no (P : Program) (w : World) (H : Hp) (s : Shared) (e : Value) (s' : Shared) (h : L2.CX P w [] H s (fun _ _ _ => False) e s') : False := by
  obtain ⟨_, _, _, _, _, _, _, _, _, _, _, _, z⟩ := h
  exact z
end
end U

set_option Elab.async false
set_option linter.all false
set_option maxRecDepth 100000
set_option maxHeartbeats 1000000
/-! V1: the terms computed: rewriting rules from the head on; loops by induction. -/
namespace U
open PySem PySem.Spec PyProof.Rows L2

/-- what is not to be read yet -/
inductive Ky {α : Type} (a : α) : Type where
  | mk : Ky a
/-- a test whose answer is at hand; the branches stay unread -/
def IfS (b : Bool) (f g : FS) {E : FEnds} (_ : Ky E) (ρ : Env') (M : Mu) : Prop := if b = true then f E ρ M else g E ρ M
theorem IfS_t {f g : FS} {E : FEnds} {ρ : Env'} {M : Mu} : IfS true f g (.mk : Ky E) ρ M = f E ρ M := rfl
theorem IfS_f {f g : FS} {E : FEnds} {ρ : Env'} {M : Mu} : IfS false f g (.mk : Ky E) ρ M = g E ρ M := rfl
theorem IfS_mk {b : Bool} {f g : FS} {E : FEnds} {ρ : Env'} {M : Mu} (h1 : b = true → f E ρ M) (h2 : b = false → g E ρ M) : IfS b f g (.mk : Ky E) ρ M := by
  cases b with
  | true => exact h1 rfl
  | false => exact h2 rfl
def IfE (b : Bool) (f g : FE) (xw : XW) (ρ : Env') (M : Mu) {Q : D → Mu → Prop} (_ : Ky Q) : Prop := if b = true then f xw ρ M Q else g xw ρ M Q
theorem IfE_t {f g : FE} {xw : XW} {ρ : Env'} {M : Mu} {Q : D → Mu → Prop} : IfE true f g xw ρ M (.mk : Ky Q) = f xw ρ M Q := rfl
theorem IfE_f {f g : FE} {xw : XW} {ρ : Env'} {M : Mu} {Q : D → Mu → Prop} : IfE false f g xw ρ M (.mk : Ky Q) = g xw ρ M Q := rfl
def AndT (b : Bool) (g : FT) (xw : XW) (ρ : Env') (M : Mu) {Q : Bool → Mu → Prop} (_ : Ky Q) : Prop := if b = true then g xw ρ M Q else Q false M
def OrT (b : Bool) (g : FT) (xw : XW) (ρ : Env') (M : Mu) {Q : Bool → Mu → Prop} (_ : Ky Q) : Prop := if b = true then Q true M else g xw ρ M Q
theorem AndT_t {g : FT} {xw : XW} {ρ : Env'} {M : Mu} {Q : Bool → Mu → Prop} : AndT true g xw ρ M (.mk : Ky Q) = g xw ρ M Q := rfl
theorem AndT_f {g : FT} {xw : XW} {ρ : Env'} {M : Mu} {Q : Bool → Mu → Prop} : AndT false g xw ρ M (.mk : Ky Q) = Q false M := rfl
theorem OrT_t {g : FT} {xw : XW} {ρ : Env'} {M : Mu} {Q : Bool → Mu → Prop} : OrT true g xw ρ M (.mk : Ky Q) = Q true M := rfl
theorem OrT_f {g : FT} {xw : XW} {ρ : Env'} {M : Mu} {Q : Bool → Mu → Prop} : OrT false g xw ρ M (.mk : Ky Q) = g xw ρ M Q := rfl
def AndV (d : D) (g : FE) (xw : XW) (ρ : Env') (M : Mu) {Q : D → Mu → Prop} (_ : Ky Q) : Prop := match d with
  | .bl b => if b = true then g xw ρ M Q else Q (.bl false) M
  | _ => False
def OrV (d : D) (g : FE) (xw : XW) (ρ : Env') (M : Mu) {Q : D → Mu → Prop} (_ : Ky Q) : Prop := match d with
  | .bl b => if b = true then Q (.bl true) M else g xw ρ M Q
  | _ => False
theorem AndV_t {g : FE} {xw : XW} {ρ : Env'} {M : Mu} {Q : D → Mu → Prop} : AndV (.bl true) g xw ρ M (.mk : Ky Q) = g xw ρ M Q := rfl
theorem AndV_f {g : FE} {xw : XW} {ρ : Env'} {M : Mu} {Q : D → Mu → Prop} : AndV (.bl false) g xw ρ M (.mk : Ky Q) = Q (.bl false) M := rfl
theorem OrV_t {g : FE} {xw : XW} {ρ : Env'} {M : Mu} {Q : D → Mu → Prop} : OrV (.bl true) g xw ρ M (.mk : Ky Q) = Q (.bl true) M := rfl
theorem OrV_f {g : FE} {xw : XW} {ρ : Env'} {M : Mu} {Q : D → Mu → Prop} : OrV (.bl false) g xw ρ M (.mk : Ky Q) = g xw ρ M Q := rfl
/-- a call: what follows stays unread -/
def CallS (S : FSpec) (ds : List D) (M : Mu) (xw : XW) {Q : D → Mu → Prop} (_ : Ky Q) : Prop := S ds M Q xw
/-- a loop at its head -/
def ForS (b : BD) (f : FS) (ds : List D) {E : FEnds} (_ : Ky E) (ρ : Env') (M : Mu) : Prop := forGo b f ds E ρ M
def WhileS (c : FT) (f : FS) {E : FEnds} (_ : Ky E) (ρ : Env') (M : Mu) : Prop := fWhile c f E ρ M
def LcS (b : BD) (ft : FT) (fe : FE) (ρ : Env') (ds : List D) (M : Mu) {Q : List D → Mu → Prop} (_ : Ky Q) : Prop := lcGo b ft fe ρ ds [] M Q
section
variable {f g : FS} {E : FEnds} {ρ : Env'} {M : Mu} {xw : XW} {Q : D → Mu → Prop} {QA : List D → Mu → Prop} {QB : Bool → Mu → Prop} {QO : Option Int → Mu → Prop} {fa fb fc : FE} {ga gb : FT} {ha : FA} {la : FL} {ia : FI} {oa ob : FO} {b : BD} {bs : BL} {i n : Nat} {d : D} {ds : List D} {G G' : G2} {C : GC} {S : FSpec} {vs : List Nat} {GI : Int → Int → Prop} {gi : Int → Int → D} {x y z : Int}
theorem eThen : fThen f g E ρ M = f { E with nx := g E } ρ M := rfl
theorem ePass : fPass E ρ M = E.nx ρ M := rfl
theorem eBreak : fBreak E ρ M = E.bk ρ M := rfl
theorem eCont : fCont E ρ M = E.ct ρ M := rfl
theorem eExpr : fExpr fa E ρ M = fa (xwAt E ρ) ρ M fun _ M1 => E.nx ρ M1 := rfl
theorem eRet : fRet fa E ρ M = fa (xwAt E ρ) ρ M E.rt := rfl
theorem eRetN : fRetN E ρ M = E.rt .non M := rfl
theorem eIfS : fIfS ga f g E ρ M = ga (xwAt E ρ) ρ M fun b M1 => IfS b f g (.mk : Ky E) ρ M1 := rfl
theorem eSet : fSet i fa E ρ M = fa (xwAt E ρ) ρ M fun d M1 => E.nx (ρ.set i (some d)) M1 := rfl
theorem eOwn : fOwn i la E ρ M = la (xwAt E ρ) ρ M fun ds M1 => ∀ p, M p = none → M1 p = none → E.nx (ρ.set i (some (.loc p))) (mset M1 p (.lst ds)) := rfl
theorem eAsg : fAsg fa b E ρ M = fa (xwAt E ρ) ρ M fun d M1 => match b d ρ with
  | some ρ1 => E.nx ρ1 M1
  | none => False := rfl
theorem eSetIx : fSetIx fa fb fc E ρ M = fc (xwAt E ρ) ρ M fun v M1 => fa (xwAt E ρ) ρ M1 fun o M2 => fb (xwAt E ρ) ρ M2 fun i M3 => gSetIx o i v M3 fun M4 => E.nx ρ M4 := rfl
theorem eGSetIx {a : Addr} {v : D} {k : Mu → Prop} : gSetIx (.loc a) (.int z) v M k = (match M a with
    | some (.lst ds) => (match ixN ds.length z with
      | some j => k (mset M a (.lst (ds.set j v)))
      | none => False)
    | _ => False) := rfl
theorem eAug : fAug i G fa E ρ M = (match ρ[i]? with
  | some (some d) => fa (xwAt E ρ) ρ M fun y M1 => G d y M1 fun z M2 => E.nx (ρ.set i (some z)) M2
  | _ => False) := rfl
theorem eIadd : gIadd (.int x) (.int y) M Q = Q (.int (x + y)) M := rfl
theorem eIaddL {a : Addr} : gIadd (.loc a) d M Q = (match M a, lstOf M d with
    | some (.lst ds), some es => ds.length + es.length ≤ sizeLine ∧ Q (.loc a) (mset M a (.lst (ds ++ es)))
    | _, _ => False) := rfl
theorem eFrz : fFrz i f E ρ M = (match ρ[i]? with
  | some (some (.loc a)) => (match M a with
    | some (.lst ds) => f E (ρ.set i (some (.lst ds))) (mdel M a)
    | _ => False)
  | _ => False) := rfl
theorem eFor : fFor ia b f E ρ M = ia (xwAt E ρ) ρ M fun ds M1 => ForS b f ds (.mk : Ky E) ρ M1 := rfl
theorem eWhile : fWhile ga f E ρ M = WhileS ga f (.mk : Ky E) ρ M := rfl
/-! expressions -/
theorem eNm : fNm i xw ρ M Q = (match ρ[i]? with
  | some (some d) => Q d M
  | _ => False) := rfl
theorem eC : fC d xw ρ M Q = Q d M := rfl
theorem eOp : fOp G fa fb xw ρ M Q = fa xw ρ M fun x M1 => fb xw ρ M1 fun y M2 => G x y M2 Q := rfl
theorem eB : fB fa xw ρ M QB = fa xw ρ M fun d M1 => match d with
  | .bl b => QB b M1
  | _ => False := rfl
theorem eTr : fTr fa xw ρ M QB = fa xw ρ M fun d M1 => trD M1 d fun b => QB b M1 := rfl
theorem eTrB {b : Bool} {Q : Bool → Prop} : trD M (.bl b) Q = Q b := rfl
theorem eTrI {Q : Bool → Prop} : trD M (.int x) Q = Q (x != 0) := rfl
theorem eTrN {Q : Bool → Prop} : trD M .non Q = Q false := rfl
theorem eTrT {Q : Bool → Prop} : trD M (.tup ds) Q = Q (!ds.isEmpty) := rfl
theorem eTrL {Q : Bool → Prop} : trD M (.lst ds) Q = Q (!ds.isEmpty) := rfl
theorem eTrA {a : Addr} {Q : Bool → Prop} : trD M (.loc a) Q = (match M a with
    | some (.lst ds) => Q (!ds.isEmpty)
    | _ => False) := rfl
theorem eAnd : fAnd ga gb xw ρ M QB = ga xw ρ M fun c M1 => AndT c gb xw ρ M1 (.mk : Ky QB) := rfl
theorem eOr : fOr ga gb xw ρ M QB = ga xw ρ M fun c M1 => OrT c gb xw ρ M1 (.mk : Ky QB) := rfl
theorem eNot : fNot ga xw ρ M QB = ga xw ρ M fun c M1 => QB (!c) M1 := rfl
theorem eAndV : fAndV fa fb xw ρ M Q = fa xw ρ M fun d M1 => AndV d fb xw ρ M1 (.mk : Ky Q) := by
  rfl
theorem eOrV : fOrV fa fb xw ρ M Q = fa xw ρ M fun d M1 => OrV d fb xw ρ M1 (.mk : Ky Q) := by
  rfl
theorem eNotV : fNotV fa xw ρ M Q = fa xw ρ M fun d M1 => match d with
  | .bl b => Q (.bl (!b)) M1
  | _ => False := rfl
theorem eIf : fIf ga fa fb xw ρ M Q = ga xw ρ M fun b M1 => IfE b fa fb xw ρ M1 (.mk : Ky Q) := rfl
theorem eNil : fNil xw ρ M QA = QA [] M := rfl
theorem eCons : fCons fa ha xw ρ M QA = fa xw ρ M fun d M1 => ha xw ρ M1 fun ds M2 => QA (d :: ds) M2 := rfl
theorem eTup : fTup ha xw ρ M Q = ha xw ρ M fun ds M1 => ds.length ≤ sizeLine ∧ Q (.tup ds) M1 := rfl
theorem eOfL : fOfL la xw ρ M Q = la xw ρ M fun ds M1 => Q (.lst ds) M1 := rfl
theorem eLstL : fLstL ha xw ρ M QA = ha xw ρ M fun ds M1 => ds.length ≤ sizeLine ∧ QA ds M1 := rfl
theorem eListL : fListL ha xw ρ M QA = ha xw ρ M fun ds M1 => match ds with
  | [d] => (match seqOf M1 d with
    | some es => QA es M1
    | none => False)
  | _ => False := rfl
theorem eCatL : fCatL fa fb xw ρ M QA = fa xw ρ M fun x M1 => fb xw ρ M1 fun y M2 => match lstOf M2 x, lstOf M2 y with
  | some a, some b => a.length + b.length ≤ sizeLine ∧ QA (a ++ b) M2
  | _, _ => False := rfl
theorem eLc : fLc ia b ga fa vs xw ρ M QA = ia xw ρ M fun ds M1 => LcS b ga fa (wipeE ρ vs) ds M1 (.mk : Ky QA) := rfl
theorem eWipe0 : wipeE ρ [] = ρ := rfl
theorem eWipe : wipeE ρ (i :: vs) = (wipeE ρ vs).set i none := rfl
theorem eSeq : fSeq fa xw ρ M QA = fa xw ρ M fun d M1 => match d with
  | .tup ds => QA ds M1
  | .lst ds => QA ds M1
  | _ => False := rfl
theorem eRng1 : fRng1 ha xw ρ M QA = ha xw ρ M fun ds M1 => match ds with
  | [.int j] => (-(2 ^ 62) ≤ j ∧ j < 2 ^ 62) ∧ QA (rngD 0 j.toNat) M1
  | _ => False := rfl
theorem eRng2 : fRng2 ha xw ρ M QA = ha xw ρ M fun ds M1 => match ds with
  | [.int i, .int j] => (-(2 ^ 62) ≤ i ∧ i < 2 ^ 62 ∧ -(2 ^ 62) ≤ j ∧ j < 2 ^ 62) ∧ QA (rngD i (j - i).toNat) M1
  | _ => False := rfl
theorem eCall : fCall S ha xw ρ M Q = ha xw ρ M fun ds M1 => CallS S ds M1 xw (.mk : Ky Q) := rfl
theorem eCB : fCB C ha xw ρ M Q = ha xw ρ M fun ds M1 => C ds M1 Q := rfl
theorem eNeg : fNeg fa xw ρ M Q = fa xw ρ M fun d M1 => match d with
  | .int i => Q (.int (-i)) M1
  | _ => False := rfl
theorem eChain : fChain G G' fa fb fc xw ρ M Q = fa xw ρ M fun x M1 => fb xw ρ M1 fun y M2 => G x y M2 fun z M3 => match z with
  | .bl k => if k = true then fc xw ρ M3 fun u M4 => G' y u M4 Q else Q (.bl false) M3
  | _ => False := rfl
theorem eAppend : fAppend fa ha xw ρ M Q = fa xw ρ M fun o M1 => (match o with
  | .loc a => (match M1 a with
    | some (.lst _) => ha xw ρ M1 fun ds M2 => (match ds with
      | [d] => (match M2 a with
        | some (.lst es) => es.length < sizeLine ∧ Q .non (mset M2 a (.lst (es ++ [d])))
        | _ => False)
      | _ => False)
    | _ => False)
  | _ => False) := rfl
theorem ePop : fPop fa xw ρ M Q = fa xw ρ M fun o M1 => (match o with
  | .loc a => (match M1 a with
    | some (.lst es) => (match es.getLast? with
      | some d => Q d (mset M1 a (.lst es.dropLast))
      | none => False)
    | _ => False)
  | _ => False) := rfl
theorem eNo : fNo xw ρ M QO = QO none M := rfl
theorem eSome : fSome fa xw ρ M QO = fa xw ρ M fun d M1 => match d with
  | .int i => QO (some i) M1
  | _ => False := rfl
theorem eSl : fSl' fa oa ob xw ρ M Q = fa xw ρ M fun x M1 => oa xw ρ M1 fun lo M2 => ob xw ρ M2 fun hi M3 => (match x with
  | .str _ => False
  | x => gSl x lo hi M3 Q) := rfl
theorem gSl_t {lo hi : Option Int} : gSl (.tup ds) lo hi M Q = Q (.tup (cutD ds lo hi)) M := rfl
theorem gSl_l {lo hi : Option Int} : gSl (.lst ds) lo hi M Q = Q (.lst (cutD ds lo hi)) M := rfl
theorem gSl_a {a : Addr} {lo hi : Option Int} : gSl (.loc a) lo hi M Q = (match lstOf M (.loc a) with
    | some ds => Q (.lst (cutD ds lo hi)) M
    | none => False) := rfl
/-! operators -/
theorem gAdd_i : gAdd (.int x) (.int y) M Q = Q (.int (x + y)) M := rfl
theorem gAdd_t {es : List D} : gAdd (.tup ds) (.tup es) M Q = (ds.length + es.length ≤ sizeLine ∧ Q (.tup (ds ++ es)) M) := rfl
theorem gAdd_s {u v : Str} : gAdd (.str u) (.str v) M Q = (u.length + v.length ≤ sizeLine ∧ Q (.str (u ++ v)) M) := rfl
theorem gAdd_l {es : List D} : gAdd (.lst ds) (.lst es) M Q = (ds.length + es.length ≤ sizeLine ∧ Q (.lst (ds ++ es)) M) := rfl
theorem gI0_i : gI0 gi (.int x) (.int y) M Q = Q (gi x y) M := rfl
theorem gI_i : gI GI gi (.int x) (.int y) M Q = (GI x y ∧ Q (gi x y) M) := rfl
theorem gMul_i : gMul (.int x) (.int y) M Q = ((CMul x y ∨ CMulW x y) ∧ Q (.int (x * y)) M) := rfl
theorem gMul_t : gMul (.tup ds) (.int y) M Q = (ds ≠ [] ∧ 2 ≤ y ∧ y ≤ 1000 ∧ ds.length ≤ 1000 ∧ Q (.tup (List.replicate y.toNat ds).flatten) M) := rfl
theorem gEq_ {u v : D} : gEq u v M Q = (dle 60 (rsv M u) = true ∧ dle 60 (rsv M v) = true ∧ Q (.bl (eqD (rsv M u) (rsv M v))) M) := rfl
theorem gNe_ {u v : D} : gNe u v M Q = (dle 60 (rsv M u) = true ∧ dle 60 (rsv M v) = true ∧ Q (.bl (!eqD (rsv M u) (rsv M v))) M) := rfl
theorem gIs_n {u : D} : gIs u .non M Q = Q (.bl (isNon u)) M := rfl
theorem gIs_b {p q : Bool} : gIs (.bl p) (.bl q) M Q = Q (.bl (decide (p = q))) M := rfl
theorem gIsNot_n {u : D} : gIsNot u .non M Q = Q (.bl (!isNon u)) M := rfl
theorem gIsNot_b {p q : Bool} : gIsNot (.bl p) (.bl q) M Q = Q (.bl (!decide (p = q))) M := rfl
theorem gIn_ {u v : D} : gIn u v M Q = (match seqOf M v with
  | some ds => dle 60 (rsv M u) = true ∧ ds.all (dle 59) = true ∧ Q (.bl (ds.any fun y => eqD y (rsv M u))) M
  | none => False) := rfl
theorem gNotIn_ {u v : D} : gNotIn u v M Q = (match seqOf M v with
  | some ds => dle 60 (rsv M u) = true ∧ ds.all (dle 59) = true ∧ Q (.bl (!ds.any fun y => eqD y (rsv M u))) M
  | none => False) := rfl
theorem gIx_t : gIx (.tup ds) (.int x) M Q = (match L2.atI ds x with
  | some d => Q d M
  | none => False) := rfl
theorem gIx_l : gIx (.lst ds) (.int x) M Q = (match L2.atI ds x with
  | some d => Q d M
  | none => False) := rfl
theorem gIx_a {a : Addr} : gIx (.loc a) (.int x) M Q = (match seqOf M (.loc a) with
  | some ds => (match L2.atI ds x with
    | some d => Q d M
    | none => False)
  | none => False) := rfl
theorem gLen_ : gLen [.tup ds] M Q = Q (.int ds.length) M := rfl
theorem gLen_l : gLen [.lst ds] M Q = Q (.int ds.length) M := rfl
theorem gLen_a {a : Addr} : gLen [.loc a] M Q = (match seqOf M (.loc a) with
    | some es => Q (.int es.length) M
    | none => False) := rfl
theorem gInt_ : gInt [.int x] M Q = Q (.int x) M := rfl
theorem gInt_b {c : Bool} : gInt [.bl c] M Q = Q (.int (if c then 1 else 0)) M := rfl
theorem gTuple_ : gTuple [.tup ds] M Q = Q (.tup ds) M := rfl
theorem gTuple_l : gTuple [.lst ds] M Q = Q (.tup ds) M := rfl
theorem gTuple_a {a : Addr} : gTuple [.loc a] M Q = (match seqOf M (.loc a) with
    | some es => Q (.tup es) M
    | none => False) := rfl
theorem gMax_ : gMax [.int x, .int y] M Q = Q (.int (if y > x then y else x)) M := rfl
theorem gMin_ : gMin [.int x, .int y] M Q = Q (.int (if y < x then y else x)) M := rfl
theorem gIsBool_b {c : Bool} {n : String} : gIsBool [.bl c, .ty n] M Q = (n = "bool" ∧ Q (.bl true) M) := rfl
theorem gIsBool_i {n : String} : gIsBool [.int x, .ty n] M Q = (n = "bool" ∧ Q (.bl false) M) := rfl
theorem seqOf_t : seqOf M (.tup ds) = some ds := rfl
theorem seqOf_l : seqOf M (.lst ds) = some ds := rfl
theorem seqOf_a {a : Addr} : seqOf M (.loc a) = (match M a with
    | some (.lst ds) => some ds
    | _ => none) := rfl
theorem lstOf_l : lstOf M (.lst ds) = some ds := rfl
theorem lstOf_a {a : Addr} : lstOf M (.loc a) = (match M a with
    | some (.lst ds) => some ds
    | _ => none) := rfl
theorem rsv_i : rsv M (.int x) = .int x := rfl
theorem rsv_b {c : Bool} : rsv M (.bl c) = .bl c := rfl
theorem rsv_s {s : Str} : rsv M (.str s) = .str s := rfl
theorem rsv_n : rsv M .non = .non := rfl
theorem rsv_t : rsv M (.tup ds) = .tup ds := rfl
theorem rsv_l : rsv M (.lst ds) = .lst ds := rfl
theorem dle_i : dle n (.int x) = true := by cases n <;> rfl
theorem dle_b {c : Bool} : dle n (.bl c) = true := by cases n <;> rfl
theorem dle_n : dle n .non = true := by cases n <;> rfl
theorem dle_t : dle (n + 1) (.tup ds) = ds.all (dle n) := rfl
theorem dle_l : dle (n + 1) (.lst ds) = ds.all (dle n) := rfl
theorem dle_t60 : dle 60 (.tup ds) = ds.all (dle 59) := rfl
theorem dle_l60 : dle 60 (.lst ds) = ds.all (dle 59) := rfl
theorem eqD_i : eqD (.int x) (.int y) = decide (x = y) := by
  show (x == y) = _
  by_cases h : x = y
  · subst h; simp
  · rw [decide_eq_false h]; exact beq_eq_false_iff_ne.mpr h
theorem eqD_b {p q : Bool} : eqD (.bl p) (.bl q) = (p == q) := rfl
theorem eqD_s {u v : Str} : eqD (.str u) (.str v) = decide (u = v) := by
  show (u == v) = _
  by_cases h : u = v
  · subst h; simp
  · rw [decide_eq_false h]; exact beq_eq_false_iff_ne.mpr h
theorem bNm_ : bNm i d ρ = some (ρ.set i (some d)) := rfl
theorem bTup_ : bTup n bs (.tup ds) ρ = if ds.length = n then bs ds ρ else none := rfl
theorem bCons_ : bCons b bs (d :: ds) ρ = (b d ρ).bind (bs ds) := rfl
theorem bNil_ : bNil [] ρ = some ρ := rfl
end
theorem atI_nat' {α : Type} {l : List α} (i : Nat) (h1 : i < l.length) : atI l (i : Int) = l[i]? := by
  have h : ixN l.length (i : Int) = some i := by
    unfold ixN
    rw [if_pos (by omega), if_pos (by omega), Int.toNat_natCast]
  unfold atI
  rw [h]
  rfl
theorem atI0 {α : Type} {x : α} {l : List α} : atI (x :: l) 0 = some x := atI_nat' 0 (by simp)
theorem atI1 {α : Type} {x y : α} {l : List α} : atI (x :: y :: l) 1 = some y := atI_nat' 1 (by simp)
theorem atI2 {α : Type} {x y z : α} {l : List α} : atI (x :: y :: z :: l) 2 = some z := atI_nat' 2 (by simp)
theorem atI3 {α : Type} {x y z u : α} {l : List α} : atI (x :: y :: z :: u :: l) 3 = some u := atI_nat' 3 (by simp)
theorem atI_nat {α : Type} {l : List α} {i : Int} (h0 : 0 ≤ i) (h1 : i < l.length) : atI l i = l[i.toNat]? := by
  unfold atI ixN
  rw [if_pos h0, if_pos h1]; rfl
theorem c0 : ((0 : Nat) : Int) = 0 := rfl
theorem c1 : ((1 : Nat) : Int) = 1 := rfl
theorem i40 : ixN 4 0 = some 0 := by decide
theorem i41 : ixN 4 1 = some 1 := by decide
theorem i42 : ixN 4 2 = some 2 := by decide
theorem i43 : ixN 4 3 = some 3 := by decide
theorem ixN_of {n : Nat} {i : Int} (h0 : 0 ≤ i) (h1 : i < n) : ixN n i = some i.toNat := by
  unfold ixN
  rw [if_pos h0, if_pos h1]

end U

set_option Elab.async false
set_option linter.all false
set_option maxRecDepth 100000
set_option maxHeartbeats 1000000
/-! V2: loops by induction; what a drawing keeps. -/
namespace U
open PySem PySem.Spec PyProof.Rows L2

theorem forS_ind {b : BD} {f : FS} {E : FEnds} (I : List D → Env' → Mu → Prop)
    (step : ∀ d ds ρ M, I (d :: ds) ρ M → ∃ ρ2, b d ρ = some ρ2 ∧ ∀ n c : Env' → Mu → Prop, (∀ ρ M, I ds ρ M → n ρ M) → (∀ ρ M, I ds ρ M → c ρ M) → f { nx := n, rt := E.rt, bk := E.nx, ct := c, xw := E.xw } ρ2 M)
    (done : ∀ ρ M, I [] ρ M → E.nx ρ M) : ∀ (ds : List D) (ρ : Env') (M : Mu), I ds ρ M → ForS b f ds (.mk : Ky E) ρ M
  | [], ρ, M, h => done ρ M h
  | d :: ds, ρ, M, h => by
    obtain ⟨ρ2, h1, h2⟩ := step d ds ρ M h
    unfold ForS forGo
    rw [h1]
    exact h2 _ _ (forS_ind I step done ds) (forS_ind I step done ds)
theorem lc_ind {b : BD} {ft : FT} {fe : FE} {ρ : Env'} {Q : List D → Mu → Prop} (I : List D → List D → Mu → Prop)
    (step : ∀ d ds acc M, I (d :: ds) acc M → ∃ ρ2, b d ρ = some ρ2 ∧ ∀ k : List D → Mu → Prop, (∀ acc M, I ds acc M → k acc M) → ft xF ρ2 M fun c M1 => if c = true then fe xF ρ2 M1 fun y M2 => acc.length < sizeLine ∧ k (acc ++ [y]) M2 else k acc M1)
    (done : ∀ acc M, I [] acc M → Q acc M) : ∀ (ds acc : List D) (M : Mu), I ds acc M → lcGo b ft fe ρ ds acc M Q
  | [], acc, M, h => done acc M h
  | d :: ds, acc, M, h => by
    obtain ⟨ρ2, h1, h2⟩ := step d ds acc M h
    unfold lcGo
    rw [h1]
    exact h2 (fun acc M => lcGo b ft fe ρ ds acc M Q) (lc_ind I step done ds)
theorem lcS_ind {b : BD} {ft : FT} {fe : FE} {ρ : Env'} {Q : List D → Mu → Prop} (I : List D → List D → Mu → Prop) {ds : List D} {M : Mu} (h : I ds [] M)
    (step : ∀ d ds acc M, I (d :: ds) acc M → ∃ ρ2, b d ρ = some ρ2 ∧ ∀ k : List D → Mu → Prop, (∀ acc M, I ds acc M → k acc M) → ft xF ρ2 M fun c M1 => if c = true then fe xF ρ2 M1 fun y M2 => acc.length < sizeLine ∧ k (acc ++ [y]) M2 else k acc M1)
    (done : ∀ acc M, I [] acc M → Q acc M) : LcS b ft fe ρ ds M (.mk : Ky Q) := lc_ind I step done ds [] M h
theorem seqS {f g : FS} {E : FEnds} {ρ : Env'} {M : Mu} (I : Env' → Mu → Prop) (h1 : ∀ n : Env' → Mu → Prop, (∀ ρ M, I ρ M → n ρ M) → f { E with nx := n } ρ M) (h2 : ∀ ρ M, I ρ M → g E ρ M) : fThen f g E ρ M := h1 (g E) h2
theorem ifCut {b : Bool} {f g : FS} {E : FEnds} {ρ : Env'} {M : Mu} (I : Env' → Mu → Prop) (h1 : ∀ n : Env' → Mu → Prop, (∀ ρ M, I ρ M → n ρ M) → IfS b f g (.mk : Ky { E with nx := n }) ρ M) (h2 : ∀ ρ M, I ρ M → E.nx ρ M) : IfS b f g (.mk : Ky E) ρ M := h1 E.nx h2
theorem whileS {c : FT} {f : FS} {E : FEnds} {ρ : Env'} {M : Mu} (Wn : Nat → Env' → Mu → Prop) (m : Nat) (h : Wn m ρ M)
    (turn : ∀ m ρ M, Wn m ρ M → ∀ n : Env' → Mu → Prop, (∀ m' ρ M, m' < m → Wn m' ρ M → n ρ M) → c (xwAt E ρ) ρ M fun b M1 => IfS b f (fun E ρ M => E.bk ρ M) (.mk : Ky { nx := n, rt := E.rt, bk := E.nx, ct := n, xw := E.xw }) ρ M1) : WhileS c f (.mk : Ky E) ρ M :=
  ⟨Wn, ⟨m, h⟩, fun m ρ M hw => turn m ρ M hw (fun ρ' M' => ∃ m', m' < m ∧ Wn m' ρ' M') fun m' _ _ h1 h2 => ⟨m', h1, h2⟩⟩

/-! ### the state of a drawing -/
def IsSt (M : Mu) (a : Addr) : Prop := ∃ x0 x1 x3 scr, M a = some (.lst [.int x0, .int x1, .lst scr, .int x3]) ∧ 0 ≤ x1 ∧ ∀ d ∈ scr, ∃ i, d = .int i
/-- from M to M' nothing but the state at a was written -/
def Stp (a : Addr) (M M' : Mu) : Prop := (∀ b, b ≠ a → M' b = M b) ∧ IsSt M' a
theorem Stp.trans {a : Addr} {M M1 M2 : Mu} (h : Stp a M M1) (k : Stp a M1 M2) : Stp a M M2 := ⟨fun b hb => (k.1 b hb).trans (h.1 b hb), k.2⟩
theorem Stp.refl {a : Addr} {M : Mu} (h : IsSt M a) : Stp a M M := ⟨fun _ _ => rfl, h⟩
theorem IsSt.ex {a : Addr} {M : Mu} (h : IsSt M a) : ∃ m, M a = some m := by
  obtain ⟨_, _, _, _, e, _⟩ := h
  exact ⟨_, e⟩
theorem IsSt.res {a : Addr} {M M' : Mu} (h : IsSt M' a) (k : ∃ m, M a = some m) : IsSt (mres M' M) a := by
  obtain ⟨x0, x1, x3, scr, e, r⟩ := h
  obtain ⟨m, k⟩ := k
  exact ⟨x0, x1, x3, scr, by unfold mres; rw [k]; exact e, r⟩
theorem Stp.res {a : Addr} {M M' : Mu} (h : Stp a M M') (k : IsSt M a) : Stp a M (mres M' M) := by
  refine ⟨fun b hb => ?_, IsSt.res h.2 k.ex⟩
  unfold mres
  cases e : M b with
  | none => rfl
  | some m => exact (h.1 b hb).trans e
theorem Stp.set {a : Addr} {M : Mu} {m : MO} (h : ∃ x0 x1 x3 scr, m = .lst [.int x0, .int x1, .lst scr, .int x3] ∧ 0 ≤ x1 ∧ ∀ d ∈ scr, ∃ i, d = .int i) : Stp a M (mset M a m) := by
  obtain ⟨x0, x1, x3, scr, rfl, h⟩ := h
  exact ⟨fun b hb => mset_ne hb, x0, x1, x3, scr, mset_same, h⟩
/-- a drawing: what stands behind the state are the arguments; R tells what may come out -/
def Drw (R : List D → D → Prop) (Pre : List D → Prop) : FSpec := fun ds M Q _ => ∃ a rest, ds = .loc a :: rest ∧ Pre rest ∧ IsSt M a ∧ ∀ M' d, R rest d → Stp a M M' → Q d M'
def S_ldraw : FSpec := Drw (fun r d => ∃ n i : Int, r = [.int n] ∧ d = .int i ∧ 0 ≤ i ∧ i < n) fun r => ∃ n : Int, r = [.int n] ∧ 0 < n ∧ n < 1073741824
def N_ldraw : List Str := ["_law_state", "_law_limit", "_law_position", "_law_cell", "_law_mixed", "_law_digit"]
def f_ldraw : FS := fThen (fIfS (fB (fOp gLt (fOp gIx (fNm 0) (fC (.int 0))) (fNm 1))) (fThen (fSet 2 (fOp gIx (fNm 0) (fC (.int 1)))) (fThen (fSetIx (fNm 0) (fC (.int 1)) (fOp gAdd (fNm 2) (fC (.int 1)))) (fThen (fSet 3 (fC (.int 0))) (fThen (fIfS (fB (fOp gLt (fNm 2) (fCB gLen (fCons (fOp gIx (fNm 0) (fC (.int 2))) fNil)))) (fSet 3 (fOp gIx (fOp gIx (fNm 0) (fC (.int 2))) (fNm 2))) fPass) (fIfS (fB (fOp gGe (fNm 3) (fOp gPow (fC (.int 10)) (fC (.int 18))))) (fSetIx (fNm 0) (fC (.int 0)) (fNm 3)) (fThen (fSetIx (fNm 0) (fC (.int 3)) (fOp gMod (fCB gInt (fCons (fOp gMul (fOp gAdd (fOp gAdd (fOp gAdd (fOp gIx (fNm 0) (fC (.int 3))) (fOp gMod (fCB gInt (fCons (fNm 3) fNil)) (fC (.int 2147483629)))) (fNm 2)) (fC (.int 1))) (fC (.int 48271))) fNil)) (fC (.int 2147483647)))) (fThen (fSet 4 (fOp gMod (fCB gInt (fCons (fOp gAdd (fOp gMul (fOp gIx (fNm 0) (fC (.int 3))) (fC (.int 69621))) (fC (.int 11))) fNil)) (fC (.int 2147483629)))) (fSetIx (fNm 0) (fC (.int 0)) (fOp gAdd (fOp gMul (fNm 4) (fC (.int 2147483647))) (fOp gMod (fCB gInt (fCons (fOp gAdd (fOp gMul (fNm 4) (fC (.int 30011))) (fOp gIx (fNm 0) (fC (.int 3)))) fNil)) (fC (.int 2147483587)))))))))))) fPass) (fThen (fSet 5 (fOp gMod (fCB gInt (fCons (fOp gIx (fNm 0) (fC (.int 0))) fNil)) (fNm 1))) (fThen (fSetIx (fNm 0) (fC (.int 0)) (fOp gFdiv (fOp gIx (fNm 0) (fC (.int 0))) (fNm 1))) (fRet (fNm 5))))

theorem b_ldraw (ds : List D) (M : Mu) (Q : D → Mu → Prop) (xw : XW) (h : S_ldraw ds M Q xw) : bodyE N_ldraw f_ldraw ds M Q xw := by
  obtain ⟨a, rest, rfl, ⟨n, rfl, n0, n1⟩, st, post⟩ := h
  have hres : ∀ M' d, (∃ i : Int, d = .int i ∧ 0 ≤ i ∧ i < n) → Stp a M M' → Q d (mres M' M) := fun M' d ⟨i, e, h1, h2⟩ h => post _ _ ⟨n, i, rfl, e, h1, h2⟩ (h.res st)
  obtain ⟨x0, x1, x3, scr, hM, p0, hs⟩ := id st
  have c1 : CMul (x3 + 0 + x1 + 1) 48271 := .inr (by decide)
  have cm : ∀ x y : Int, -(2 ^ 64) < y → y < 2 ^ 64 → CMul x y := fun x y h1 h2 => .inr ⟨h1, h2⟩
  simp only [bodyE, startD, N_ldraw, List.map_cons, List.map_nil, List.length_cons, List.length_nil, List.replicate_succ, List.replicate_zero, List.cons_append, List.nil_append, Nat.reduceAdd, Nat.reduceSub]
  unfold f_ldraw
  refine seqS (fun ρ M' => (∃ o2 o3 o4, ρ = [some (.loc a), some (.int n), o2, o3, o4, none]) ∧ Stp a M M') (fun nx hn => ?_) ?_
  · try simp -dsimp only [bodyE, startD, List.map_cons, List.map_nil, List.length_cons, List.length_nil, List.replicate_succ, List.replicate_zero, List.cons_append, List.nil_append, Nat.reduceAdd, Nat.reduceSub, List.set_cons_zero, List.set_cons_succ, List.getElem?_cons_zero, List.getElem?_cons_succ, Bool.not_true, Bool.not_false, decide_true, decide_false, ↓IfS_t, ↓IfS_f, ↓IfE_t, ↓IfE_f, ↓AndT_t, ↓AndT_f, ↓OrT_t, ↓OrT_f, ↓AndV_t, ↓AndV_f, ↓OrV_t, ↓OrV_f, IfS_t, IfS_f, IfE_t, IfE_f, AndT_t, AndT_f, OrT_t, OrT_f, AndV_t, AndV_f, OrV_t, OrV_f, ↓eThen, ↓ePass, ↓eBreak, ↓eCont, ↓eExpr, ↓eRet, ↓eRetN, ↓eIfS, ↓eSet, ↓eOwn, ↓eAsg, ↓eSetIx, ↓eGSetIx, ↓eAug, ↓eIadd, ↓eIaddL, ↓eFrz, ↓eFor, ↓eWhile, ↓eNm, ↓eC, ↓eOp, ↓eB, ↓eTr, ↓eTrB, ↓eTrI, ↓eTrN, ↓eTrT, ↓eTrL, ↓eTrA, ↓eAnd, ↓eOr, ↓eNot, ↓eAndV, ↓eOrV, ↓eNotV, ↓eIf, ↓eNil, ↓eCons, ↓eTup, ↓eOfL, ↓eLstL, ↓eListL, ↓eCatL, ↓eLc, ↓eWipe0, ↓eWipe, ↓eSeq, ↓eRng1, ↓eRng2, ↓eCall, ↓eCB, ↓eNeg, ↓eChain, ↓eAppend, ↓ePop, ↓eNo, ↓eSome, ↓eSl, ↓gSl_t, ↓gSl_l, ↓gSl_a, ↓gAdd_i, ↓gAdd_t, ↓gAdd_s, ↓gAdd_l, ↓gI0_i, ↓gI_i, ↓gMul_i, ↓gMul_t, ↓gEq_, ↓gNe_, ↓gIs_n, ↓gIs_b, ↓gIsNot_n, ↓gIsNot_b, ↓gIn_, ↓gNotIn_, ↓gIx_t, ↓gIx_l, ↓gIx_a, ↓gLen_, ↓gLen_l, ↓gLen_a, ↓gInt_, ↓gInt_b, ↓gTuple_, ↓gTuple_l, ↓gTuple_a, ↓gMax_, ↓gMin_, ↓gIsBool_b, ↓gIsBool_i, seqOf_t, seqOf_l, seqOf_a, lstOf_l, lstOf_a, rsv_i, rsv_b, rsv_s, rsv_n, rsv_t, rsv_l, dle_i, dle_b, dle_n, eqD_i, eqD_b, isNon, bNm_, bTup_, bCons_, bNil_, Option.bind_some, i40, i41, i42, i43, atI0, atI1, atI2, atI3, mset_same, true_and, beq_self_eq_true, Bool.false_eq_true, c0, c1, Int.cast_ofNat_Int, Int.reduceEq, Int.reduceLT, Int.reduceLE, Int.reduceAdd, Int.reduceSub, ↓reduceIte, hM]
    refine IfS_mk (fun hlt => ?_) fun hge => ?_
    · try simp -dsimp only [bodyE, startD, List.map_cons, List.map_nil, List.length_cons, List.length_nil, List.replicate_succ, List.replicate_zero, List.cons_append, List.nil_append, Nat.reduceAdd, Nat.reduceSub, List.set_cons_zero, List.set_cons_succ, List.getElem?_cons_zero, List.getElem?_cons_succ, Bool.not_true, Bool.not_false, decide_true, decide_false, ↓IfS_t, ↓IfS_f, ↓IfE_t, ↓IfE_f, ↓AndT_t, ↓AndT_f, ↓OrT_t, ↓OrT_f, ↓AndV_t, ↓AndV_f, ↓OrV_t, ↓OrV_f, IfS_t, IfS_f, IfE_t, IfE_f, AndT_t, AndT_f, OrT_t, OrT_f, AndV_t, AndV_f, OrV_t, OrV_f, ↓eThen, ↓ePass, ↓eBreak, ↓eCont, ↓eExpr, ↓eRet, ↓eRetN, ↓eIfS, ↓eSet, ↓eOwn, ↓eAsg, ↓eSetIx, ↓eGSetIx, ↓eAug, ↓eIadd, ↓eIaddL, ↓eFrz, ↓eFor, ↓eWhile, ↓eNm, ↓eC, ↓eOp, ↓eB, ↓eTr, ↓eTrB, ↓eTrI, ↓eTrN, ↓eTrT, ↓eTrL, ↓eTrA, ↓eAnd, ↓eOr, ↓eNot, ↓eAndV, ↓eOrV, ↓eNotV, ↓eIf, ↓eNil, ↓eCons, ↓eTup, ↓eOfL, ↓eLstL, ↓eListL, ↓eCatL, ↓eLc, ↓eWipe0, ↓eWipe, ↓eSeq, ↓eRng1, ↓eRng2, ↓eCall, ↓eCB, ↓eNeg, ↓eChain, ↓eAppend, ↓ePop, ↓eNo, ↓eSome, ↓eSl, ↓gSl_t, ↓gSl_l, ↓gSl_a, ↓gAdd_i, ↓gAdd_t, ↓gAdd_s, ↓gAdd_l, ↓gI0_i, ↓gI_i, ↓gMul_i, ↓gMul_t, ↓gEq_, ↓gNe_, ↓gIs_n, ↓gIs_b, ↓gIsNot_n, ↓gIsNot_b, ↓gIn_, ↓gNotIn_, ↓gIx_t, ↓gIx_l, ↓gIx_a, ↓gLen_, ↓gLen_l, ↓gLen_a, ↓gInt_, ↓gInt_b, ↓gTuple_, ↓gTuple_l, ↓gTuple_a, ↓gMax_, ↓gMin_, ↓gIsBool_b, ↓gIsBool_i, seqOf_t, seqOf_l, seqOf_a, lstOf_l, lstOf_a, rsv_i, rsv_b, rsv_s, rsv_n, rsv_t, rsv_l, dle_i, dle_b, dle_n, eqD_i, eqD_b, isNon, bNm_, bTup_, bCons_, bNil_, Option.bind_some, i40, i41, i42, i43, atI0, atI1, atI2, atI3, mset_same, true_and, beq_self_eq_true, Bool.false_eq_true, c0, c1, Int.cast_ofNat_Int, Int.reduceEq, Int.reduceLT, Int.reduceLE, Int.reduceAdd, Int.reduceSub, ↓reduceIte, hM]
      refine ifCut (fun ρ M' => (∃ z : Int, ρ = [some (.loc a), some (.int n), some (.int x1), some (.int z), none, none]) ∧ M' = mset M a (.lst [.int x0, .int (x1 + 1), .lst scr, .int x3])) (fun nx2 hn2 => ?_) ?_
      · refine IfS_mk (fun hp => ?_) fun hp => ?_
        · try simp -dsimp only [bodyE, startD, List.map_cons, List.map_nil, List.length_cons, List.length_nil, List.replicate_succ, List.replicate_zero, List.cons_append, List.nil_append, Nat.reduceAdd, Nat.reduceSub, List.set_cons_zero, List.set_cons_succ, List.getElem?_cons_zero, List.getElem?_cons_succ, Bool.not_true, Bool.not_false, decide_true, decide_false, ↓IfS_t, ↓IfS_f, ↓IfE_t, ↓IfE_f, ↓AndT_t, ↓AndT_f, ↓OrT_t, ↓OrT_f, ↓AndV_t, ↓AndV_f, ↓OrV_t, ↓OrV_f, IfS_t, IfS_f, IfE_t, IfE_f, AndT_t, AndT_f, OrT_t, OrT_f, AndV_t, AndV_f, OrV_t, OrV_f, ↓eThen, ↓ePass, ↓eBreak, ↓eCont, ↓eExpr, ↓eRet, ↓eRetN, ↓eIfS, ↓eSet, ↓eOwn, ↓eAsg, ↓eSetIx, ↓eGSetIx, ↓eAug, ↓eIadd, ↓eIaddL, ↓eFrz, ↓eFor, ↓eWhile, ↓eNm, ↓eC, ↓eOp, ↓eB, ↓eTr, ↓eTrB, ↓eTrI, ↓eTrN, ↓eTrT, ↓eTrL, ↓eTrA, ↓eAnd, ↓eOr, ↓eNot, ↓eAndV, ↓eOrV, ↓eNotV, ↓eIf, ↓eNil, ↓eCons, ↓eTup, ↓eOfL, ↓eLstL, ↓eListL, ↓eCatL, ↓eLc, ↓eWipe0, ↓eWipe, ↓eSeq, ↓eRng1, ↓eRng2, ↓eCall, ↓eCB, ↓eNeg, ↓eChain, ↓eAppend, ↓ePop, ↓eNo, ↓eSome, ↓eSl, ↓gSl_t, ↓gSl_l, ↓gSl_a, ↓gAdd_i, ↓gAdd_t, ↓gAdd_s, ↓gAdd_l, ↓gI0_i, ↓gI_i, ↓gMul_i, ↓gMul_t, ↓gEq_, ↓gNe_, ↓gIs_n, ↓gIs_b, ↓gIsNot_n, ↓gIsNot_b, ↓gIn_, ↓gNotIn_, ↓gIx_t, ↓gIx_l, ↓gIx_a, ↓gLen_, ↓gLen_l, ↓gLen_a, ↓gInt_, ↓gInt_b, ↓gTuple_, ↓gTuple_l, ↓gTuple_a, ↓gMax_, ↓gMin_, ↓gIsBool_b, ↓gIsBool_i, seqOf_t, seqOf_l, seqOf_a, lstOf_l, lstOf_a, rsv_i, rsv_b, rsv_s, rsv_n, rsv_t, rsv_l, dle_i, dle_b, dle_n, eqD_i, eqD_b, isNon, bNm_, bTup_, bCons_, bNil_, Option.bind_some, i40, i41, i42, i43, atI0, atI1, atI2, atI3, mset_same, true_and, beq_self_eq_true, Bool.false_eq_true, c0, c1, Int.cast_ofNat_Int, Int.reduceEq, Int.reduceLT, Int.reduceLE, Int.reduceAdd, Int.reduceSub, ↓reduceIte]
          have hp' : x1 < scr.length := of_decide_eq_true hp
          have hlt : x1.toNat < scr.length := by omega
          obtain ⟨z, ez⟩ := hs _ (List.getElem_mem hlt)
          have e2 : atI scr x1 = some (.int z) := by rw [atI_nat p0 hp', List.getElem?_eq_getElem hlt, ez]
          rw [e2]
          exact hn2 _ _ ⟨⟨z, rfl⟩, rfl⟩
        · try simp -dsimp only [bodyE, startD, List.map_cons, List.map_nil, List.length_cons, List.length_nil, List.replicate_succ, List.replicate_zero, List.cons_append, List.nil_append, Nat.reduceAdd, Nat.reduceSub, List.set_cons_zero, List.set_cons_succ, List.getElem?_cons_zero, List.getElem?_cons_succ, Bool.not_true, Bool.not_false, decide_true, decide_false, ↓IfS_t, ↓IfS_f, ↓IfE_t, ↓IfE_f, ↓AndT_t, ↓AndT_f, ↓OrT_t, ↓OrT_f, ↓AndV_t, ↓AndV_f, ↓OrV_t, ↓OrV_f, IfS_t, IfS_f, IfE_t, IfE_f, AndT_t, AndT_f, OrT_t, OrT_f, AndV_t, AndV_f, OrV_t, OrV_f, ↓eThen, ↓ePass, ↓eBreak, ↓eCont, ↓eExpr, ↓eRet, ↓eRetN, ↓eIfS, ↓eSet, ↓eOwn, ↓eAsg, ↓eSetIx, ↓eGSetIx, ↓eAug, ↓eIadd, ↓eIaddL, ↓eFrz, ↓eFor, ↓eWhile, ↓eNm, ↓eC, ↓eOp, ↓eB, ↓eTr, ↓eTrB, ↓eTrI, ↓eTrN, ↓eTrT, ↓eTrL, ↓eTrA, ↓eAnd, ↓eOr, ↓eNot, ↓eAndV, ↓eOrV, ↓eNotV, ↓eIf, ↓eNil, ↓eCons, ↓eTup, ↓eOfL, ↓eLstL, ↓eListL, ↓eCatL, ↓eLc, ↓eWipe0, ↓eWipe, ↓eSeq, ↓eRng1, ↓eRng2, ↓eCall, ↓eCB, ↓eNeg, ↓eChain, ↓eAppend, ↓ePop, ↓eNo, ↓eSome, ↓eSl, ↓gSl_t, ↓gSl_l, ↓gSl_a, ↓gAdd_i, ↓gAdd_t, ↓gAdd_s, ↓gAdd_l, ↓gI0_i, ↓gI_i, ↓gMul_i, ↓gMul_t, ↓gEq_, ↓gNe_, ↓gIs_n, ↓gIs_b, ↓gIsNot_n, ↓gIsNot_b, ↓gIn_, ↓gNotIn_, ↓gIx_t, ↓gIx_l, ↓gIx_a, ↓gLen_, ↓gLen_l, ↓gLen_a, ↓gInt_, ↓gInt_b, ↓gTuple_, ↓gTuple_l, ↓gTuple_a, ↓gMax_, ↓gMin_, ↓gIsBool_b, ↓gIsBool_i, seqOf_t, seqOf_l, seqOf_a, lstOf_l, lstOf_a, rsv_i, rsv_b, rsv_s, rsv_n, rsv_t, rsv_l, dle_i, dle_b, dle_n, eqD_i, eqD_b, isNon, bNm_, bTup_, bCons_, bNil_, Option.bind_some, i40, i41, i42, i43, atI0, atI1, atI2, atI3, mset_same, true_and, beq_self_eq_true, Bool.false_eq_true, c0, c1, Int.cast_ofNat_Int, Int.reduceEq, Int.reduceLT, Int.reduceLE, Int.reduceAdd, Int.reduceSub, ↓reduceIte]
          exact hn2 _ _ ⟨⟨0, rfl⟩, rfl⟩
      · rintro ρ M' ⟨⟨z, rfl⟩, rfl⟩
        try simp -dsimp only [bodyE, startD, List.map_cons, List.map_nil, List.length_cons, List.length_nil, List.replicate_succ, List.replicate_zero, List.cons_append, List.nil_append, Nat.reduceAdd, Nat.reduceSub, List.set_cons_zero, List.set_cons_succ, List.getElem?_cons_zero, List.getElem?_cons_succ, Bool.not_true, Bool.not_false, decide_true, decide_false, ↓IfS_t, ↓IfS_f, ↓IfE_t, ↓IfE_f, ↓AndT_t, ↓AndT_f, ↓OrT_t, ↓OrT_f, ↓AndV_t, ↓AndV_f, ↓OrV_t, ↓OrV_f, IfS_t, IfS_f, IfE_t, IfE_f, AndT_t, AndT_f, OrT_t, OrT_f, AndV_t, AndV_f, OrV_t, OrV_f, ↓eThen, ↓ePass, ↓eBreak, ↓eCont, ↓eExpr, ↓eRet, ↓eRetN, ↓eIfS, ↓eSet, ↓eOwn, ↓eAsg, ↓eSetIx, ↓eGSetIx, ↓eAug, ↓eIadd, ↓eIaddL, ↓eFrz, ↓eFor, ↓eWhile, ↓eNm, ↓eC, ↓eOp, ↓eB, ↓eTr, ↓eTrB, ↓eTrI, ↓eTrN, ↓eTrT, ↓eTrL, ↓eTrA, ↓eAnd, ↓eOr, ↓eNot, ↓eAndV, ↓eOrV, ↓eNotV, ↓eIf, ↓eNil, ↓eCons, ↓eTup, ↓eOfL, ↓eLstL, ↓eListL, ↓eCatL, ↓eLc, ↓eWipe0, ↓eWipe, ↓eSeq, ↓eRng1, ↓eRng2, ↓eCall, ↓eCB, ↓eNeg, ↓eChain, ↓eAppend, ↓ePop, ↓eNo, ↓eSome, ↓eSl, ↓gSl_t, ↓gSl_l, ↓gSl_a, ↓gAdd_i, ↓gAdd_t, ↓gAdd_s, ↓gAdd_l, ↓gI0_i, ↓gI_i, ↓gMul_i, ↓gMul_t, ↓gEq_, ↓gNe_, ↓gIs_n, ↓gIs_b, ↓gIsNot_n, ↓gIsNot_b, ↓gIn_, ↓gNotIn_, ↓gIx_t, ↓gIx_l, ↓gIx_a, ↓gLen_, ↓gLen_l, ↓gLen_a, ↓gInt_, ↓gInt_b, ↓gTuple_, ↓gTuple_l, ↓gTuple_a, ↓gMax_, ↓gMin_, ↓gIsBool_b, ↓gIsBool_i, seqOf_t, seqOf_l, seqOf_a, lstOf_l, lstOf_a, rsv_i, rsv_b, rsv_s, rsv_n, rsv_t, rsv_l, dle_i, dle_b, dle_n, eqD_i, eqD_b, isNon, bNm_, bTup_, bCons_, bNil_, Option.bind_some, i40, i41, i42, i43, atI0, atI1, atI2, atI3, mset_same, true_and, beq_self_eq_true, Bool.false_eq_true, c0, c1, Int.cast_ofNat_Int, Int.reduceEq, Int.reduceLT, Int.reduceLE, Int.reduceAdd, Int.reduceSub, ↓reduceIte]
        refine ⟨⟨by decide, by decide, by decide⟩, IfS_mk (fun hz => ?_) fun hz => ?_⟩
        · try simp -dsimp only [bodyE, startD, List.map_cons, List.map_nil, List.length_cons, List.length_nil, List.replicate_succ, List.replicate_zero, List.cons_append, List.nil_append, Nat.reduceAdd, Nat.reduceSub, List.set_cons_zero, List.set_cons_succ, List.getElem?_cons_zero, List.getElem?_cons_succ, Bool.not_true, Bool.not_false, decide_true, decide_false, ↓IfS_t, ↓IfS_f, ↓IfE_t, ↓IfE_f, ↓AndT_t, ↓AndT_f, ↓OrT_t, ↓OrT_f, ↓AndV_t, ↓AndV_f, ↓OrV_t, ↓OrV_f, IfS_t, IfS_f, IfE_t, IfE_f, AndT_t, AndT_f, OrT_t, OrT_f, AndV_t, AndV_f, OrV_t, OrV_f, ↓eThen, ↓ePass, ↓eBreak, ↓eCont, ↓eExpr, ↓eRet, ↓eRetN, ↓eIfS, ↓eSet, ↓eOwn, ↓eAsg, ↓eSetIx, ↓eGSetIx, ↓eAug, ↓eIadd, ↓eIaddL, ↓eFrz, ↓eFor, ↓eWhile, ↓eNm, ↓eC, ↓eOp, ↓eB, ↓eTr, ↓eTrB, ↓eTrI, ↓eTrN, ↓eTrT, ↓eTrL, ↓eTrA, ↓eAnd, ↓eOr, ↓eNot, ↓eAndV, ↓eOrV, ↓eNotV, ↓eIf, ↓eNil, ↓eCons, ↓eTup, ↓eOfL, ↓eLstL, ↓eListL, ↓eCatL, ↓eLc, ↓eWipe0, ↓eWipe, ↓eSeq, ↓eRng1, ↓eRng2, ↓eCall, ↓eCB, ↓eNeg, ↓eChain, ↓eAppend, ↓ePop, ↓eNo, ↓eSome, ↓eSl, ↓gSl_t, ↓gSl_l, ↓gSl_a, ↓gAdd_i, ↓gAdd_t, ↓gAdd_s, ↓gAdd_l, ↓gI0_i, ↓gI_i, ↓gMul_i, ↓gMul_t, ↓gEq_, ↓gNe_, ↓gIs_n, ↓gIs_b, ↓gIsNot_n, ↓gIsNot_b, ↓gIn_, ↓gNotIn_, ↓gIx_t, ↓gIx_l, ↓gIx_a, ↓gLen_, ↓gLen_l, ↓gLen_a, ↓gInt_, ↓gInt_b, ↓gTuple_, ↓gTuple_l, ↓gTuple_a, ↓gMax_, ↓gMin_, ↓gIsBool_b, ↓gIsBool_i, seqOf_t, seqOf_l, seqOf_a, lstOf_l, lstOf_a, rsv_i, rsv_b, rsv_s, rsv_n, rsv_t, rsv_l, dle_i, dle_b, dle_n, eqD_i, eqD_b, isNon, bNm_, bTup_, bCons_, bNil_, Option.bind_some, i40, i41, i42, i43, atI0, atI1, atI2, atI3, mset_same, true_and, beq_self_eq_true, Bool.false_eq_true, c0, c1, Int.cast_ofNat_Int, Int.reduceEq, Int.reduceLT, Int.reduceLE, Int.reduceAdd, Int.reduceSub, ↓reduceIte]
          exact hn _ _ ⟨⟨_, _, _, rfl⟩, by rw [mset_mset]; exact .set ⟨_, _, _, _, rfl, by omega, hs⟩⟩
        · try simp -dsimp only [bodyE, startD, List.map_cons, List.map_nil, List.length_cons, List.length_nil, List.replicate_succ, List.replicate_zero, List.cons_append, List.nil_append, Nat.reduceAdd, Nat.reduceSub, List.set_cons_zero, List.set_cons_succ, List.getElem?_cons_zero, List.getElem?_cons_succ, Bool.not_true, Bool.not_false, decide_true, decide_false, ↓IfS_t, ↓IfS_f, ↓IfE_t, ↓IfE_f, ↓AndT_t, ↓AndT_f, ↓OrT_t, ↓OrT_f, ↓AndV_t, ↓AndV_f, ↓OrV_t, ↓OrV_f, IfS_t, IfS_f, IfE_t, IfE_f, AndT_t, AndT_f, OrT_t, OrT_f, AndV_t, AndV_f, OrV_t, OrV_f, ↓eThen, ↓ePass, ↓eBreak, ↓eCont, ↓eExpr, ↓eRet, ↓eRetN, ↓eIfS, ↓eSet, ↓eOwn, ↓eAsg, ↓eSetIx, ↓eGSetIx, ↓eAug, ↓eIadd, ↓eIaddL, ↓eFrz, ↓eFor, ↓eWhile, ↓eNm, ↓eC, ↓eOp, ↓eB, ↓eTr, ↓eTrB, ↓eTrI, ↓eTrN, ↓eTrT, ↓eTrL, ↓eTrA, ↓eAnd, ↓eOr, ↓eNot, ↓eAndV, ↓eOrV, ↓eNotV, ↓eIf, ↓eNil, ↓eCons, ↓eTup, ↓eOfL, ↓eLstL, ↓eListL, ↓eCatL, ↓eLc, ↓eWipe0, ↓eWipe, ↓eSeq, ↓eRng1, ↓eRng2, ↓eCall, ↓eCB, ↓eNeg, ↓eChain, ↓eAppend, ↓ePop, ↓eNo, ↓eSome, ↓eSl, ↓gSl_t, ↓gSl_l, ↓gSl_a, ↓gAdd_i, ↓gAdd_t, ↓gAdd_s, ↓gAdd_l, ↓gI0_i, ↓gI_i, ↓gMul_i, ↓gMul_t, ↓gEq_, ↓gNe_, ↓gIs_n, ↓gIs_b, ↓gIsNot_n, ↓gIsNot_b, ↓gIn_, ↓gNotIn_, ↓gIx_t, ↓gIx_l, ↓gIx_a, ↓gLen_, ↓gLen_l, ↓gLen_a, ↓gInt_, ↓gInt_b, ↓gTuple_, ↓gTuple_l, ↓gTuple_a, ↓gMax_, ↓gMin_, ↓gIsBool_b, ↓gIsBool_i, seqOf_t, seqOf_l, seqOf_a, lstOf_l, lstOf_a, rsv_i, rsv_b, rsv_s, rsv_n, rsv_t, rsv_l, dle_i, dle_b, dle_n, eqD_i, eqD_b, isNon, bNm_, bTup_, bCons_, bNil_, Option.bind_some, i40, i41, i42, i43, atI0, atI1, atI2, atI3, mset_same, true_and, beq_self_eq_true, Bool.false_eq_true, c0, c1, Int.cast_ofNat_Int, Int.reduceEq, Int.reduceLT, Int.reduceLE, Int.reduceAdd, Int.reduceSub, ↓reduceIte]
          refine ⟨.inl (cm _ _ (by decide) (by decide)), .inl (cm _ _ (by decide) (by decide)), .inl (cm _ _ (by decide) (by decide)), .inl (cm _ _ (by decide) (by decide)), ?_⟩
          exact hn _ _ ⟨⟨_, _, _, rfl⟩, by rw [mset_mset, mset_mset]; exact .set ⟨_, _, _, _, rfl, by omega, hs⟩⟩
    · try simp -dsimp only [bodyE, startD, List.map_cons, List.map_nil, List.length_cons, List.length_nil, List.replicate_succ, List.replicate_zero, List.cons_append, List.nil_append, Nat.reduceAdd, Nat.reduceSub, List.set_cons_zero, List.set_cons_succ, List.getElem?_cons_zero, List.getElem?_cons_succ, Bool.not_true, Bool.not_false, decide_true, decide_false, ↓IfS_t, ↓IfS_f, ↓IfE_t, ↓IfE_f, ↓AndT_t, ↓AndT_f, ↓OrT_t, ↓OrT_f, ↓AndV_t, ↓AndV_f, ↓OrV_t, ↓OrV_f, IfS_t, IfS_f, IfE_t, IfE_f, AndT_t, AndT_f, OrT_t, OrT_f, AndV_t, AndV_f, OrV_t, OrV_f, ↓eThen, ↓ePass, ↓eBreak, ↓eCont, ↓eExpr, ↓eRet, ↓eRetN, ↓eIfS, ↓eSet, ↓eOwn, ↓eAsg, ↓eSetIx, ↓eGSetIx, ↓eAug, ↓eIadd, ↓eIaddL, ↓eFrz, ↓eFor, ↓eWhile, ↓eNm, ↓eC, ↓eOp, ↓eB, ↓eTr, ↓eTrB, ↓eTrI, ↓eTrN, ↓eTrT, ↓eTrL, ↓eTrA, ↓eAnd, ↓eOr, ↓eNot, ↓eAndV, ↓eOrV, ↓eNotV, ↓eIf, ↓eNil, ↓eCons, ↓eTup, ↓eOfL, ↓eLstL, ↓eListL, ↓eCatL, ↓eLc, ↓eWipe0, ↓eWipe, ↓eSeq, ↓eRng1, ↓eRng2, ↓eCall, ↓eCB, ↓eNeg, ↓eChain, ↓eAppend, ↓ePop, ↓eNo, ↓eSome, ↓eSl, ↓gSl_t, ↓gSl_l, ↓gSl_a, ↓gAdd_i, ↓gAdd_t, ↓gAdd_s, ↓gAdd_l, ↓gI0_i, ↓gI_i, ↓gMul_i, ↓gMul_t, ↓gEq_, ↓gNe_, ↓gIs_n, ↓gIs_b, ↓gIsNot_n, ↓gIsNot_b, ↓gIn_, ↓gNotIn_, ↓gIx_t, ↓gIx_l, ↓gIx_a, ↓gLen_, ↓gLen_l, ↓gLen_a, ↓gInt_, ↓gInt_b, ↓gTuple_, ↓gTuple_l, ↓gTuple_a, ↓gMax_, ↓gMin_, ↓gIsBool_b, ↓gIsBool_i, seqOf_t, seqOf_l, seqOf_a, lstOf_l, lstOf_a, rsv_i, rsv_b, rsv_s, rsv_n, rsv_t, rsv_l, dle_i, dle_b, dle_n, eqD_i, eqD_b, isNon, bNm_, bTup_, bCons_, bNil_, Option.bind_some, i40, i41, i42, i43, atI0, atI1, atI2, atI3, mset_same, true_and, beq_self_eq_true, Bool.false_eq_true, c0, c1, Int.cast_ofNat_Int, Int.reduceEq, Int.reduceLT, Int.reduceLE, Int.reduceAdd, Int.reduceSub, ↓reduceIte]
      exact hn _ _ ⟨⟨_, _, _, rfl⟩, .refl st⟩
  · rintro ρ M' ⟨⟨o2, o3, o4, rfl⟩, h1⟩
    obtain ⟨y0, y1, y3, scr', hM', _, _⟩ := id h1.2
    try simp -dsimp only [bodyE, startD, List.map_cons, List.map_nil, List.length_cons, List.length_nil, List.replicate_succ, List.replicate_zero, List.cons_append, List.nil_append, Nat.reduceAdd, Nat.reduceSub, List.set_cons_zero, List.set_cons_succ, List.getElem?_cons_zero, List.getElem?_cons_succ, Bool.not_true, Bool.not_false, decide_true, decide_false, ↓IfS_t, ↓IfS_f, ↓IfE_t, ↓IfE_f, ↓AndT_t, ↓AndT_f, ↓OrT_t, ↓OrT_f, ↓AndV_t, ↓AndV_f, ↓OrV_t, ↓OrV_f, IfS_t, IfS_f, IfE_t, IfE_f, AndT_t, AndT_f, OrT_t, OrT_f, AndV_t, AndV_f, OrV_t, OrV_f, ↓eThen, ↓ePass, ↓eBreak, ↓eCont, ↓eExpr, ↓eRet, ↓eRetN, ↓eIfS, ↓eSet, ↓eOwn, ↓eAsg, ↓eSetIx, ↓eGSetIx, ↓eAug, ↓eIadd, ↓eIaddL, ↓eFrz, ↓eFor, ↓eWhile, ↓eNm, ↓eC, ↓eOp, ↓eB, ↓eTr, ↓eTrB, ↓eTrI, ↓eTrN, ↓eTrT, ↓eTrL, ↓eTrA, ↓eAnd, ↓eOr, ↓eNot, ↓eAndV, ↓eOrV, ↓eNotV, ↓eIf, ↓eNil, ↓eCons, ↓eTup, ↓eOfL, ↓eLstL, ↓eListL, ↓eCatL, ↓eLc, ↓eWipe0, ↓eWipe, ↓eSeq, ↓eRng1, ↓eRng2, ↓eCall, ↓eCB, ↓eNeg, ↓eChain, ↓eAppend, ↓ePop, ↓eNo, ↓eSome, ↓eSl, ↓gSl_t, ↓gSl_l, ↓gSl_a, ↓gAdd_i, ↓gAdd_t, ↓gAdd_s, ↓gAdd_l, ↓gI0_i, ↓gI_i, ↓gMul_i, ↓gMul_t, ↓gEq_, ↓gNe_, ↓gIs_n, ↓gIs_b, ↓gIsNot_n, ↓gIsNot_b, ↓gIn_, ↓gNotIn_, ↓gIx_t, ↓gIx_l, ↓gIx_a, ↓gLen_, ↓gLen_l, ↓gLen_a, ↓gInt_, ↓gInt_b, ↓gTuple_, ↓gTuple_l, ↓gTuple_a, ↓gMax_, ↓gMin_, ↓gIsBool_b, ↓gIsBool_i, seqOf_t, seqOf_l, seqOf_a, lstOf_l, lstOf_a, rsv_i, rsv_b, rsv_s, rsv_n, rsv_t, rsv_l, dle_i, dle_b, dle_n, eqD_i, eqD_b, isNon, bNm_, bTup_, bCons_, bNil_, Option.bind_some, i40, i41, i42, i43, atI0, atI1, atI2, atI3, mset_same, true_and, beq_self_eq_true, Bool.false_eq_true, c0, c1, Int.cast_ofNat_Int, Int.reduceEq, Int.reduceLT, Int.reduceLE, Int.reduceAdd, Int.reduceSub, ↓reduceIte, hM']
    have l9 : n.natAbs.log2 < 9000 := by
      have : n.natAbs < 2 ^ 30 := by omega
      exact Nat.lt_of_lt_of_le ((Nat.log2_lt (by omega)).mpr this) (by decide)
    refine ⟨n0, ⟨n0, l9⟩, ?_⟩
    refine hres _ _ ⟨_, rfl, Int.emod_nonneg _ (by omega), Int.emod_lt_of_pos _ n0⟩ (h1.trans (.set ⟨_, _, _, _, rfl, ?_, ?_⟩)) <;> assumption
end U

set_option Elab.async false
set_option linter.all false
set_option maxRecDepth 100000
set_option maxHeartbeats 1000000
/-! V3: lists that are drawn; words, patterns. -/
namespace U
open PySem PySem.Spec PyProof.Rows L2

theorem enc_of {α : Type} {enc : α → D} {P : α → Prop} : ∀ ys : List D, (∀ y ∈ ys, ∃ x, y = enc x ∧ P x) → ∃ xs : List α, ys = xs.map enc ∧ ∀ x ∈ xs, P x
  | [], _ => ⟨[], rfl, fun _ h => by cases h⟩
  | y :: ys, h => by
    obtain ⟨x, rfl, hx⟩ := h y List.mem_cons_self
    obtain ⟨xs, rfl, hxs⟩ := enc_of ys fun z hz => h z (List.mem_cons_of_mem _ hz)
    exact ⟨x :: xs, rfl, fun z hz => (List.mem_cons.mp hz).elim (fun e => e ▸ hx) (hxs z)⟩
theorem rngD_length {lo : Int} {n : Nat} : (rngD lo n).length = n := by unfold rngD; rw [List.length_map, List.length_range]
theorem rngD_mem {lo : Int} {n : Nat} {d : D} (h : d ∈ rngD lo n) : ∃ i : Int, d = .int i ∧ lo ≤ i ∧ i < lo + n := by
  unfold rngD at h
  obtain ⟨k, h1, rfl⟩ := List.mem_map.mp h
  have := List.mem_range.mp h1
  exact ⟨_, rfl, by omega, by omega⟩
section
variable {a : Addr} {M : Mu} {xw : XW} {Q : D → Mu → Prop} {QL : List D → Mu → Prop}
theorem drw_call {R : List D → D → Prop} {Pre : List D → Prop} {rest : List D} (h : IsSt M a) (hp : Pre rest) (k : ∀ M' d, R rest d → Stp a M M' → Q d M') : CallS (Drw R Pre) (.loc a :: rest) M xw (.mk : Ky Q) := ⟨a, rest, rfl, hp, h, k⟩
theorem draw_call {n : Int} (h : IsSt M a) (h0 : 0 < n) (h1 : n < 1073741824) (k : ∀ M' (i : Int), 0 ≤ i → i < n → Stp a M M' → Q (.int i) M') : CallS S_ldraw [.loc a, .int n] M xw (.mk : Ky Q) :=
  drw_call h ⟨n, rfl, h0, h1⟩ fun M' d ⟨m, i, e, hd, h2, h3⟩ s => by
    cases e
    rw [hd]
    exact k M' i h2 h3 s
/-- [draw for _ in ds] -/
theorem lc_gen {i : Nat} {fe : FE} {ρ : Env'} {ds : List D} (Rel : D → Prop) (hM : IsSt M a) (hl : ds.length ≤ sizeLine)
    (he : ∀ d M' (k : D → Mu → Prop), d ∈ ds → Stp a M M' → (∀ y M'', Rel y → Stp a M M'' → k y M'') → fe xF (ρ.set i (some d)) M' k)
    (done : ∀ ys M', ys.length = ds.length → (∀ y ∈ ys, Rel y) → Stp a M M' → QL ys M') : LcS (bNm i) fYes fe ρ ds M (.mk : Ky QL) := by
  refine lcS_ind (fun rest acc M' => acc.length + rest.length = ds.length ∧ (∀ d ∈ rest, d ∈ ds) ∧ (∀ y ∈ acc, Rel y) ∧ Stp a M M') ⟨by simp, fun _ h => h, fun _ h => (nomatch h), .refl hM⟩ ?_ ?_
  · rintro d rest acc M' ⟨h1, h2, h3, h4⟩
    rw [List.length_cons] at h1
    refine ⟨_, rfl, fun k hk => ?_⟩
    show fe xF (ρ.set i (some d)) M' _
    refine he d M' _ (h2 d List.mem_cons_self) h4 fun y M'' hy hs => ⟨by omega, hk _ _ ⟨?_, fun z hz => h2 z (List.mem_cons_of_mem _ hz), fun z hz => ?_, hs⟩⟩
    · rw [List.length_append, List.length_cons, List.length_nil]; omega
    · rcases List.mem_append.mp hz with hz | hz
      · exact h3 z hz
      · rw [List.mem_singleton.mp hz]; exact hy
  · rintro acc M' ⟨h1, _, h3, h4⟩
    exact done acc M' (by simpa using h1) h3 h4
/-- [d for d in ds if draw] -/
theorem lc_pick {i : Nat} {ft : FT} {fe : FE} {ρ : Env'} {ds : List D} (hM : IsSt M a) (hl : ds.length ≤ sizeLine)
    (ht : ∀ d M' (k : Bool → Mu → Prop), d ∈ ds → Stp a M M' → (∀ b M'', Stp a M M'' → k b M'') → ft xF (ρ.set i (some d)) M' k)
    (he : ∀ d M' (k : D → Mu → Prop), d ∈ ds → k d M' → fe xF (ρ.set i (some d)) M' k)
    (done : ∀ ys M', ys.Sublist ds → Stp a M M' → QL ys M') : LcS (bNm i) ft fe ρ ds M (.mk : Ky QL) := by
  refine lcS_ind (fun rest acc M' => ∃ pre, pre ++ rest = ds ∧ acc.Sublist pre ∧ Stp a M M') ⟨[], rfl, .refl _, .refl hM⟩ ?_ ?_
  · rintro d rest acc M' ⟨pre, h1, h2, h4⟩
    have hd : d ∈ ds := by rw [← h1]; simp
    have hlen : acc.length < sizeLine := by
      have e1 := h2.length_le
      have e2 := congrArg List.length h1
      rw [List.length_append, List.length_cons] at e2
      omega
    refine ⟨_, rfl, fun k hk => ht d M' _ hd h4 fun b M'' hs => ?_⟩
    have e3 : pre ++ [d] ++ rest = ds := by rw [List.append_assoc]; exact h1
    cases b with
    | true => exact he d M'' _ hd ⟨hlen, hk _ _ ⟨pre ++ [d], e3, h2.append (.refl _), hs⟩⟩
    | false => exact hk _ _ ⟨pre ++ [d], e3, h2.trans (List.sublist_append_left _ _), hs⟩
  · rintro acc M' ⟨pre, h1, h2, h4⟩
    rw [List.append_nil] at h1
    exact done acc M' (h1 ▸ h2) h4
end

/-! ### words, patterns -/
def wD (w : List Int) : D := .tup (w.map .int)
inductive Atom where
  | one (a : Int)
  | any (s : List Int)
  deriving DecidableEq
def atD : Atom → D
  | .one a => .tup [.str "some", .int a]
  | .any s => .tup [.str "any", wD s]
def pD (p : List Atom) : D := .tup (p.map atD)
def okW (L : Int) (w : List Int) : Prop := ∀ x ∈ w, 0 ≤ x ∧ x < L
def okA (L : Int) : Atom → Prop
  | .one a => 0 ≤ a ∧ a < L
  | .any s => s ≠ [] ∧ okW L s ∧ (s.length : Int) ≤ L ∧ s.Pairwise (· < ·)
theorem sub_rng {lo : Int} {n : Nat} {ys : List D} (h : ys.Sublist (rngD lo n)) : ∃ w : List Int, ys = w.map .int ∧ (∀ x ∈ w, lo ≤ x ∧ x < lo + n) ∧ w.length ≤ n ∧ w.Pairwise (· < ·) := by
  unfold rngD at h
  obtain ⟨l, h1, rfl⟩ := List.sublist_map_iff.mp h
  refine ⟨l.map fun k => lo + (k : Nat), by rw [List.map_map]; rfl, fun x hx => ?_, ?_, ?_⟩
  · obtain ⟨k, hk, rfl⟩ := List.mem_map.mp hx
    have := List.mem_range.mp (h1.mem hk)
    omega
  · rw [List.length_map]
    have := h1.length_le
    rwa [List.length_range] at this
  · refine List.Pairwise.map _ (fun x y (h : x < y) => ?_) (List.Pairwise.sublist h1 List.pairwise_lt_range)
    omega
def N_lword : List Str := ["_law_state", "_law_letters", "_law_most", "_law_k"]
def f_lword (S_ldraw : FSpec) : FS := fThen (fIfS (fB (fOp gEq (fNm 1) (fC (.int 0)))) (fRet (fTup fNil)) fPass) (fRet (fCB gTuple (fCons (fOfL (fLc (fRng1 (fCons (fCall S_ldraw (fCons (fNm 0) (fCons (fOp gAdd (fNm 2) (fC (.int 1))) fNil))) fNil)) (bNm 3) fYes (fCall S_ldraw (fCons (fNm 0) (fCons (fNm 1) fNil))) [3])) fNil)))
def N_latom : List Str := ["_law_state", "_law_letters", "_law_chosen", "_law_a"]
def f_latom (S_ldraw : FSpec) : FS := fThen (fIfS (fB (fOp gEq (fCall S_ldraw (fCons (fNm 0) (fCons (fC (.int 2)) fNil))) (fC (.int 1)))) (fRet (fTup (fCons (fC (.str "some")) (fCons (fCall S_ldraw (fCons (fNm 0) (fCons (fNm 1) fNil))) fNil)))) fPass) (fThen (fSet 2 (fCB gTuple (fCons (fOfL (fLc (fRng1 (fCons (fNm 1) fNil)) (bNm 3) (fB (fOp gEq (fCall S_ldraw (fCons (fNm 0) (fCons (fC (.int 2)) fNil))) (fC (.int 1)))) (fNm 3) [3])) fNil))) (fThen (fIfS (fB (fOp gEq (fCB gLen (fCons (fNm 2) fNil)) (fC (.int 0)))) (fSet 2 (fTup (fCons (fCall S_ldraw (fCons (fNm 0) (fCons (fNm 1) fNil))) fNil))) fPass) (fRet (fTup (fCons (fC (.str "any")) (fCons (fNm 2) fNil))))))
def N_lpattern : List Str := ["_law_state", "_law_letters", "_law_most", "_law_k"]
def f_lpattern (S_ldraw : FSpec) (S_latom : FSpec) : FS := fThen (fIfS (fB (fOp gEq (fNm 1) (fC (.int 0)))) (fRet (fTup fNil)) fPass) (fRet (fCB gTuple (fCons (fOfL (fLc (fRng1 (fCons (fCall S_ldraw (fCons (fNm 0) (fCons (fOp gAdd (fNm 2) (fC (.int 1))) fNil))) fNil)) (bNm 3) fYes (fCall S_latom (fCons (fNm 0) (fCons (fNm 1) fNil))) [3])) fNil)))

def S_lword : FSpec := Drw (fun r d => ∃ (L m : Int) (w : List Int), r = [.int L, .int m] ∧ d = wD w ∧ (w.length : Int) ≤ m ∧ okW L w) fun r => ∃ L m : Int, r = [.int L, .int m] ∧ 0 ≤ L ∧ L < 1000 ∧ 0 ≤ m ∧ m < 1000
def S_latom : FSpec := Drw (fun r d => ∃ (L : Int) (A : Atom), r = [.int L] ∧ d = atD A ∧ okA L A) fun r => ∃ L : Int, r = [.int L] ∧ 0 < L ∧ L < 1000
def S_lpattern : FSpec := Drw (fun r d => ∃ (L m : Int) (p : List Atom), r = [.int L, .int m] ∧ d = pD p ∧ (p.length : Int) ≤ m ∧ ∀ A ∈ p, okA L A) fun r => ∃ L m : Int, r = [.int L, .int m] ∧ 0 ≤ L ∧ L < 1000 ∧ 0 ≤ m ∧ m < 1000
theorem b_lword (ds : List D) (M : Mu) (Q : D → Mu → Prop) (xw : XW) (h : S_lword ds M Q xw) : bodyE N_lword (f_lword S_ldraw) ds M Q xw := by
  obtain ⟨a, rest, rfl, ⟨L, m, rfl, L0, L1, m0, m1⟩, st, post⟩ := h
  have post2 : ∀ (w : List Int) M', (w.length : Int) ≤ m → okW L w → Stp a M M' → Q (wD w) (mres M' M) := fun w M' h1 h2 h3 => post _ _ ⟨L, m, w, rfl, rfl, h1, h2⟩ (h3.res st)
  simp only [bodyE, startD, N_lword, List.map_cons, List.map_nil, List.length_cons, List.length_nil, List.replicate_succ, List.replicate_zero, List.cons_append, List.nil_append, Nat.reduceAdd, Nat.reduceSub]
  unfold f_lword
  try simp -dsimp only [bodyE, startD, List.map_cons, List.map_nil, List.length_cons, List.length_nil, List.replicate_succ, List.replicate_zero, List.cons_append, List.nil_append, Nat.reduceAdd, Nat.reduceSub, List.set_cons_zero, List.set_cons_succ, List.getElem?_cons_zero, List.getElem?_cons_succ, Bool.not_true, Bool.not_false, decide_true, decide_false, ↓IfS_t, ↓IfS_f, ↓IfE_t, ↓IfE_f, ↓AndT_t, ↓AndT_f, ↓OrT_t, ↓OrT_f, ↓AndV_t, ↓AndV_f, ↓OrV_t, ↓OrV_f, IfS_t, IfS_f, IfE_t, IfE_f, AndT_t, AndT_f, OrT_t, OrT_f, AndV_t, AndV_f, OrV_t, OrV_f, ↓eThen, ↓ePass, ↓eBreak, ↓eCont, ↓eExpr, ↓eRet, ↓eRetN, ↓eIfS, ↓eSet, ↓eOwn, ↓eAsg, ↓eSetIx, ↓eGSetIx, ↓eAug, ↓eIadd, ↓eIaddL, ↓eFrz, ↓eFor, ↓eWhile, ↓eNm, ↓eC, ↓eOp, ↓eB, ↓eTr, ↓eTrB, ↓eTrI, ↓eTrN, ↓eTrT, ↓eTrL, ↓eTrA, ↓eAnd, ↓eOr, ↓eNot, ↓eAndV, ↓eOrV, ↓eNotV, ↓eIf, ↓eNil, ↓eCons, ↓eTup, ↓eOfL, ↓eLstL, ↓eListL, ↓eCatL, ↓eLc, ↓eWipe0, ↓eWipe, ↓eSeq, ↓eRng1, ↓eRng2, ↓eCall, ↓eCB, ↓eNeg, ↓eChain, ↓eAppend, ↓ePop, ↓eNo, ↓eSome, ↓eSl, ↓gSl_t, ↓gSl_l, ↓gSl_a, ↓gAdd_i, ↓gAdd_t, ↓gAdd_s, ↓gAdd_l, ↓gI0_i, ↓gI_i, ↓gMul_i, ↓gMul_t, ↓gEq_, ↓gNe_, ↓gIs_n, ↓gIs_b, ↓gIsNot_n, ↓gIsNot_b, ↓gIn_, ↓gNotIn_, ↓gIx_t, ↓gIx_l, ↓gIx_a, ↓gLen_, ↓gLen_l, ↓gLen_a, ↓gInt_, ↓gInt_b, ↓gTuple_, ↓gTuple_l, ↓gTuple_a, ↓gMax_, ↓gMin_, ↓gIsBool_b, ↓gIsBool_i, seqOf_t, seqOf_l, seqOf_a, lstOf_l, lstOf_a, rsv_i, rsv_b, rsv_s, rsv_n, rsv_t, rsv_l, dle_i, dle_b, dle_n, eqD_i, eqD_b, isNon, bNm_, bTup_, bCons_, bNil_, Option.bind_some, i40, i41, i42, i43, atI0, atI1, atI2, atI3, mset_same, true_and, beq_self_eq_true, Bool.false_eq_true, c0, c1, Int.cast_ofNat_Int, Int.reduceEq, Int.reduceLT, Int.reduceLE, Int.reduceAdd, Int.reduceSub, ↓reduceIte]
  refine IfS_mk (fun h => ?_) fun h => ?_
  · try simp -dsimp only [bodyE, startD, List.map_cons, List.map_nil, List.length_cons, List.length_nil, List.replicate_succ, List.replicate_zero, List.cons_append, List.nil_append, Nat.reduceAdd, Nat.reduceSub, List.set_cons_zero, List.set_cons_succ, List.getElem?_cons_zero, List.getElem?_cons_succ, Bool.not_true, Bool.not_false, decide_true, decide_false, ↓IfS_t, ↓IfS_f, ↓IfE_t, ↓IfE_f, ↓AndT_t, ↓AndT_f, ↓OrT_t, ↓OrT_f, ↓AndV_t, ↓AndV_f, ↓OrV_t, ↓OrV_f, IfS_t, IfS_f, IfE_t, IfE_f, AndT_t, AndT_f, OrT_t, OrT_f, AndV_t, AndV_f, OrV_t, OrV_f, ↓eThen, ↓ePass, ↓eBreak, ↓eCont, ↓eExpr, ↓eRet, ↓eRetN, ↓eIfS, ↓eSet, ↓eOwn, ↓eAsg, ↓eSetIx, ↓eGSetIx, ↓eAug, ↓eIadd, ↓eIaddL, ↓eFrz, ↓eFor, ↓eWhile, ↓eNm, ↓eC, ↓eOp, ↓eB, ↓eTr, ↓eTrB, ↓eTrI, ↓eTrN, ↓eTrT, ↓eTrL, ↓eTrA, ↓eAnd, ↓eOr, ↓eNot, ↓eAndV, ↓eOrV, ↓eNotV, ↓eIf, ↓eNil, ↓eCons, ↓eTup, ↓eOfL, ↓eLstL, ↓eListL, ↓eCatL, ↓eLc, ↓eWipe0, ↓eWipe, ↓eSeq, ↓eRng1, ↓eRng2, ↓eCall, ↓eCB, ↓eNeg, ↓eChain, ↓eAppend, ↓ePop, ↓eNo, ↓eSome, ↓eSl, ↓gSl_t, ↓gSl_l, ↓gSl_a, ↓gAdd_i, ↓gAdd_t, ↓gAdd_s, ↓gAdd_l, ↓gI0_i, ↓gI_i, ↓gMul_i, ↓gMul_t, ↓gEq_, ↓gNe_, ↓gIs_n, ↓gIs_b, ↓gIsNot_n, ↓gIsNot_b, ↓gIn_, ↓gNotIn_, ↓gIx_t, ↓gIx_l, ↓gIx_a, ↓gLen_, ↓gLen_l, ↓gLen_a, ↓gInt_, ↓gInt_b, ↓gTuple_, ↓gTuple_l, ↓gTuple_a, ↓gMax_, ↓gMin_, ↓gIsBool_b, ↓gIsBool_i, seqOf_t, seqOf_l, seqOf_a, lstOf_l, lstOf_a, rsv_i, rsv_b, rsv_s, rsv_n, rsv_t, rsv_l, dle_i, dle_b, dle_n, eqD_i, eqD_b, isNon, bNm_, bTup_, bCons_, bNil_, Option.bind_some, i40, i41, i42, i43, atI0, atI1, atI2, atI3, mset_same, true_and, beq_self_eq_true, Bool.false_eq_true, c0, c1, Int.cast_ofNat_Int, Int.reduceEq, Int.reduceLT, Int.reduceLE, Int.reduceAdd, Int.reduceSub, ↓reduceIte]
    exact ⟨by decide, post2 [] M (by simpa using m0) (fun _ h => (nomatch h)) (.refl st)⟩
  · have hL : L ≠ 0 := of_decide_eq_false h
    try simp -dsimp only [bodyE, startD, List.map_cons, List.map_nil, List.length_cons, List.length_nil, List.replicate_succ, List.replicate_zero, List.cons_append, List.nil_append, Nat.reduceAdd, Nat.reduceSub, List.set_cons_zero, List.set_cons_succ, List.getElem?_cons_zero, List.getElem?_cons_succ, Bool.not_true, Bool.not_false, decide_true, decide_false, ↓IfS_t, ↓IfS_f, ↓IfE_t, ↓IfE_f, ↓AndT_t, ↓AndT_f, ↓OrT_t, ↓OrT_f, ↓AndV_t, ↓AndV_f, ↓OrV_t, ↓OrV_f, IfS_t, IfS_f, IfE_t, IfE_f, AndT_t, AndT_f, OrT_t, OrT_f, AndV_t, AndV_f, OrV_t, OrV_f, ↓eThen, ↓ePass, ↓eBreak, ↓eCont, ↓eExpr, ↓eRet, ↓eRetN, ↓eIfS, ↓eSet, ↓eOwn, ↓eAsg, ↓eSetIx, ↓eGSetIx, ↓eAug, ↓eIadd, ↓eIaddL, ↓eFrz, ↓eFor, ↓eWhile, ↓eNm, ↓eC, ↓eOp, ↓eB, ↓eTr, ↓eTrB, ↓eTrI, ↓eTrN, ↓eTrT, ↓eTrL, ↓eTrA, ↓eAnd, ↓eOr, ↓eNot, ↓eAndV, ↓eOrV, ↓eNotV, ↓eIf, ↓eNil, ↓eCons, ↓eTup, ↓eOfL, ↓eLstL, ↓eListL, ↓eCatL, ↓eLc, ↓eWipe0, ↓eWipe, ↓eSeq, ↓eRng1, ↓eRng2, ↓eCall, ↓eCB, ↓eNeg, ↓eChain, ↓eAppend, ↓ePop, ↓eNo, ↓eSome, ↓eSl, ↓gSl_t, ↓gSl_l, ↓gSl_a, ↓gAdd_i, ↓gAdd_t, ↓gAdd_s, ↓gAdd_l, ↓gI0_i, ↓gI_i, ↓gMul_i, ↓gMul_t, ↓gEq_, ↓gNe_, ↓gIs_n, ↓gIs_b, ↓gIsNot_n, ↓gIsNot_b, ↓gIn_, ↓gNotIn_, ↓gIx_t, ↓gIx_l, ↓gIx_a, ↓gLen_, ↓gLen_l, ↓gLen_a, ↓gInt_, ↓gInt_b, ↓gTuple_, ↓gTuple_l, ↓gTuple_a, ↓gMax_, ↓gMin_, ↓gIsBool_b, ↓gIsBool_i, seqOf_t, seqOf_l, seqOf_a, lstOf_l, lstOf_a, rsv_i, rsv_b, rsv_s, rsv_n, rsv_t, rsv_l, dle_i, dle_b, dle_n, eqD_i, eqD_b, isNon, bNm_, bTup_, bCons_, bNil_, Option.bind_some, i40, i41, i42, i43, atI0, atI1, atI2, atI3, mset_same, true_and, beq_self_eq_true, Bool.false_eq_true, c0, c1, Int.cast_ofNat_Int, Int.reduceEq, Int.reduceLT, Int.reduceLE, Int.reduceAdd, Int.reduceSub, ↓reduceIte]
    refine draw_call st (by omega) (by omega) fun M1 i i0 i1 s1 => ?_
    try simp -dsimp only [bodyE, startD, List.map_cons, List.map_nil, List.length_cons, List.length_nil, List.replicate_succ, List.replicate_zero, List.cons_append, List.nil_append, Nat.reduceAdd, Nat.reduceSub, List.set_cons_zero, List.set_cons_succ, List.getElem?_cons_zero, List.getElem?_cons_succ, Bool.not_true, Bool.not_false, decide_true, decide_false, ↓IfS_t, ↓IfS_f, ↓IfE_t, ↓IfE_f, ↓AndT_t, ↓AndT_f, ↓OrT_t, ↓OrT_f, ↓AndV_t, ↓AndV_f, ↓OrV_t, ↓OrV_f, IfS_t, IfS_f, IfE_t, IfE_f, AndT_t, AndT_f, OrT_t, OrT_f, AndV_t, AndV_f, OrV_t, OrV_f, ↓eThen, ↓ePass, ↓eBreak, ↓eCont, ↓eExpr, ↓eRet, ↓eRetN, ↓eIfS, ↓eSet, ↓eOwn, ↓eAsg, ↓eSetIx, ↓eGSetIx, ↓eAug, ↓eIadd, ↓eIaddL, ↓eFrz, ↓eFor, ↓eWhile, ↓eNm, ↓eC, ↓eOp, ↓eB, ↓eTr, ↓eTrB, ↓eTrI, ↓eTrN, ↓eTrT, ↓eTrL, ↓eTrA, ↓eAnd, ↓eOr, ↓eNot, ↓eAndV, ↓eOrV, ↓eNotV, ↓eIf, ↓eNil, ↓eCons, ↓eTup, ↓eOfL, ↓eLstL, ↓eListL, ↓eCatL, ↓eLc, ↓eWipe0, ↓eWipe, ↓eSeq, ↓eRng1, ↓eRng2, ↓eCall, ↓eCB, ↓eNeg, ↓eChain, ↓eAppend, ↓ePop, ↓eNo, ↓eSome, ↓eSl, ↓gSl_t, ↓gSl_l, ↓gSl_a, ↓gAdd_i, ↓gAdd_t, ↓gAdd_s, ↓gAdd_l, ↓gI0_i, ↓gI_i, ↓gMul_i, ↓gMul_t, ↓gEq_, ↓gNe_, ↓gIs_n, ↓gIs_b, ↓gIsNot_n, ↓gIsNot_b, ↓gIn_, ↓gNotIn_, ↓gIx_t, ↓gIx_l, ↓gIx_a, ↓gLen_, ↓gLen_l, ↓gLen_a, ↓gInt_, ↓gInt_b, ↓gTuple_, ↓gTuple_l, ↓gTuple_a, ↓gMax_, ↓gMin_, ↓gIsBool_b, ↓gIsBool_i, seqOf_t, seqOf_l, seqOf_a, lstOf_l, lstOf_a, rsv_i, rsv_b, rsv_s, rsv_n, rsv_t, rsv_l, dle_i, dle_b, dle_n, eqD_i, eqD_b, isNon, bNm_, bTup_, bCons_, bNil_, Option.bind_some, i40, i41, i42, i43, atI0, atI1, atI2, atI3, mset_same, true_and, beq_self_eq_true, Bool.false_eq_true, c0, c1, Int.cast_ofNat_Int, Int.reduceEq, Int.reduceLT, Int.reduceLE, Int.reduceAdd, Int.reduceSub, ↓reduceIte]
    refine ⟨by omega, ?_⟩
    refine lc_gen (fun y => ∃ x : Int, y = .int x ∧ (0 ≤ x ∧ x < L)) s1.2 (by rw [rngD_length]; have : sizeLine = 16777216 := rfl; omega) (fun d M' k _ hs hk => ?_) fun ys M' hl hy hs => ?_
    · try simp -dsimp only [bodyE, startD, List.map_cons, List.map_nil, List.length_cons, List.length_nil, List.replicate_succ, List.replicate_zero, List.cons_append, List.nil_append, Nat.reduceAdd, Nat.reduceSub, List.set_cons_zero, List.set_cons_succ, List.getElem?_cons_zero, List.getElem?_cons_succ, Bool.not_true, Bool.not_false, decide_true, decide_false, ↓IfS_t, ↓IfS_f, ↓IfE_t, ↓IfE_f, ↓AndT_t, ↓AndT_f, ↓OrT_t, ↓OrT_f, ↓AndV_t, ↓AndV_f, ↓OrV_t, ↓OrV_f, IfS_t, IfS_f, IfE_t, IfE_f, AndT_t, AndT_f, OrT_t, OrT_f, AndV_t, AndV_f, OrV_t, OrV_f, ↓eThen, ↓ePass, ↓eBreak, ↓eCont, ↓eExpr, ↓eRet, ↓eRetN, ↓eIfS, ↓eSet, ↓eOwn, ↓eAsg, ↓eSetIx, ↓eGSetIx, ↓eAug, ↓eIadd, ↓eIaddL, ↓eFrz, ↓eFor, ↓eWhile, ↓eNm, ↓eC, ↓eOp, ↓eB, ↓eTr, ↓eTrB, ↓eTrI, ↓eTrN, ↓eTrT, ↓eTrL, ↓eTrA, ↓eAnd, ↓eOr, ↓eNot, ↓eAndV, ↓eOrV, ↓eNotV, ↓eIf, ↓eNil, ↓eCons, ↓eTup, ↓eOfL, ↓eLstL, ↓eListL, ↓eCatL, ↓eLc, ↓eWipe0, ↓eWipe, ↓eSeq, ↓eRng1, ↓eRng2, ↓eCall, ↓eCB, ↓eNeg, ↓eChain, ↓eAppend, ↓ePop, ↓eNo, ↓eSome, ↓eSl, ↓gSl_t, ↓gSl_l, ↓gSl_a, ↓gAdd_i, ↓gAdd_t, ↓gAdd_s, ↓gAdd_l, ↓gI0_i, ↓gI_i, ↓gMul_i, ↓gMul_t, ↓gEq_, ↓gNe_, ↓gIs_n, ↓gIs_b, ↓gIsNot_n, ↓gIsNot_b, ↓gIn_, ↓gNotIn_, ↓gIx_t, ↓gIx_l, ↓gIx_a, ↓gLen_, ↓gLen_l, ↓gLen_a, ↓gInt_, ↓gInt_b, ↓gTuple_, ↓gTuple_l, ↓gTuple_a, ↓gMax_, ↓gMin_, ↓gIsBool_b, ↓gIsBool_i, seqOf_t, seqOf_l, seqOf_a, lstOf_l, lstOf_a, rsv_i, rsv_b, rsv_s, rsv_n, rsv_t, rsv_l, dle_i, dle_b, dle_n, eqD_i, eqD_b, isNon, bNm_, bTup_, bCons_, bNil_, Option.bind_some, i40, i41, i42, i43, atI0, atI1, atI2, atI3, mset_same, true_and, beq_self_eq_true, Bool.false_eq_true, c0, c1, Int.cast_ofNat_Int, Int.reduceEq, Int.reduceLT, Int.reduceLE, Int.reduceAdd, Int.reduceSub, ↓reduceIte]
      exact draw_call hs.2 (by omega) (by omega) fun M2 j j0 j1 s2 => hk _ _ ⟨j, rfl, j0, j1⟩ (hs.trans s2)
    · obtain ⟨w, rfl, hw⟩ := enc_of ys hy
      rw [rngD_length, List.length_map] at hl
      try simp -dsimp only [bodyE, startD, List.map_cons, List.map_nil, List.length_cons, List.length_nil, List.replicate_succ, List.replicate_zero, List.cons_append, List.nil_append, Nat.reduceAdd, Nat.reduceSub, List.set_cons_zero, List.set_cons_succ, List.getElem?_cons_zero, List.getElem?_cons_succ, Bool.not_true, Bool.not_false, decide_true, decide_false, ↓IfS_t, ↓IfS_f, ↓IfE_t, ↓IfE_f, ↓AndT_t, ↓AndT_f, ↓OrT_t, ↓OrT_f, ↓AndV_t, ↓AndV_f, ↓OrV_t, ↓OrV_f, IfS_t, IfS_f, IfE_t, IfE_f, AndT_t, AndT_f, OrT_t, OrT_f, AndV_t, AndV_f, OrV_t, OrV_f, ↓eThen, ↓ePass, ↓eBreak, ↓eCont, ↓eExpr, ↓eRet, ↓eRetN, ↓eIfS, ↓eSet, ↓eOwn, ↓eAsg, ↓eSetIx, ↓eGSetIx, ↓eAug, ↓eIadd, ↓eIaddL, ↓eFrz, ↓eFor, ↓eWhile, ↓eNm, ↓eC, ↓eOp, ↓eB, ↓eTr, ↓eTrB, ↓eTrI, ↓eTrN, ↓eTrT, ↓eTrL, ↓eTrA, ↓eAnd, ↓eOr, ↓eNot, ↓eAndV, ↓eOrV, ↓eNotV, ↓eIf, ↓eNil, ↓eCons, ↓eTup, ↓eOfL, ↓eLstL, ↓eListL, ↓eCatL, ↓eLc, ↓eWipe0, ↓eWipe, ↓eSeq, ↓eRng1, ↓eRng2, ↓eCall, ↓eCB, ↓eNeg, ↓eChain, ↓eAppend, ↓ePop, ↓eNo, ↓eSome, ↓eSl, ↓gSl_t, ↓gSl_l, ↓gSl_a, ↓gAdd_i, ↓gAdd_t, ↓gAdd_s, ↓gAdd_l, ↓gI0_i, ↓gI_i, ↓gMul_i, ↓gMul_t, ↓gEq_, ↓gNe_, ↓gIs_n, ↓gIs_b, ↓gIsNot_n, ↓gIsNot_b, ↓gIn_, ↓gNotIn_, ↓gIx_t, ↓gIx_l, ↓gIx_a, ↓gLen_, ↓gLen_l, ↓gLen_a, ↓gInt_, ↓gInt_b, ↓gTuple_, ↓gTuple_l, ↓gTuple_a, ↓gMax_, ↓gMin_, ↓gIsBool_b, ↓gIsBool_i, seqOf_t, seqOf_l, seqOf_a, lstOf_l, lstOf_a, rsv_i, rsv_b, rsv_s, rsv_n, rsv_t, rsv_l, dle_i, dle_b, dle_n, eqD_i, eqD_b, isNon, bNm_, bTup_, bCons_, bNil_, Option.bind_some, i40, i41, i42, i43, atI0, atI1, atI2, atI3, mset_same, true_and, beq_self_eq_true, Bool.false_eq_true, c0, c1, Int.cast_ofNat_Int, Int.reduceEq, Int.reduceLT, Int.reduceLE, Int.reduceAdd, Int.reduceSub, ↓reduceIte]
      exact post2 w M' (by omega) hw (s1.trans hs)
theorem b_latom (ds : List D) (M : Mu) (Q : D → Mu → Prop) (xw : XW) (h : S_latom ds M Q xw) : bodyE N_latom (f_latom S_ldraw) ds M Q xw := by
  obtain ⟨a, rest, rfl, ⟨L, rfl, L0, L1⟩, st, post⟩ := h
  have post2 : ∀ (A : Atom) M', okA L A → Stp a M M' → Q (atD A) (mres M' M) := fun A M' h1 h3 => post _ _ ⟨L, A, rfl, rfl, h1⟩ (h3.res st)
  simp only [bodyE, startD, N_latom, List.map_cons, List.map_nil, List.length_cons, List.length_nil, List.replicate_succ, List.replicate_zero, List.cons_append, List.nil_append, Nat.reduceAdd, Nat.reduceSub]
  unfold f_latom
  try simp -dsimp only [bodyE, startD, List.map_cons, List.map_nil, List.length_cons, List.length_nil, List.replicate_succ, List.replicate_zero, List.cons_append, List.nil_append, Nat.reduceAdd, Nat.reduceSub, List.set_cons_zero, List.set_cons_succ, List.getElem?_cons_zero, List.getElem?_cons_succ, Bool.not_true, Bool.not_false, decide_true, decide_false, ↓IfS_t, ↓IfS_f, ↓IfE_t, ↓IfE_f, ↓AndT_t, ↓AndT_f, ↓OrT_t, ↓OrT_f, ↓AndV_t, ↓AndV_f, ↓OrV_t, ↓OrV_f, IfS_t, IfS_f, IfE_t, IfE_f, AndT_t, AndT_f, OrT_t, OrT_f, AndV_t, AndV_f, OrV_t, OrV_f, ↓eThen, ↓ePass, ↓eBreak, ↓eCont, ↓eExpr, ↓eRet, ↓eRetN, ↓eIfS, ↓eSet, ↓eOwn, ↓eAsg, ↓eSetIx, ↓eGSetIx, ↓eAug, ↓eIadd, ↓eIaddL, ↓eFrz, ↓eFor, ↓eWhile, ↓eNm, ↓eC, ↓eOp, ↓eB, ↓eTr, ↓eTrB, ↓eTrI, ↓eTrN, ↓eTrT, ↓eTrL, ↓eTrA, ↓eAnd, ↓eOr, ↓eNot, ↓eAndV, ↓eOrV, ↓eNotV, ↓eIf, ↓eNil, ↓eCons, ↓eTup, ↓eOfL, ↓eLstL, ↓eListL, ↓eCatL, ↓eLc, ↓eWipe0, ↓eWipe, ↓eSeq, ↓eRng1, ↓eRng2, ↓eCall, ↓eCB, ↓eNeg, ↓eChain, ↓eAppend, ↓ePop, ↓eNo, ↓eSome, ↓eSl, ↓gSl_t, ↓gSl_l, ↓gSl_a, ↓gAdd_i, ↓gAdd_t, ↓gAdd_s, ↓gAdd_l, ↓gI0_i, ↓gI_i, ↓gMul_i, ↓gMul_t, ↓gEq_, ↓gNe_, ↓gIs_n, ↓gIs_b, ↓gIsNot_n, ↓gIsNot_b, ↓gIn_, ↓gNotIn_, ↓gIx_t, ↓gIx_l, ↓gIx_a, ↓gLen_, ↓gLen_l, ↓gLen_a, ↓gInt_, ↓gInt_b, ↓gTuple_, ↓gTuple_l, ↓gTuple_a, ↓gMax_, ↓gMin_, ↓gIsBool_b, ↓gIsBool_i, seqOf_t, seqOf_l, seqOf_a, lstOf_l, lstOf_a, rsv_i, rsv_b, rsv_s, rsv_n, rsv_t, rsv_l, dle_i, dle_b, dle_n, eqD_i, eqD_b, isNon, bNm_, bTup_, bCons_, bNil_, Option.bind_some, i40, i41, i42, i43, atI0, atI1, atI2, atI3, mset_same, true_and, beq_self_eq_true, Bool.false_eq_true, c0, c1, Int.cast_ofNat_Int, Int.reduceEq, Int.reduceLT, Int.reduceLE, Int.reduceAdd, Int.reduceSub, ↓reduceIte]
  refine draw_call st (by omega) (by omega) fun M1 i i0 i1 s1 => ?_
  try simp -dsimp only [bodyE, startD, List.map_cons, List.map_nil, List.length_cons, List.length_nil, List.replicate_succ, List.replicate_zero, List.cons_append, List.nil_append, Nat.reduceAdd, Nat.reduceSub, List.set_cons_zero, List.set_cons_succ, List.getElem?_cons_zero, List.getElem?_cons_succ, Bool.not_true, Bool.not_false, decide_true, decide_false, ↓IfS_t, ↓IfS_f, ↓IfE_t, ↓IfE_f, ↓AndT_t, ↓AndT_f, ↓OrT_t, ↓OrT_f, ↓AndV_t, ↓AndV_f, ↓OrV_t, ↓OrV_f, IfS_t, IfS_f, IfE_t, IfE_f, AndT_t, AndT_f, OrT_t, OrT_f, AndV_t, AndV_f, OrV_t, OrV_f, ↓eThen, ↓ePass, ↓eBreak, ↓eCont, ↓eExpr, ↓eRet, ↓eRetN, ↓eIfS, ↓eSet, ↓eOwn, ↓eAsg, ↓eSetIx, ↓eGSetIx, ↓eAug, ↓eIadd, ↓eIaddL, ↓eFrz, ↓eFor, ↓eWhile, ↓eNm, ↓eC, ↓eOp, ↓eB, ↓eTr, ↓eTrB, ↓eTrI, ↓eTrN, ↓eTrT, ↓eTrL, ↓eTrA, ↓eAnd, ↓eOr, ↓eNot, ↓eAndV, ↓eOrV, ↓eNotV, ↓eIf, ↓eNil, ↓eCons, ↓eTup, ↓eOfL, ↓eLstL, ↓eListL, ↓eCatL, ↓eLc, ↓eWipe0, ↓eWipe, ↓eSeq, ↓eRng1, ↓eRng2, ↓eCall, ↓eCB, ↓eNeg, ↓eChain, ↓eAppend, ↓ePop, ↓eNo, ↓eSome, ↓eSl, ↓gSl_t, ↓gSl_l, ↓gSl_a, ↓gAdd_i, ↓gAdd_t, ↓gAdd_s, ↓gAdd_l, ↓gI0_i, ↓gI_i, ↓gMul_i, ↓gMul_t, ↓gEq_, ↓gNe_, ↓gIs_n, ↓gIs_b, ↓gIsNot_n, ↓gIsNot_b, ↓gIn_, ↓gNotIn_, ↓gIx_t, ↓gIx_l, ↓gIx_a, ↓gLen_, ↓gLen_l, ↓gLen_a, ↓gInt_, ↓gInt_b, ↓gTuple_, ↓gTuple_l, ↓gTuple_a, ↓gMax_, ↓gMin_, ↓gIsBool_b, ↓gIsBool_i, seqOf_t, seqOf_l, seqOf_a, lstOf_l, lstOf_a, rsv_i, rsv_b, rsv_s, rsv_n, rsv_t, rsv_l, dle_i, dle_b, dle_n, eqD_i, eqD_b, isNon, bNm_, bTup_, bCons_, bNil_, Option.bind_some, i40, i41, i42, i43, atI0, atI1, atI2, atI3, mset_same, true_and, beq_self_eq_true, Bool.false_eq_true, c0, c1, Int.cast_ofNat_Int, Int.reduceEq, Int.reduceLT, Int.reduceLE, Int.reduceAdd, Int.reduceSub, ↓reduceIte]
  refine IfS_mk (fun h => ?_) fun h => ?_
  · try simp -dsimp only [bodyE, startD, List.map_cons, List.map_nil, List.length_cons, List.length_nil, List.replicate_succ, List.replicate_zero, List.cons_append, List.nil_append, Nat.reduceAdd, Nat.reduceSub, List.set_cons_zero, List.set_cons_succ, List.getElem?_cons_zero, List.getElem?_cons_succ, Bool.not_true, Bool.not_false, decide_true, decide_false, ↓IfS_t, ↓IfS_f, ↓IfE_t, ↓IfE_f, ↓AndT_t, ↓AndT_f, ↓OrT_t, ↓OrT_f, ↓AndV_t, ↓AndV_f, ↓OrV_t, ↓OrV_f, IfS_t, IfS_f, IfE_t, IfE_f, AndT_t, AndT_f, OrT_t, OrT_f, AndV_t, AndV_f, OrV_t, OrV_f, ↓eThen, ↓ePass, ↓eBreak, ↓eCont, ↓eExpr, ↓eRet, ↓eRetN, ↓eIfS, ↓eSet, ↓eOwn, ↓eAsg, ↓eSetIx, ↓eGSetIx, ↓eAug, ↓eIadd, ↓eIaddL, ↓eFrz, ↓eFor, ↓eWhile, ↓eNm, ↓eC, ↓eOp, ↓eB, ↓eTr, ↓eTrB, ↓eTrI, ↓eTrN, ↓eTrT, ↓eTrL, ↓eTrA, ↓eAnd, ↓eOr, ↓eNot, ↓eAndV, ↓eOrV, ↓eNotV, ↓eIf, ↓eNil, ↓eCons, ↓eTup, ↓eOfL, ↓eLstL, ↓eListL, ↓eCatL, ↓eLc, ↓eWipe0, ↓eWipe, ↓eSeq, ↓eRng1, ↓eRng2, ↓eCall, ↓eCB, ↓eNeg, ↓eChain, ↓eAppend, ↓ePop, ↓eNo, ↓eSome, ↓eSl, ↓gSl_t, ↓gSl_l, ↓gSl_a, ↓gAdd_i, ↓gAdd_t, ↓gAdd_s, ↓gAdd_l, ↓gI0_i, ↓gI_i, ↓gMul_i, ↓gMul_t, ↓gEq_, ↓gNe_, ↓gIs_n, ↓gIs_b, ↓gIsNot_n, ↓gIsNot_b, ↓gIn_, ↓gNotIn_, ↓gIx_t, ↓gIx_l, ↓gIx_a, ↓gLen_, ↓gLen_l, ↓gLen_a, ↓gInt_, ↓gInt_b, ↓gTuple_, ↓gTuple_l, ↓gTuple_a, ↓gMax_, ↓gMin_, ↓gIsBool_b, ↓gIsBool_i, seqOf_t, seqOf_l, seqOf_a, lstOf_l, lstOf_a, rsv_i, rsv_b, rsv_s, rsv_n, rsv_t, rsv_l, dle_i, dle_b, dle_n, eqD_i, eqD_b, isNon, bNm_, bTup_, bCons_, bNil_, Option.bind_some, i40, i41, i42, i43, atI0, atI1, atI2, atI3, mset_same, true_and, beq_self_eq_true, Bool.false_eq_true, c0, c1, Int.cast_ofNat_Int, Int.reduceEq, Int.reduceLT, Int.reduceLE, Int.reduceAdd, Int.reduceSub, ↓reduceIte]
    refine draw_call s1.2 (by omega) (by omega) fun M2 j j0 j1 s2 => ?_
    try simp -dsimp only [bodyE, startD, List.map_cons, List.map_nil, List.length_cons, List.length_nil, List.replicate_succ, List.replicate_zero, List.cons_append, List.nil_append, Nat.reduceAdd, Nat.reduceSub, List.set_cons_zero, List.set_cons_succ, List.getElem?_cons_zero, List.getElem?_cons_succ, Bool.not_true, Bool.not_false, decide_true, decide_false, ↓IfS_t, ↓IfS_f, ↓IfE_t, ↓IfE_f, ↓AndT_t, ↓AndT_f, ↓OrT_t, ↓OrT_f, ↓AndV_t, ↓AndV_f, ↓OrV_t, ↓OrV_f, IfS_t, IfS_f, IfE_t, IfE_f, AndT_t, AndT_f, OrT_t, OrT_f, AndV_t, AndV_f, OrV_t, OrV_f, ↓eThen, ↓ePass, ↓eBreak, ↓eCont, ↓eExpr, ↓eRet, ↓eRetN, ↓eIfS, ↓eSet, ↓eOwn, ↓eAsg, ↓eSetIx, ↓eGSetIx, ↓eAug, ↓eIadd, ↓eIaddL, ↓eFrz, ↓eFor, ↓eWhile, ↓eNm, ↓eC, ↓eOp, ↓eB, ↓eTr, ↓eTrB, ↓eTrI, ↓eTrN, ↓eTrT, ↓eTrL, ↓eTrA, ↓eAnd, ↓eOr, ↓eNot, ↓eAndV, ↓eOrV, ↓eNotV, ↓eIf, ↓eNil, ↓eCons, ↓eTup, ↓eOfL, ↓eLstL, ↓eListL, ↓eCatL, ↓eLc, ↓eWipe0, ↓eWipe, ↓eSeq, ↓eRng1, ↓eRng2, ↓eCall, ↓eCB, ↓eNeg, ↓eChain, ↓eAppend, ↓ePop, ↓eNo, ↓eSome, ↓eSl, ↓gSl_t, ↓gSl_l, ↓gSl_a, ↓gAdd_i, ↓gAdd_t, ↓gAdd_s, ↓gAdd_l, ↓gI0_i, ↓gI_i, ↓gMul_i, ↓gMul_t, ↓gEq_, ↓gNe_, ↓gIs_n, ↓gIs_b, ↓gIsNot_n, ↓gIsNot_b, ↓gIn_, ↓gNotIn_, ↓gIx_t, ↓gIx_l, ↓gIx_a, ↓gLen_, ↓gLen_l, ↓gLen_a, ↓gInt_, ↓gInt_b, ↓gTuple_, ↓gTuple_l, ↓gTuple_a, ↓gMax_, ↓gMin_, ↓gIsBool_b, ↓gIsBool_i, seqOf_t, seqOf_l, seqOf_a, lstOf_l, lstOf_a, rsv_i, rsv_b, rsv_s, rsv_n, rsv_t, rsv_l, dle_i, dle_b, dle_n, eqD_i, eqD_b, isNon, bNm_, bTup_, bCons_, bNil_, Option.bind_some, i40, i41, i42, i43, atI0, atI1, atI2, atI3, mset_same, true_and, beq_self_eq_true, Bool.false_eq_true, c0, c1, Int.cast_ofNat_Int, Int.reduceEq, Int.reduceLT, Int.reduceLE, Int.reduceAdd, Int.reduceSub, ↓reduceIte]
    exact ⟨by decide, post2 (.one j) _ ⟨j0, j1⟩ (s1.trans s2)⟩
  · try simp -dsimp only [bodyE, startD, List.map_cons, List.map_nil, List.length_cons, List.length_nil, List.replicate_succ, List.replicate_zero, List.cons_append, List.nil_append, Nat.reduceAdd, Nat.reduceSub, List.set_cons_zero, List.set_cons_succ, List.getElem?_cons_zero, List.getElem?_cons_succ, Bool.not_true, Bool.not_false, decide_true, decide_false, ↓IfS_t, ↓IfS_f, ↓IfE_t, ↓IfE_f, ↓AndT_t, ↓AndT_f, ↓OrT_t, ↓OrT_f, ↓AndV_t, ↓AndV_f, ↓OrV_t, ↓OrV_f, IfS_t, IfS_f, IfE_t, IfE_f, AndT_t, AndT_f, OrT_t, OrT_f, AndV_t, AndV_f, OrV_t, OrV_f, ↓eThen, ↓ePass, ↓eBreak, ↓eCont, ↓eExpr, ↓eRet, ↓eRetN, ↓eIfS, ↓eSet, ↓eOwn, ↓eAsg, ↓eSetIx, ↓eGSetIx, ↓eAug, ↓eIadd, ↓eIaddL, ↓eFrz, ↓eFor, ↓eWhile, ↓eNm, ↓eC, ↓eOp, ↓eB, ↓eTr, ↓eTrB, ↓eTrI, ↓eTrN, ↓eTrT, ↓eTrL, ↓eTrA, ↓eAnd, ↓eOr, ↓eNot, ↓eAndV, ↓eOrV, ↓eNotV, ↓eIf, ↓eNil, ↓eCons, ↓eTup, ↓eOfL, ↓eLstL, ↓eListL, ↓eCatL, ↓eLc, ↓eWipe0, ↓eWipe, ↓eSeq, ↓eRng1, ↓eRng2, ↓eCall, ↓eCB, ↓eNeg, ↓eChain, ↓eAppend, ↓ePop, ↓eNo, ↓eSome, ↓eSl, ↓gSl_t, ↓gSl_l, ↓gSl_a, ↓gAdd_i, ↓gAdd_t, ↓gAdd_s, ↓gAdd_l, ↓gI0_i, ↓gI_i, ↓gMul_i, ↓gMul_t, ↓gEq_, ↓gNe_, ↓gIs_n, ↓gIs_b, ↓gIsNot_n, ↓gIsNot_b, ↓gIn_, ↓gNotIn_, ↓gIx_t, ↓gIx_l, ↓gIx_a, ↓gLen_, ↓gLen_l, ↓gLen_a, ↓gInt_, ↓gInt_b, ↓gTuple_, ↓gTuple_l, ↓gTuple_a, ↓gMax_, ↓gMin_, ↓gIsBool_b, ↓gIsBool_i, seqOf_t, seqOf_l, seqOf_a, lstOf_l, lstOf_a, rsv_i, rsv_b, rsv_s, rsv_n, rsv_t, rsv_l, dle_i, dle_b, dle_n, eqD_i, eqD_b, isNon, bNm_, bTup_, bCons_, bNil_, Option.bind_some, i40, i41, i42, i43, atI0, atI1, atI2, atI3, mset_same, true_and, beq_self_eq_true, Bool.false_eq_true, c0, c1, Int.cast_ofNat_Int, Int.reduceEq, Int.reduceLT, Int.reduceLE, Int.reduceAdd, Int.reduceSub, ↓reduceIte]
    refine ⟨by omega, ?_⟩
    refine lc_pick s1.2 (by rw [rngD_length]; have : sizeLine = 16777216 := rfl; omega) (fun d M' k _ hs hk => ?_) (fun d M' k _ hk => ?_) fun ys M' hys hs => ?_
    · try simp -dsimp only [bodyE, startD, List.map_cons, List.map_nil, List.length_cons, List.length_nil, List.replicate_succ, List.replicate_zero, List.cons_append, List.nil_append, Nat.reduceAdd, Nat.reduceSub, List.set_cons_zero, List.set_cons_succ, List.getElem?_cons_zero, List.getElem?_cons_succ, Bool.not_true, Bool.not_false, decide_true, decide_false, ↓IfS_t, ↓IfS_f, ↓IfE_t, ↓IfE_f, ↓AndT_t, ↓AndT_f, ↓OrT_t, ↓OrT_f, ↓AndV_t, ↓AndV_f, ↓OrV_t, ↓OrV_f, IfS_t, IfS_f, IfE_t, IfE_f, AndT_t, AndT_f, OrT_t, OrT_f, AndV_t, AndV_f, OrV_t, OrV_f, ↓eThen, ↓ePass, ↓eBreak, ↓eCont, ↓eExpr, ↓eRet, ↓eRetN, ↓eIfS, ↓eSet, ↓eOwn, ↓eAsg, ↓eSetIx, ↓eGSetIx, ↓eAug, ↓eIadd, ↓eIaddL, ↓eFrz, ↓eFor, ↓eWhile, ↓eNm, ↓eC, ↓eOp, ↓eB, ↓eTr, ↓eTrB, ↓eTrI, ↓eTrN, ↓eTrT, ↓eTrL, ↓eTrA, ↓eAnd, ↓eOr, ↓eNot, ↓eAndV, ↓eOrV, ↓eNotV, ↓eIf, ↓eNil, ↓eCons, ↓eTup, ↓eOfL, ↓eLstL, ↓eListL, ↓eCatL, ↓eLc, ↓eWipe0, ↓eWipe, ↓eSeq, ↓eRng1, ↓eRng2, ↓eCall, ↓eCB, ↓eNeg, ↓eChain, ↓eAppend, ↓ePop, ↓eNo, ↓eSome, ↓eSl, ↓gSl_t, ↓gSl_l, ↓gSl_a, ↓gAdd_i, ↓gAdd_t, ↓gAdd_s, ↓gAdd_l, ↓gI0_i, ↓gI_i, ↓gMul_i, ↓gMul_t, ↓gEq_, ↓gNe_, ↓gIs_n, ↓gIs_b, ↓gIsNot_n, ↓gIsNot_b, ↓gIn_, ↓gNotIn_, ↓gIx_t, ↓gIx_l, ↓gIx_a, ↓gLen_, ↓gLen_l, ↓gLen_a, ↓gInt_, ↓gInt_b, ↓gTuple_, ↓gTuple_l, ↓gTuple_a, ↓gMax_, ↓gMin_, ↓gIsBool_b, ↓gIsBool_i, seqOf_t, seqOf_l, seqOf_a, lstOf_l, lstOf_a, rsv_i, rsv_b, rsv_s, rsv_n, rsv_t, rsv_l, dle_i, dle_b, dle_n, eqD_i, eqD_b, isNon, bNm_, bTup_, bCons_, bNil_, Option.bind_some, i40, i41, i42, i43, atI0, atI1, atI2, atI3, mset_same, true_and, beq_self_eq_true, Bool.false_eq_true, c0, c1, Int.cast_ofNat_Int, Int.reduceEq, Int.reduceLT, Int.reduceLE, Int.reduceAdd, Int.reduceSub, ↓reduceIte]
      exact draw_call hs.2 (by omega) (by omega) fun M2 j j0 j1 s2 => by try simp -dsimp only [bodyE, startD, List.map_cons, List.map_nil, List.length_cons, List.length_nil, List.replicate_succ, List.replicate_zero, List.cons_append, List.nil_append, Nat.reduceAdd, Nat.reduceSub, List.set_cons_zero, List.set_cons_succ, List.getElem?_cons_zero, List.getElem?_cons_succ, Bool.not_true, Bool.not_false, decide_true, decide_false, ↓IfS_t, ↓IfS_f, ↓IfE_t, ↓IfE_f, ↓AndT_t, ↓AndT_f, ↓OrT_t, ↓OrT_f, ↓AndV_t, ↓AndV_f, ↓OrV_t, ↓OrV_f, IfS_t, IfS_f, IfE_t, IfE_f, AndT_t, AndT_f, OrT_t, OrT_f, AndV_t, AndV_f, OrV_t, OrV_f, ↓eThen, ↓ePass, ↓eBreak, ↓eCont, ↓eExpr, ↓eRet, ↓eRetN, ↓eIfS, ↓eSet, ↓eOwn, ↓eAsg, ↓eSetIx, ↓eGSetIx, ↓eAug, ↓eIadd, ↓eIaddL, ↓eFrz, ↓eFor, ↓eWhile, ↓eNm, ↓eC, ↓eOp, ↓eB, ↓eTr, ↓eTrB, ↓eTrI, ↓eTrN, ↓eTrT, ↓eTrL, ↓eTrA, ↓eAnd, ↓eOr, ↓eNot, ↓eAndV, ↓eOrV, ↓eNotV, ↓eIf, ↓eNil, ↓eCons, ↓eTup, ↓eOfL, ↓eLstL, ↓eListL, ↓eCatL, ↓eLc, ↓eWipe0, ↓eWipe, ↓eSeq, ↓eRng1, ↓eRng2, ↓eCall, ↓eCB, ↓eNeg, ↓eChain, ↓eAppend, ↓ePop, ↓eNo, ↓eSome, ↓eSl, ↓gSl_t, ↓gSl_l, ↓gSl_a, ↓gAdd_i, ↓gAdd_t, ↓gAdd_s, ↓gAdd_l, ↓gI0_i, ↓gI_i, ↓gMul_i, ↓gMul_t, ↓gEq_, ↓gNe_, ↓gIs_n, ↓gIs_b, ↓gIsNot_n, ↓gIsNot_b, ↓gIn_, ↓gNotIn_, ↓gIx_t, ↓gIx_l, ↓gIx_a, ↓gLen_, ↓gLen_l, ↓gLen_a, ↓gInt_, ↓gInt_b, ↓gTuple_, ↓gTuple_l, ↓gTuple_a, ↓gMax_, ↓gMin_, ↓gIsBool_b, ↓gIsBool_i, seqOf_t, seqOf_l, seqOf_a, lstOf_l, lstOf_a, rsv_i, rsv_b, rsv_s, rsv_n, rsv_t, rsv_l, dle_i, dle_b, dle_n, eqD_i, eqD_b, isNon, bNm_, bTup_, bCons_, bNil_, Option.bind_some, i40, i41, i42, i43, atI0, atI1, atI2, atI3, mset_same, true_and, beq_self_eq_true, Bool.false_eq_true, c0, c1, Int.cast_ofNat_Int, Int.reduceEq, Int.reduceLT, Int.reduceLE, Int.reduceAdd, Int.reduceSub, ↓reduceIte]; exact hk _ _ (hs.trans s2)
    · try simp -dsimp only [bodyE, startD, List.map_cons, List.map_nil, List.length_cons, List.length_nil, List.replicate_succ, List.replicate_zero, List.cons_append, List.nil_append, Nat.reduceAdd, Nat.reduceSub, List.set_cons_zero, List.set_cons_succ, List.getElem?_cons_zero, List.getElem?_cons_succ, Bool.not_true, Bool.not_false, decide_true, decide_false, ↓IfS_t, ↓IfS_f, ↓IfE_t, ↓IfE_f, ↓AndT_t, ↓AndT_f, ↓OrT_t, ↓OrT_f, ↓AndV_t, ↓AndV_f, ↓OrV_t, ↓OrV_f, IfS_t, IfS_f, IfE_t, IfE_f, AndT_t, AndT_f, OrT_t, OrT_f, AndV_t, AndV_f, OrV_t, OrV_f, ↓eThen, ↓ePass, ↓eBreak, ↓eCont, ↓eExpr, ↓eRet, ↓eRetN, ↓eIfS, ↓eSet, ↓eOwn, ↓eAsg, ↓eSetIx, ↓eGSetIx, ↓eAug, ↓eIadd, ↓eIaddL, ↓eFrz, ↓eFor, ↓eWhile, ↓eNm, ↓eC, ↓eOp, ↓eB, ↓eTr, ↓eTrB, ↓eTrI, ↓eTrN, ↓eTrT, ↓eTrL, ↓eTrA, ↓eAnd, ↓eOr, ↓eNot, ↓eAndV, ↓eOrV, ↓eNotV, ↓eIf, ↓eNil, ↓eCons, ↓eTup, ↓eOfL, ↓eLstL, ↓eListL, ↓eCatL, ↓eLc, ↓eWipe0, ↓eWipe, ↓eSeq, ↓eRng1, ↓eRng2, ↓eCall, ↓eCB, ↓eNeg, ↓eChain, ↓eAppend, ↓ePop, ↓eNo, ↓eSome, ↓eSl, ↓gSl_t, ↓gSl_l, ↓gSl_a, ↓gAdd_i, ↓gAdd_t, ↓gAdd_s, ↓gAdd_l, ↓gI0_i, ↓gI_i, ↓gMul_i, ↓gMul_t, ↓gEq_, ↓gNe_, ↓gIs_n, ↓gIs_b, ↓gIsNot_n, ↓gIsNot_b, ↓gIn_, ↓gNotIn_, ↓gIx_t, ↓gIx_l, ↓gIx_a, ↓gLen_, ↓gLen_l, ↓gLen_a, ↓gInt_, ↓gInt_b, ↓gTuple_, ↓gTuple_l, ↓gTuple_a, ↓gMax_, ↓gMin_, ↓gIsBool_b, ↓gIsBool_i, seqOf_t, seqOf_l, seqOf_a, lstOf_l, lstOf_a, rsv_i, rsv_b, rsv_s, rsv_n, rsv_t, rsv_l, dle_i, dle_b, dle_n, eqD_i, eqD_b, isNon, bNm_, bTup_, bCons_, bNil_, Option.bind_some, i40, i41, i42, i43, atI0, atI1, atI2, atI3, mset_same, true_and, beq_self_eq_true, Bool.false_eq_true, c0, c1, Int.cast_ofNat_Int, Int.reduceEq, Int.reduceLT, Int.reduceLE, Int.reduceAdd, Int.reduceSub, ↓reduceIte]
      exact hk
    · obtain ⟨w, rfl, hw, hl, hp⟩ := sub_rng hys
      have hw2 : okW L w := fun x hx => by have := hw x hx; omega
      try simp -dsimp only [bodyE, startD, List.map_cons, List.map_nil, List.length_cons, List.length_nil, List.replicate_succ, List.replicate_zero, List.cons_append, List.nil_append, Nat.reduceAdd, Nat.reduceSub, List.set_cons_zero, List.set_cons_succ, List.getElem?_cons_zero, List.getElem?_cons_succ, Bool.not_true, Bool.not_false, decide_true, decide_false, ↓IfS_t, ↓IfS_f, ↓IfE_t, ↓IfE_f, ↓AndT_t, ↓AndT_f, ↓OrT_t, ↓OrT_f, ↓AndV_t, ↓AndV_f, ↓OrV_t, ↓OrV_f, IfS_t, IfS_f, IfE_t, IfE_f, AndT_t, AndT_f, OrT_t, OrT_f, AndV_t, AndV_f, OrV_t, OrV_f, ↓eThen, ↓ePass, ↓eBreak, ↓eCont, ↓eExpr, ↓eRet, ↓eRetN, ↓eIfS, ↓eSet, ↓eOwn, ↓eAsg, ↓eSetIx, ↓eGSetIx, ↓eAug, ↓eIadd, ↓eIaddL, ↓eFrz, ↓eFor, ↓eWhile, ↓eNm, ↓eC, ↓eOp, ↓eB, ↓eTr, ↓eTrB, ↓eTrI, ↓eTrN, ↓eTrT, ↓eTrL, ↓eTrA, ↓eAnd, ↓eOr, ↓eNot, ↓eAndV, ↓eOrV, ↓eNotV, ↓eIf, ↓eNil, ↓eCons, ↓eTup, ↓eOfL, ↓eLstL, ↓eListL, ↓eCatL, ↓eLc, ↓eWipe0, ↓eWipe, ↓eSeq, ↓eRng1, ↓eRng2, ↓eCall, ↓eCB, ↓eNeg, ↓eChain, ↓eAppend, ↓ePop, ↓eNo, ↓eSome, ↓eSl, ↓gSl_t, ↓gSl_l, ↓gSl_a, ↓gAdd_i, ↓gAdd_t, ↓gAdd_s, ↓gAdd_l, ↓gI0_i, ↓gI_i, ↓gMul_i, ↓gMul_t, ↓gEq_, ↓gNe_, ↓gIs_n, ↓gIs_b, ↓gIsNot_n, ↓gIsNot_b, ↓gIn_, ↓gNotIn_, ↓gIx_t, ↓gIx_l, ↓gIx_a, ↓gLen_, ↓gLen_l, ↓gLen_a, ↓gInt_, ↓gInt_b, ↓gTuple_, ↓gTuple_l, ↓gTuple_a, ↓gMax_, ↓gMin_, ↓gIsBool_b, ↓gIsBool_i, seqOf_t, seqOf_l, seqOf_a, lstOf_l, lstOf_a, rsv_i, rsv_b, rsv_s, rsv_n, rsv_t, rsv_l, dle_i, dle_b, dle_n, eqD_i, eqD_b, isNon, bNm_, bTup_, bCons_, bNil_, Option.bind_some, i40, i41, i42, i43, atI0, atI1, atI2, atI3, mset_same, true_and, beq_self_eq_true, Bool.false_eq_true, c0, c1, Int.cast_ofNat_Int, Int.reduceEq, Int.reduceLT, Int.reduceLE, Int.reduceAdd, Int.reduceSub, ↓reduceIte]
      refine IfS_mk (fun h => ?_) fun h => ?_
      · try simp -dsimp only [bodyE, startD, List.map_cons, List.map_nil, List.length_cons, List.length_nil, List.replicate_succ, List.replicate_zero, List.cons_append, List.nil_append, Nat.reduceAdd, Nat.reduceSub, List.set_cons_zero, List.set_cons_succ, List.getElem?_cons_zero, List.getElem?_cons_succ, Bool.not_true, Bool.not_false, decide_true, decide_false, ↓IfS_t, ↓IfS_f, ↓IfE_t, ↓IfE_f, ↓AndT_t, ↓AndT_f, ↓OrT_t, ↓OrT_f, ↓AndV_t, ↓AndV_f, ↓OrV_t, ↓OrV_f, IfS_t, IfS_f, IfE_t, IfE_f, AndT_t, AndT_f, OrT_t, OrT_f, AndV_t, AndV_f, OrV_t, OrV_f, ↓eThen, ↓ePass, ↓eBreak, ↓eCont, ↓eExpr, ↓eRet, ↓eRetN, ↓eIfS, ↓eSet, ↓eOwn, ↓eAsg, ↓eSetIx, ↓eGSetIx, ↓eAug, ↓eIadd, ↓eIaddL, ↓eFrz, ↓eFor, ↓eWhile, ↓eNm, ↓eC, ↓eOp, ↓eB, ↓eTr, ↓eTrB, ↓eTrI, ↓eTrN, ↓eTrT, ↓eTrL, ↓eTrA, ↓eAnd, ↓eOr, ↓eNot, ↓eAndV, ↓eOrV, ↓eNotV, ↓eIf, ↓eNil, ↓eCons, ↓eTup, ↓eOfL, ↓eLstL, ↓eListL, ↓eCatL, ↓eLc, ↓eWipe0, ↓eWipe, ↓eSeq, ↓eRng1, ↓eRng2, ↓eCall, ↓eCB, ↓eNeg, ↓eChain, ↓eAppend, ↓ePop, ↓eNo, ↓eSome, ↓eSl, ↓gSl_t, ↓gSl_l, ↓gSl_a, ↓gAdd_i, ↓gAdd_t, ↓gAdd_s, ↓gAdd_l, ↓gI0_i, ↓gI_i, ↓gMul_i, ↓gMul_t, ↓gEq_, ↓gNe_, ↓gIs_n, ↓gIs_b, ↓gIsNot_n, ↓gIsNot_b, ↓gIn_, ↓gNotIn_, ↓gIx_t, ↓gIx_l, ↓gIx_a, ↓gLen_, ↓gLen_l, ↓gLen_a, ↓gInt_, ↓gInt_b, ↓gTuple_, ↓gTuple_l, ↓gTuple_a, ↓gMax_, ↓gMin_, ↓gIsBool_b, ↓gIsBool_i, seqOf_t, seqOf_l, seqOf_a, lstOf_l, lstOf_a, rsv_i, rsv_b, rsv_s, rsv_n, rsv_t, rsv_l, dle_i, dle_b, dle_n, eqD_i, eqD_b, isNon, bNm_, bTup_, bCons_, bNil_, Option.bind_some, i40, i41, i42, i43, atI0, atI1, atI2, atI3, mset_same, true_and, beq_self_eq_true, Bool.false_eq_true, c0, c1, Int.cast_ofNat_Int, Int.reduceEq, Int.reduceLT, Int.reduceLE, Int.reduceAdd, Int.reduceSub, ↓reduceIte]
        refine draw_call hs.2 (by omega) (by omega) fun M2 j j0 j1 s2 => ?_
        try simp -dsimp only [bodyE, startD, List.map_cons, List.map_nil, List.length_cons, List.length_nil, List.replicate_succ, List.replicate_zero, List.cons_append, List.nil_append, Nat.reduceAdd, Nat.reduceSub, List.set_cons_zero, List.set_cons_succ, List.getElem?_cons_zero, List.getElem?_cons_succ, Bool.not_true, Bool.not_false, decide_true, decide_false, ↓IfS_t, ↓IfS_f, ↓IfE_t, ↓IfE_f, ↓AndT_t, ↓AndT_f, ↓OrT_t, ↓OrT_f, ↓AndV_t, ↓AndV_f, ↓OrV_t, ↓OrV_f, IfS_t, IfS_f, IfE_t, IfE_f, AndT_t, AndT_f, OrT_t, OrT_f, AndV_t, AndV_f, OrV_t, OrV_f, ↓eThen, ↓ePass, ↓eBreak, ↓eCont, ↓eExpr, ↓eRet, ↓eRetN, ↓eIfS, ↓eSet, ↓eOwn, ↓eAsg, ↓eSetIx, ↓eGSetIx, ↓eAug, ↓eIadd, ↓eIaddL, ↓eFrz, ↓eFor, ↓eWhile, ↓eNm, ↓eC, ↓eOp, ↓eB, ↓eTr, ↓eTrB, ↓eTrI, ↓eTrN, ↓eTrT, ↓eTrL, ↓eTrA, ↓eAnd, ↓eOr, ↓eNot, ↓eAndV, ↓eOrV, ↓eNotV, ↓eIf, ↓eNil, ↓eCons, ↓eTup, ↓eOfL, ↓eLstL, ↓eListL, ↓eCatL, ↓eLc, ↓eWipe0, ↓eWipe, ↓eSeq, ↓eRng1, ↓eRng2, ↓eCall, ↓eCB, ↓eNeg, ↓eChain, ↓eAppend, ↓ePop, ↓eNo, ↓eSome, ↓eSl, ↓gSl_t, ↓gSl_l, ↓gSl_a, ↓gAdd_i, ↓gAdd_t, ↓gAdd_s, ↓gAdd_l, ↓gI0_i, ↓gI_i, ↓gMul_i, ↓gMul_t, ↓gEq_, ↓gNe_, ↓gIs_n, ↓gIs_b, ↓gIsNot_n, ↓gIsNot_b, ↓gIn_, ↓gNotIn_, ↓gIx_t, ↓gIx_l, ↓gIx_a, ↓gLen_, ↓gLen_l, ↓gLen_a, ↓gInt_, ↓gInt_b, ↓gTuple_, ↓gTuple_l, ↓gTuple_a, ↓gMax_, ↓gMin_, ↓gIsBool_b, ↓gIsBool_i, seqOf_t, seqOf_l, seqOf_a, lstOf_l, lstOf_a, rsv_i, rsv_b, rsv_s, rsv_n, rsv_t, rsv_l, dle_i, dle_b, dle_n, eqD_i, eqD_b, isNon, bNm_, bTup_, bCons_, bNil_, Option.bind_some, i40, i41, i42, i43, atI0, atI1, atI2, atI3, mset_same, true_and, beq_self_eq_true, Bool.false_eq_true, c0, c1, Int.cast_ofNat_Int, Int.reduceEq, Int.reduceLT, Int.reduceLE, Int.reduceAdd, Int.reduceSub, ↓reduceIte]
        refine ⟨by decide, by decide, post2 (.any [j]) _ ⟨by simp, fun x hx => ?_, ?_, by simp⟩ ((s1.trans hs).trans s2)⟩
        · rw [List.mem_singleton.mp hx]; exact ⟨j0, j1⟩
        · simp; omega
      · have hne := of_decide_eq_false h
        try simp -dsimp only [bodyE, startD, List.map_cons, List.map_nil, List.length_cons, List.length_nil, List.replicate_succ, List.replicate_zero, List.cons_append, List.nil_append, Nat.reduceAdd, Nat.reduceSub, List.set_cons_zero, List.set_cons_succ, List.getElem?_cons_zero, List.getElem?_cons_succ, Bool.not_true, Bool.not_false, decide_true, decide_false, ↓IfS_t, ↓IfS_f, ↓IfE_t, ↓IfE_f, ↓AndT_t, ↓AndT_f, ↓OrT_t, ↓OrT_f, ↓AndV_t, ↓AndV_f, ↓OrV_t, ↓OrV_f, IfS_t, IfS_f, IfE_t, IfE_f, AndT_t, AndT_f, OrT_t, OrT_f, AndV_t, AndV_f, OrV_t, OrV_f, ↓eThen, ↓ePass, ↓eBreak, ↓eCont, ↓eExpr, ↓eRet, ↓eRetN, ↓eIfS, ↓eSet, ↓eOwn, ↓eAsg, ↓eSetIx, ↓eGSetIx, ↓eAug, ↓eIadd, ↓eIaddL, ↓eFrz, ↓eFor, ↓eWhile, ↓eNm, ↓eC, ↓eOp, ↓eB, ↓eTr, ↓eTrB, ↓eTrI, ↓eTrN, ↓eTrT, ↓eTrL, ↓eTrA, ↓eAnd, ↓eOr, ↓eNot, ↓eAndV, ↓eOrV, ↓eNotV, ↓eIf, ↓eNil, ↓eCons, ↓eTup, ↓eOfL, ↓eLstL, ↓eListL, ↓eCatL, ↓eLc, ↓eWipe0, ↓eWipe, ↓eSeq, ↓eRng1, ↓eRng2, ↓eCall, ↓eCB, ↓eNeg, ↓eChain, ↓eAppend, ↓ePop, ↓eNo, ↓eSome, ↓eSl, ↓gSl_t, ↓gSl_l, ↓gSl_a, ↓gAdd_i, ↓gAdd_t, ↓gAdd_s, ↓gAdd_l, ↓gI0_i, ↓gI_i, ↓gMul_i, ↓gMul_t, ↓gEq_, ↓gNe_, ↓gIs_n, ↓gIs_b, ↓gIsNot_n, ↓gIsNot_b, ↓gIn_, ↓gNotIn_, ↓gIx_t, ↓gIx_l, ↓gIx_a, ↓gLen_, ↓gLen_l, ↓gLen_a, ↓gInt_, ↓gInt_b, ↓gTuple_, ↓gTuple_l, ↓gTuple_a, ↓gMax_, ↓gMin_, ↓gIsBool_b, ↓gIsBool_i, seqOf_t, seqOf_l, seqOf_a, lstOf_l, lstOf_a, rsv_i, rsv_b, rsv_s, rsv_n, rsv_t, rsv_l, dle_i, dle_b, dle_n, eqD_i, eqD_b, isNon, bNm_, bTup_, bCons_, bNil_, Option.bind_some, i40, i41, i42, i43, atI0, atI1, atI2, atI3, mset_same, true_and, beq_self_eq_true, Bool.false_eq_true, c0, c1, Int.cast_ofNat_Int, Int.reduceEq, Int.reduceLT, Int.reduceLE, Int.reduceAdd, Int.reduceSub, ↓reduceIte]
        refine ⟨by decide, post2 (.any w) _ ⟨fun e => hne ?_, hw2, by omega, hp⟩ (s1.trans hs)⟩
        subst e; rfl
theorem b_lpattern (ds : List D) (M : Mu) (Q : D → Mu → Prop) (xw : XW) (h : S_lpattern ds M Q xw) : bodyE N_lpattern (f_lpattern S_ldraw S_latom) ds M Q xw := by
  obtain ⟨a, rest, rfl, ⟨L, m, rfl, L0, L1, m0, m1⟩, st, post⟩ := h
  have post2 : ∀ (p : List Atom) M', (p.length : Int) ≤ m → (∀ A ∈ p, okA L A) → Stp a M M' → Q (pD p) (mres M' M) := fun w M' h1 h2 h3 => post _ _ ⟨L, m, w, rfl, rfl, h1, h2⟩ (h3.res st)
  simp only [bodyE, startD, N_lpattern, List.map_cons, List.map_nil, List.length_cons, List.length_nil, List.replicate_succ, List.replicate_zero, List.cons_append, List.nil_append, Nat.reduceAdd, Nat.reduceSub]
  unfold f_lpattern
  try simp -dsimp only [bodyE, startD, List.map_cons, List.map_nil, List.length_cons, List.length_nil, List.replicate_succ, List.replicate_zero, List.cons_append, List.nil_append, Nat.reduceAdd, Nat.reduceSub, List.set_cons_zero, List.set_cons_succ, List.getElem?_cons_zero, List.getElem?_cons_succ, Bool.not_true, Bool.not_false, decide_true, decide_false, ↓IfS_t, ↓IfS_f, ↓IfE_t, ↓IfE_f, ↓AndT_t, ↓AndT_f, ↓OrT_t, ↓OrT_f, ↓AndV_t, ↓AndV_f, ↓OrV_t, ↓OrV_f, IfS_t, IfS_f, IfE_t, IfE_f, AndT_t, AndT_f, OrT_t, OrT_f, AndV_t, AndV_f, OrV_t, OrV_f, ↓eThen, ↓ePass, ↓eBreak, ↓eCont, ↓eExpr, ↓eRet, ↓eRetN, ↓eIfS, ↓eSet, ↓eOwn, ↓eAsg, ↓eSetIx, ↓eGSetIx, ↓eAug, ↓eIadd, ↓eIaddL, ↓eFrz, ↓eFor, ↓eWhile, ↓eNm, ↓eC, ↓eOp, ↓eB, ↓eTr, ↓eTrB, ↓eTrI, ↓eTrN, ↓eTrT, ↓eTrL, ↓eTrA, ↓eAnd, ↓eOr, ↓eNot, ↓eAndV, ↓eOrV, ↓eNotV, ↓eIf, ↓eNil, ↓eCons, ↓eTup, ↓eOfL, ↓eLstL, ↓eListL, ↓eCatL, ↓eLc, ↓eWipe0, ↓eWipe, ↓eSeq, ↓eRng1, ↓eRng2, ↓eCall, ↓eCB, ↓eNeg, ↓eChain, ↓eAppend, ↓ePop, ↓eNo, ↓eSome, ↓eSl, ↓gSl_t, ↓gSl_l, ↓gSl_a, ↓gAdd_i, ↓gAdd_t, ↓gAdd_s, ↓gAdd_l, ↓gI0_i, ↓gI_i, ↓gMul_i, ↓gMul_t, ↓gEq_, ↓gNe_, ↓gIs_n, ↓gIs_b, ↓gIsNot_n, ↓gIsNot_b, ↓gIn_, ↓gNotIn_, ↓gIx_t, ↓gIx_l, ↓gIx_a, ↓gLen_, ↓gLen_l, ↓gLen_a, ↓gInt_, ↓gInt_b, ↓gTuple_, ↓gTuple_l, ↓gTuple_a, ↓gMax_, ↓gMin_, ↓gIsBool_b, ↓gIsBool_i, seqOf_t, seqOf_l, seqOf_a, lstOf_l, lstOf_a, rsv_i, rsv_b, rsv_s, rsv_n, rsv_t, rsv_l, dle_i, dle_b, dle_n, eqD_i, eqD_b, isNon, bNm_, bTup_, bCons_, bNil_, Option.bind_some, i40, i41, i42, i43, atI0, atI1, atI2, atI3, mset_same, true_and, beq_self_eq_true, Bool.false_eq_true, c0, c1, Int.cast_ofNat_Int, Int.reduceEq, Int.reduceLT, Int.reduceLE, Int.reduceAdd, Int.reduceSub, ↓reduceIte]
  refine IfS_mk (fun h => ?_) fun h => ?_
  · try simp -dsimp only [bodyE, startD, List.map_cons, List.map_nil, List.length_cons, List.length_nil, List.replicate_succ, List.replicate_zero, List.cons_append, List.nil_append, Nat.reduceAdd, Nat.reduceSub, List.set_cons_zero, List.set_cons_succ, List.getElem?_cons_zero, List.getElem?_cons_succ, Bool.not_true, Bool.not_false, decide_true, decide_false, ↓IfS_t, ↓IfS_f, ↓IfE_t, ↓IfE_f, ↓AndT_t, ↓AndT_f, ↓OrT_t, ↓OrT_f, ↓AndV_t, ↓AndV_f, ↓OrV_t, ↓OrV_f, IfS_t, IfS_f, IfE_t, IfE_f, AndT_t, AndT_f, OrT_t, OrT_f, AndV_t, AndV_f, OrV_t, OrV_f, ↓eThen, ↓ePass, ↓eBreak, ↓eCont, ↓eExpr, ↓eRet, ↓eRetN, ↓eIfS, ↓eSet, ↓eOwn, ↓eAsg, ↓eSetIx, ↓eGSetIx, ↓eAug, ↓eIadd, ↓eIaddL, ↓eFrz, ↓eFor, ↓eWhile, ↓eNm, ↓eC, ↓eOp, ↓eB, ↓eTr, ↓eTrB, ↓eTrI, ↓eTrN, ↓eTrT, ↓eTrL, ↓eTrA, ↓eAnd, ↓eOr, ↓eNot, ↓eAndV, ↓eOrV, ↓eNotV, ↓eIf, ↓eNil, ↓eCons, ↓eTup, ↓eOfL, ↓eLstL, ↓eListL, ↓eCatL, ↓eLc, ↓eWipe0, ↓eWipe, ↓eSeq, ↓eRng1, ↓eRng2, ↓eCall, ↓eCB, ↓eNeg, ↓eChain, ↓eAppend, ↓ePop, ↓eNo, ↓eSome, ↓eSl, ↓gSl_t, ↓gSl_l, ↓gSl_a, ↓gAdd_i, ↓gAdd_t, ↓gAdd_s, ↓gAdd_l, ↓gI0_i, ↓gI_i, ↓gMul_i, ↓gMul_t, ↓gEq_, ↓gNe_, ↓gIs_n, ↓gIs_b, ↓gIsNot_n, ↓gIsNot_b, ↓gIn_, ↓gNotIn_, ↓gIx_t, ↓gIx_l, ↓gIx_a, ↓gLen_, ↓gLen_l, ↓gLen_a, ↓gInt_, ↓gInt_b, ↓gTuple_, ↓gTuple_l, ↓gTuple_a, ↓gMax_, ↓gMin_, ↓gIsBool_b, ↓gIsBool_i, seqOf_t, seqOf_l, seqOf_a, lstOf_l, lstOf_a, rsv_i, rsv_b, rsv_s, rsv_n, rsv_t, rsv_l, dle_i, dle_b, dle_n, eqD_i, eqD_b, isNon, bNm_, bTup_, bCons_, bNil_, Option.bind_some, i40, i41, i42, i43, atI0, atI1, atI2, atI3, mset_same, true_and, beq_self_eq_true, Bool.false_eq_true, c0, c1, Int.cast_ofNat_Int, Int.reduceEq, Int.reduceLT, Int.reduceLE, Int.reduceAdd, Int.reduceSub, ↓reduceIte]
    exact ⟨by decide, post2 [] M (by simpa using m0) (fun _ h => (nomatch h)) (.refl st)⟩
  · have hL : L ≠ 0 := of_decide_eq_false h
    try simp -dsimp only [bodyE, startD, List.map_cons, List.map_nil, List.length_cons, List.length_nil, List.replicate_succ, List.replicate_zero, List.cons_append, List.nil_append, Nat.reduceAdd, Nat.reduceSub, List.set_cons_zero, List.set_cons_succ, List.getElem?_cons_zero, List.getElem?_cons_succ, Bool.not_true, Bool.not_false, decide_true, decide_false, ↓IfS_t, ↓IfS_f, ↓IfE_t, ↓IfE_f, ↓AndT_t, ↓AndT_f, ↓OrT_t, ↓OrT_f, ↓AndV_t, ↓AndV_f, ↓OrV_t, ↓OrV_f, IfS_t, IfS_f, IfE_t, IfE_f, AndT_t, AndT_f, OrT_t, OrT_f, AndV_t, AndV_f, OrV_t, OrV_f, ↓eThen, ↓ePass, ↓eBreak, ↓eCont, ↓eExpr, ↓eRet, ↓eRetN, ↓eIfS, ↓eSet, ↓eOwn, ↓eAsg, ↓eSetIx, ↓eGSetIx, ↓eAug, ↓eIadd, ↓eIaddL, ↓eFrz, ↓eFor, ↓eWhile, ↓eNm, ↓eC, ↓eOp, ↓eB, ↓eTr, ↓eTrB, ↓eTrI, ↓eTrN, ↓eTrT, ↓eTrL, ↓eTrA, ↓eAnd, ↓eOr, ↓eNot, ↓eAndV, ↓eOrV, ↓eNotV, ↓eIf, ↓eNil, ↓eCons, ↓eTup, ↓eOfL, ↓eLstL, ↓eListL, ↓eCatL, ↓eLc, ↓eWipe0, ↓eWipe, ↓eSeq, ↓eRng1, ↓eRng2, ↓eCall, ↓eCB, ↓eNeg, ↓eChain, ↓eAppend, ↓ePop, ↓eNo, ↓eSome, ↓eSl, ↓gSl_t, ↓gSl_l, ↓gSl_a, ↓gAdd_i, ↓gAdd_t, ↓gAdd_s, ↓gAdd_l, ↓gI0_i, ↓gI_i, ↓gMul_i, ↓gMul_t, ↓gEq_, ↓gNe_, ↓gIs_n, ↓gIs_b, ↓gIsNot_n, ↓gIsNot_b, ↓gIn_, ↓gNotIn_, ↓gIx_t, ↓gIx_l, ↓gIx_a, ↓gLen_, ↓gLen_l, ↓gLen_a, ↓gInt_, ↓gInt_b, ↓gTuple_, ↓gTuple_l, ↓gTuple_a, ↓gMax_, ↓gMin_, ↓gIsBool_b, ↓gIsBool_i, seqOf_t, seqOf_l, seqOf_a, lstOf_l, lstOf_a, rsv_i, rsv_b, rsv_s, rsv_n, rsv_t, rsv_l, dle_i, dle_b, dle_n, eqD_i, eqD_b, isNon, bNm_, bTup_, bCons_, bNil_, Option.bind_some, i40, i41, i42, i43, atI0, atI1, atI2, atI3, mset_same, true_and, beq_self_eq_true, Bool.false_eq_true, c0, c1, Int.cast_ofNat_Int, Int.reduceEq, Int.reduceLT, Int.reduceLE, Int.reduceAdd, Int.reduceSub, ↓reduceIte]
    refine draw_call st (by omega) (by omega) fun M1 i i0 i1 s1 => ?_
    try simp -dsimp only [bodyE, startD, List.map_cons, List.map_nil, List.length_cons, List.length_nil, List.replicate_succ, List.replicate_zero, List.cons_append, List.nil_append, Nat.reduceAdd, Nat.reduceSub, List.set_cons_zero, List.set_cons_succ, List.getElem?_cons_zero, List.getElem?_cons_succ, Bool.not_true, Bool.not_false, decide_true, decide_false, ↓IfS_t, ↓IfS_f, ↓IfE_t, ↓IfE_f, ↓AndT_t, ↓AndT_f, ↓OrT_t, ↓OrT_f, ↓AndV_t, ↓AndV_f, ↓OrV_t, ↓OrV_f, IfS_t, IfS_f, IfE_t, IfE_f, AndT_t, AndT_f, OrT_t, OrT_f, AndV_t, AndV_f, OrV_t, OrV_f, ↓eThen, ↓ePass, ↓eBreak, ↓eCont, ↓eExpr, ↓eRet, ↓eRetN, ↓eIfS, ↓eSet, ↓eOwn, ↓eAsg, ↓eSetIx, ↓eGSetIx, ↓eAug, ↓eIadd, ↓eIaddL, ↓eFrz, ↓eFor, ↓eWhile, ↓eNm, ↓eC, ↓eOp, ↓eB, ↓eTr, ↓eTrB, ↓eTrI, ↓eTrN, ↓eTrT, ↓eTrL, ↓eTrA, ↓eAnd, ↓eOr, ↓eNot, ↓eAndV, ↓eOrV, ↓eNotV, ↓eIf, ↓eNil, ↓eCons, ↓eTup, ↓eOfL, ↓eLstL, ↓eListL, ↓eCatL, ↓eLc, ↓eWipe0, ↓eWipe, ↓eSeq, ↓eRng1, ↓eRng2, ↓eCall, ↓eCB, ↓eNeg, ↓eChain, ↓eAppend, ↓ePop, ↓eNo, ↓eSome, ↓eSl, ↓gSl_t, ↓gSl_l, ↓gSl_a, ↓gAdd_i, ↓gAdd_t, ↓gAdd_s, ↓gAdd_l, ↓gI0_i, ↓gI_i, ↓gMul_i, ↓gMul_t, ↓gEq_, ↓gNe_, ↓gIs_n, ↓gIs_b, ↓gIsNot_n, ↓gIsNot_b, ↓gIn_, ↓gNotIn_, ↓gIx_t, ↓gIx_l, ↓gIx_a, ↓gLen_, ↓gLen_l, ↓gLen_a, ↓gInt_, ↓gInt_b, ↓gTuple_, ↓gTuple_l, ↓gTuple_a, ↓gMax_, ↓gMin_, ↓gIsBool_b, ↓gIsBool_i, seqOf_t, seqOf_l, seqOf_a, lstOf_l, lstOf_a, rsv_i, rsv_b, rsv_s, rsv_n, rsv_t, rsv_l, dle_i, dle_b, dle_n, eqD_i, eqD_b, isNon, bNm_, bTup_, bCons_, bNil_, Option.bind_some, i40, i41, i42, i43, atI0, atI1, atI2, atI3, mset_same, true_and, beq_self_eq_true, Bool.false_eq_true, c0, c1, Int.cast_ofNat_Int, Int.reduceEq, Int.reduceLT, Int.reduceLE, Int.reduceAdd, Int.reduceSub, ↓reduceIte]
    refine ⟨by omega, ?_⟩
    refine lc_gen (fun y => ∃ A : Atom, y = atD A ∧ okA L A) s1.2 (by rw [rngD_length]; have : sizeLine = 16777216 := rfl; omega) (fun d M' k _ hs hk => ?_) fun ys M' hl hy hs => ?_
    · try simp -dsimp only [bodyE, startD, List.map_cons, List.map_nil, List.length_cons, List.length_nil, List.replicate_succ, List.replicate_zero, List.cons_append, List.nil_append, Nat.reduceAdd, Nat.reduceSub, List.set_cons_zero, List.set_cons_succ, List.getElem?_cons_zero, List.getElem?_cons_succ, Bool.not_true, Bool.not_false, decide_true, decide_false, ↓IfS_t, ↓IfS_f, ↓IfE_t, ↓IfE_f, ↓AndT_t, ↓AndT_f, ↓OrT_t, ↓OrT_f, ↓AndV_t, ↓AndV_f, ↓OrV_t, ↓OrV_f, IfS_t, IfS_f, IfE_t, IfE_f, AndT_t, AndT_f, OrT_t, OrT_f, AndV_t, AndV_f, OrV_t, OrV_f, ↓eThen, ↓ePass, ↓eBreak, ↓eCont, ↓eExpr, ↓eRet, ↓eRetN, ↓eIfS, ↓eSet, ↓eOwn, ↓eAsg, ↓eSetIx, ↓eGSetIx, ↓eAug, ↓eIadd, ↓eIaddL, ↓eFrz, ↓eFor, ↓eWhile, ↓eNm, ↓eC, ↓eOp, ↓eB, ↓eTr, ↓eTrB, ↓eTrI, ↓eTrN, ↓eTrT, ↓eTrL, ↓eTrA, ↓eAnd, ↓eOr, ↓eNot, ↓eAndV, ↓eOrV, ↓eNotV, ↓eIf, ↓eNil, ↓eCons, ↓eTup, ↓eOfL, ↓eLstL, ↓eListL, ↓eCatL, ↓eLc, ↓eWipe0, ↓eWipe, ↓eSeq, ↓eRng1, ↓eRng2, ↓eCall, ↓eCB, ↓eNeg, ↓eChain, ↓eAppend, ↓ePop, ↓eNo, ↓eSome, ↓eSl, ↓gSl_t, ↓gSl_l, ↓gSl_a, ↓gAdd_i, ↓gAdd_t, ↓gAdd_s, ↓gAdd_l, ↓gI0_i, ↓gI_i, ↓gMul_i, ↓gMul_t, ↓gEq_, ↓gNe_, ↓gIs_n, ↓gIs_b, ↓gIsNot_n, ↓gIsNot_b, ↓gIn_, ↓gNotIn_, ↓gIx_t, ↓gIx_l, ↓gIx_a, ↓gLen_, ↓gLen_l, ↓gLen_a, ↓gInt_, ↓gInt_b, ↓gTuple_, ↓gTuple_l, ↓gTuple_a, ↓gMax_, ↓gMin_, ↓gIsBool_b, ↓gIsBool_i, seqOf_t, seqOf_l, seqOf_a, lstOf_l, lstOf_a, rsv_i, rsv_b, rsv_s, rsv_n, rsv_t, rsv_l, dle_i, dle_b, dle_n, eqD_i, eqD_b, isNon, bNm_, bTup_, bCons_, bNil_, Option.bind_some, i40, i41, i42, i43, atI0, atI1, atI2, atI3, mset_same, true_and, beq_self_eq_true, Bool.false_eq_true, c0, c1, Int.cast_ofNat_Int, Int.reduceEq, Int.reduceLT, Int.reduceLE, Int.reduceAdd, Int.reduceSub, ↓reduceIte]
      refine drw_call hs.2 ⟨L, rfl, by omega, by omega⟩ fun M2 d' hd s2 => ?_
      obtain ⟨L', A, e, rfl, hA⟩ := hd
      cases e
      exact hk _ _ ⟨A, rfl, hA⟩ (hs.trans s2)
    · obtain ⟨p, rfl, hw⟩ := enc_of ys hy
      rw [rngD_length, List.length_map] at hl
      try simp -dsimp only [bodyE, startD, List.map_cons, List.map_nil, List.length_cons, List.length_nil, List.replicate_succ, List.replicate_zero, List.cons_append, List.nil_append, Nat.reduceAdd, Nat.reduceSub, List.set_cons_zero, List.set_cons_succ, List.getElem?_cons_zero, List.getElem?_cons_succ, Bool.not_true, Bool.not_false, decide_true, decide_false, ↓IfS_t, ↓IfS_f, ↓IfE_t, ↓IfE_f, ↓AndT_t, ↓AndT_f, ↓OrT_t, ↓OrT_f, ↓AndV_t, ↓AndV_f, ↓OrV_t, ↓OrV_f, IfS_t, IfS_f, IfE_t, IfE_f, AndT_t, AndT_f, OrT_t, OrT_f, AndV_t, AndV_f, OrV_t, OrV_f, ↓eThen, ↓ePass, ↓eBreak, ↓eCont, ↓eExpr, ↓eRet, ↓eRetN, ↓eIfS, ↓eSet, ↓eOwn, ↓eAsg, ↓eSetIx, ↓eGSetIx, ↓eAug, ↓eIadd, ↓eIaddL, ↓eFrz, ↓eFor, ↓eWhile, ↓eNm, ↓eC, ↓eOp, ↓eB, ↓eTr, ↓eTrB, ↓eTrI, ↓eTrN, ↓eTrT, ↓eTrL, ↓eTrA, ↓eAnd, ↓eOr, ↓eNot, ↓eAndV, ↓eOrV, ↓eNotV, ↓eIf, ↓eNil, ↓eCons, ↓eTup, ↓eOfL, ↓eLstL, ↓eListL, ↓eCatL, ↓eLc, ↓eWipe0, ↓eWipe, ↓eSeq, ↓eRng1, ↓eRng2, ↓eCall, ↓eCB, ↓eNeg, ↓eChain, ↓eAppend, ↓ePop, ↓eNo, ↓eSome, ↓eSl, ↓gSl_t, ↓gSl_l, ↓gSl_a, ↓gAdd_i, ↓gAdd_t, ↓gAdd_s, ↓gAdd_l, ↓gI0_i, ↓gI_i, ↓gMul_i, ↓gMul_t, ↓gEq_, ↓gNe_, ↓gIs_n, ↓gIs_b, ↓gIsNot_n, ↓gIsNot_b, ↓gIn_, ↓gNotIn_, ↓gIx_t, ↓gIx_l, ↓gIx_a, ↓gLen_, ↓gLen_l, ↓gLen_a, ↓gInt_, ↓gInt_b, ↓gTuple_, ↓gTuple_l, ↓gTuple_a, ↓gMax_, ↓gMin_, ↓gIsBool_b, ↓gIsBool_i, seqOf_t, seqOf_l, seqOf_a, lstOf_l, lstOf_a, rsv_i, rsv_b, rsv_s, rsv_n, rsv_t, rsv_l, dle_i, dle_b, dle_n, eqD_i, eqD_b, isNon, bNm_, bTup_, bCons_, bNil_, Option.bind_some, i40, i41, i42, i43, atI0, atI1, atI2, atI3, mset_same, true_and, beq_self_eq_true, Bool.false_eq_true, c0, c1, Int.cast_ofNat_Int, Int.reduceEq, Int.reduceLT, Int.reduceLE, Int.reduceAdd, Int.reduceSub, ↓reduceIte]
      exact post2 p M' (by omega) hw (s1.trans hs)
end U

set_option Elab.async false
set_option linter.all false
set_option maxRecDepth 100000
set_option maxHeartbeats 1000000
/-! V4: words of a pattern. -/
namespace U
open PySem PySem.Spec PyProof.Rows L2

/-! ### plain -/
def Fits : List Atom → List Int → Bool
  | _, [] => true
  | [], _ :: _ => false
  | .one a :: p, x :: w => if x = a then Fits p w || Fits p (x :: w) else Fits p (x :: w)
  | .any s :: p, x :: w => if x ∈ s then Fits (.any s :: p) w else Fits p (x :: w)
termination_by p w => p.length + w.length
theorem fits_nil (p : List Atom) : Fits p [] = true := by unfold Fits; cases p <;> rfl
theorem fits_none (x : Int) (w : List Int) : Fits [] (x :: w) = false := by unfold Fits; rfl
theorem fits_one (a : Int) (p : List Atom) (x : Int) (w : List Int) : Fits (.one a :: p) (x :: w) = if x = a then Fits p w || Fits p (x :: w) else Fits p (x :: w) := by rw [Fits]
theorem fits_any (s : List Int) (p : List Atom) (x : Int) (w : List Int) : Fits (.any s :: p) (x :: w) = if x ∈ s then Fits (.any s :: p) w else Fits p (x :: w) := by rw [Fits]
def Clo (p : List Atom) : Prop := ∀ w v : List Int, v.Sublist w → Fits p w = true → Fits p v = true
theorem fits_weak {p : List Atom} (h : Clo p) (A : Atom) : ∀ w : List Int, Fits p w = true → Fits (A :: p) w = true
  | [], _ => fits_nil _
  | x :: w, k => by
    cases A with
    | one a =>
      rw [fits_one]
      split
      · rw [k, Bool.or_true]
      · exact k
    | any s =>
      rw [fits_any]
      split
      · exact fits_weak h (.any s) w (h _ _ (List.sublist_cons_self x w) k)
      · exact k
theorem fits_cons_clo {p : List Atom} (h : Clo p) (A : Atom) : Clo (A :: p) := by
  intro w
  induction w with
  | nil =>
    intro v hv _
    rw [List.sublist_nil.mp hv]
    exact fits_nil _
  | cons x w ih =>
    intro v hv k
    cases v with
    | nil => exact fits_nil _
    | cons y v =>
      cases A with
      | one a =>
        rw [fits_one] at k
        by_cases e : x = a
        · rw [if_pos e, Bool.or_eq_true] at k
          rcases k with k | k
          · cases hv with
            | cons _ hv => exact fits_weak h _ _ (h _ _ hv k)
            | cons_cons _ hv => rw [fits_one, if_pos e, h _ _ hv k, Bool.true_or]
          · exact fits_weak h _ _ (h _ _ hv k)
        · rw [if_neg e] at k
          exact fits_weak h _ _ (h _ _ hv k)
      | any s =>
        rw [fits_any] at k
        by_cases e : x ∈ s
        · rw [if_pos e] at k
          cases hv with
          | cons _ hv => exact ih _ hv k
          | cons_cons _ hv => rw [fits_any, if_pos e]; exact ih _ hv k
        · rw [if_neg e] at k
          exact fits_weak h _ _ (h _ _ hv k)
theorem fits_clo : ∀ p : List Atom, Clo p
  | [] => fun w v hv k => by
    cases w with
    | nil => rw [List.sublist_nil.mp hv]; exact fits_nil _
    | cons x w => rw [fits_none] at k; cases k
  | A :: p => fits_cons_clo (fits_clo p) A
theorem fits_hit {a : Int} {p : List Atom} {w : List Int} : Fits (.one a :: p) (a :: w) = Fits p w := by
  rw [fits_one, if_pos rfl]
  cases h : Fits p w with
  | true => rfl
  | false =>
    cases k : Fits p (a :: w) with
    | false => rfl
    | true => rw [fits_clo p _ _ (List.sublist_cons_self a w) k] at h; cases h
theorem fits_miss {a x : Int} {p : List Atom} {w : List Int} (h : x ≠ a) : Fits (.one a :: p) (x :: w) = Fits p (x :: w) := by rw [fits_one, if_neg h]

/-! ### lookups by place -/
theorem wD_at {w : List Int} {i : Int} (h0 : 0 ≤ i) (h1 : i < w.length) : ∃ x v, w.drop i.toNat = x :: v ∧ v = w.drop (i + 1).toNat ∧ atI (w.map D.int) i = some (.int x) := by
  have hl : i.toNat < w.length := by omega
  refine ⟨w[i.toNat], w.drop (i.toNat + 1), List.drop_eq_getElem_cons hl, by congr 1; omega, ?_⟩
  rw [atI_nat h0 (by rw [List.length_map]; exact h1), List.getElem?_map, List.getElem?_eq_getElem hl]
  rfl
theorem any_int (s : List Int) (x : Int) : ((s.map D.int).any fun y => eqD y (.int x)) = decide (x ∈ s) := by
  induction s with
  | nil => simp
  | cons y s ih =>
    rw [List.map_cons, List.any_cons, ih, eqD_i]
    by_cases e : y = x
    · subst e; simp
    · have : ¬ x = y := fun z => e z.symm
      simp [e, this]
theorem all_int (s : List Int) (n : Nat) : (s.map D.int).all (dle n) = true := by
  induction s with
  | nil => rfl
  | cons y s ih => rw [List.map_cons, List.all_cons, ih, dle_i]; rfl
theorem dle_str {n : Nat} {x : Str} (h : PyData.strOk x = true) : dle n (.str x) = true := by cases n <;> exact h
theorem k_any : PyData.strOk ("any" : Str) = true := by decide +kernel
theorem k_some : PyData.strOk ("some" : Str) = true := by decide +kernel
theorem any_ne_some : decide (("some" : Str) = ("any" : Str)) = false := by decide +kernel
theorem some_ne_any : decide (("any" : Str) = ("some" : Str)) = false := by decide +kernel
def isAny : Atom → Bool
  | .one _ => false
  | .any _ => true

def N_is_full : List Str := ["atom"]
def f_is_full : FS := fRet (fOp gEq (fOp gIx (fNm 0) (fC (.int 0))) (fC (.str "any")))
def N_fits : List Str := ["pattern", "word", "position", "atom"]
def f_fits (S_is_full : FSpec) : FS := fThen (fSet 2 (fC (.int 0))) (fThen (fFor (fSeq (fNm 0)) (bNm 3) (fIfS (fTr (fCall S_is_full (fCons (fNm 3) fNil))) (fWhile (fAnd (fB (fOp gLt (fNm 2) (fCB gLen (fCons (fNm 1) fNil)))) (fB (fOp gIn (fOp gIx (fNm 1) (fNm 2)) (fOp gIx (fNm 3) (fC (.int 1)))))) (fAug 2 gIadd (fC (.int 1)))) (fIfS (fAnd (fB (fOp gLt (fNm 2) (fCB gLen (fCons (fNm 1) fNil)))) (fB (fOp gEq (fOp gIx (fNm 1) (fNm 2)) (fOp gIx (fNm 3) (fC (.int 1)))))) (fAug 2 gIadd (fC (.int 1))) fPass))) (fRet (fOp gEq (fNm 2) (fCB gLen (fCons (fNm 1) fNil)))))
def N_lfits : List Str := ["_law_pattern_here", "_law_word_here"]
def f_lfits (S_lfits : FSpec) : FS := fThen (fIfS (fB (fOp gEq (fCB gLen (fCons (fNm 1) fNil)) (fC (.int 0)))) (fRet (fC (.bl true))) fPass) (fThen (fIfS (fB (fOp gEq (fCB gLen (fCons (fNm 0) fNil)) (fC (.int 0)))) (fRet (fC (.bl false))) fPass) (fThen (fIfS (fB (fOp gEq (fOp gIx (fOp gIx (fNm 0) (fC (.int 0))) (fC (.int 0))) (fC (.str "some")))) (fThen (fIfS (fAnd (fB (fOp gEq (fOp gIx (fNm 1) (fC (.int 0))) (fOp gIx (fOp gIx (fNm 0) (fC (.int 0))) (fC (.int 1))))) (fTr (fCall S_lfits (fCons (fSl' (fNm 0) (fSome (fC (.int 1))) fNo) (fCons (fSl' (fNm 1) (fSome (fC (.int 1))) fNo) fNil))))) (fRet (fC (.bl true))) fPass) (fRet (fCall S_lfits (fCons (fSl' (fNm 0) (fSome (fC (.int 1))) fNo) (fCons (fNm 1) fNil))))) fPass) (fThen (fIfS (fB (fOp gIn (fOp gIx (fNm 1) (fC (.int 0))) (fOp gIx (fOp gIx (fNm 0) (fC (.int 0))) (fC (.int 1))))) (fRet (fCall S_lfits (fCons (fNm 0) (fCons (fSl' (fNm 1) (fSome (fC (.int 1))) fNo) fNil)))) fPass) (fRet (fCall S_lfits (fCons (fSl' (fNm 0) (fSome (fC (.int 1))) fNo) (fCons (fNm 1) fNil)))))))
def N_lbig : List Str := ["_law_pattern_here", "_law_other", "_law_word_here", "_law_atom_here"]
def f_lbig : FS := fThen (fSet 2 (fTup fNil)) (fThen (fFor (fSeq (fNm 0)) (bNm 3) (fIfS (fB (fOp gEq (fOp gIx (fNm 3) (fC (.int 0))) (fC (.str "some")))) (fSet 2 (fOp gAdd (fNm 2) (fTup (fCons (fOp gIx (fNm 3) (fC (.int 1))) fNil)))) (fSet 2 (fOp gAdd (fNm 2) (fOp gMul (fOp gIx (fNm 3) (fC (.int 1))) (fOp gAdd (fCB gLen (fCons (fNm 1) fNil)) (fC (.int 2)))))))) (fRet (fNm 2)))

def S_is_full : FSpec := fun ds M Q _ => ∃ A : Atom, ds = [atD A] ∧ Q (.bl (isAny A)) M
def S_fits : FSpec := fun ds M Q _ => ∃ (p : List Atom) (w : List Int), ds = [pD p, wD w] ∧ Q (.bl (Fits p w)) M
def S_lfits (n : Nat) : FSpec := fun ds M Q _ => ∃ (p : List Atom) (w : List Int), ds = [pD p, wD w] ∧ p.length + w.length < n ∧ Q (.bl (Fits p w)) M
theorem b_is_full (ds : List D) (M : Mu) (Q : D → Mu → Prop) (xw : XW) (h : S_is_full ds M Q xw) : bodyE N_is_full f_is_full ds M Q xw := by
  obtain ⟨A, rfl, q⟩ := h
  simp only [bodyE, startD, N_is_full, List.map_cons, List.map_nil, List.length_cons, List.length_nil, List.replicate_succ, List.replicate_zero, List.cons_append, List.nil_append, Nat.reduceAdd, Nat.reduceSub]
  unfold f_is_full
  cases A with
  | one a =>
    unfold atD
    try simp -dsimp only [bodyE, startD, List.map_cons, List.map_nil, List.length_cons, List.length_nil, List.replicate_succ, List.replicate_zero, List.cons_append, List.nil_append, Nat.reduceAdd, Nat.reduceSub, List.set_cons_zero, List.set_cons_succ, List.getElem?_cons_zero, List.getElem?_cons_succ, Bool.not_true, Bool.not_false, decide_true, decide_false, ↓IfS_t, ↓IfS_f, ↓IfE_t, ↓IfE_f, ↓AndT_t, ↓AndT_f, ↓OrT_t, ↓OrT_f, ↓AndV_t, ↓AndV_f, ↓OrV_t, ↓OrV_f, IfS_t, IfS_f, IfE_t, IfE_f, AndT_t, AndT_f, OrT_t, OrT_f, AndV_t, AndV_f, OrV_t, OrV_f, ↓eThen, ↓ePass, ↓eBreak, ↓eCont, ↓eExpr, ↓eRet, ↓eRetN, ↓eIfS, ↓eSet, ↓eOwn, ↓eAsg, ↓eSetIx, ↓eGSetIx, ↓eAug, ↓eIadd, ↓eIaddL, ↓eFrz, ↓eFor, ↓eWhile, ↓eNm, ↓eC, ↓eOp, ↓eB, ↓eTr, ↓eTrB, ↓eTrI, ↓eTrN, ↓eTrT, ↓eTrL, ↓eTrA, ↓eAnd, ↓eOr, ↓eNot, ↓eAndV, ↓eOrV, ↓eNotV, ↓eIf, ↓eNil, ↓eCons, ↓eTup, ↓eOfL, ↓eLstL, ↓eListL, ↓eCatL, ↓eLc, ↓eWipe0, ↓eWipe, ↓eSeq, ↓eRng1, ↓eRng2, ↓eCall, ↓eCB, ↓eNeg, ↓eChain, ↓eAppend, ↓ePop, ↓eNo, ↓eSome, ↓eSl, ↓gSl_t, ↓gSl_l, ↓gSl_a, ↓gAdd_i, ↓gAdd_t, ↓gAdd_s, ↓gAdd_l, ↓gI0_i, ↓gI_i, ↓gMul_i, ↓gMul_t, ↓gEq_, ↓gNe_, ↓gIs_n, ↓gIs_b, ↓gIsNot_n, ↓gIsNot_b, ↓gIn_, ↓gNotIn_, ↓gIx_t, ↓gIx_l, ↓gIx_a, ↓gLen_, ↓gLen_l, ↓gLen_a, ↓gInt_, ↓gInt_b, ↓gTuple_, ↓gTuple_l, ↓gTuple_a, ↓gMax_, ↓gMin_, ↓gIsBool_b, ↓gIsBool_i, seqOf_t, seqOf_l, seqOf_a, lstOf_l, lstOf_a, rsv_i, rsv_b, rsv_s, rsv_n, rsv_t, rsv_l, dle_i, dle_b, dle_n, eqD_i, eqD_b, isNon, bNm_, bTup_, bCons_, bNil_, Option.bind_some, i40, i41, i42, i43, atI0, atI1, atI2, atI3, mset_same, true_and, beq_self_eq_true, Bool.false_eq_true, c0, c1, Int.cast_ofNat_Int, Int.reduceEq, Int.reduceLT, Int.reduceLE, Int.reduceAdd, Int.reduceSub, ↓reduceIte, eqD_s, dle_str k_any, dle_str k_some, any_ne_some, mres_self]
    exact q
  | any s =>
    unfold atD
    try simp -dsimp only [bodyE, startD, List.map_cons, List.map_nil, List.length_cons, List.length_nil, List.replicate_succ, List.replicate_zero, List.cons_append, List.nil_append, Nat.reduceAdd, Nat.reduceSub, List.set_cons_zero, List.set_cons_succ, List.getElem?_cons_zero, List.getElem?_cons_succ, Bool.not_true, Bool.not_false, decide_true, decide_false, ↓IfS_t, ↓IfS_f, ↓IfE_t, ↓IfE_f, ↓AndT_t, ↓AndT_f, ↓OrT_t, ↓OrT_f, ↓AndV_t, ↓AndV_f, ↓OrV_t, ↓OrV_f, IfS_t, IfS_f, IfE_t, IfE_f, AndT_t, AndT_f, OrT_t, OrT_f, AndV_t, AndV_f, OrV_t, OrV_f, ↓eThen, ↓ePass, ↓eBreak, ↓eCont, ↓eExpr, ↓eRet, ↓eRetN, ↓eIfS, ↓eSet, ↓eOwn, ↓eAsg, ↓eSetIx, ↓eGSetIx, ↓eAug, ↓eIadd, ↓eIaddL, ↓eFrz, ↓eFor, ↓eWhile, ↓eNm, ↓eC, ↓eOp, ↓eB, ↓eTr, ↓eTrB, ↓eTrI, ↓eTrN, ↓eTrT, ↓eTrL, ↓eTrA, ↓eAnd, ↓eOr, ↓eNot, ↓eAndV, ↓eOrV, ↓eNotV, ↓eIf, ↓eNil, ↓eCons, ↓eTup, ↓eOfL, ↓eLstL, ↓eListL, ↓eCatL, ↓eLc, ↓eWipe0, ↓eWipe, ↓eSeq, ↓eRng1, ↓eRng2, ↓eCall, ↓eCB, ↓eNeg, ↓eChain, ↓eAppend, ↓ePop, ↓eNo, ↓eSome, ↓eSl, ↓gSl_t, ↓gSl_l, ↓gSl_a, ↓gAdd_i, ↓gAdd_t, ↓gAdd_s, ↓gAdd_l, ↓gI0_i, ↓gI_i, ↓gMul_i, ↓gMul_t, ↓gEq_, ↓gNe_, ↓gIs_n, ↓gIs_b, ↓gIsNot_n, ↓gIsNot_b, ↓gIn_, ↓gNotIn_, ↓gIx_t, ↓gIx_l, ↓gIx_a, ↓gLen_, ↓gLen_l, ↓gLen_a, ↓gInt_, ↓gInt_b, ↓gTuple_, ↓gTuple_l, ↓gTuple_a, ↓gMax_, ↓gMin_, ↓gIsBool_b, ↓gIsBool_i, seqOf_t, seqOf_l, seqOf_a, lstOf_l, lstOf_a, rsv_i, rsv_b, rsv_s, rsv_n, rsv_t, rsv_l, dle_i, dle_b, dle_n, eqD_i, eqD_b, isNon, bNm_, bTup_, bCons_, bNil_, Option.bind_some, i40, i41, i42, i43, atI0, atI1, atI2, atI3, mset_same, true_and, beq_self_eq_true, Bool.false_eq_true, c0, c1, Int.cast_ofNat_Int, Int.reduceEq, Int.reduceLT, Int.reduceLE, Int.reduceAdd, Int.reduceSub, ↓reduceIte, eqD_s, dle_str k_any, mres_self]
    exact q
theorem b_fits (ds : List D) (M : Mu) (Q : D → Mu → Prop) (xw : XW) (h : S_fits ds M Q xw) : bodyE N_fits (f_fits S_is_full) ds M Q xw := by
  obtain ⟨p, w, rfl, q⟩ := h
  simp only [bodyE, startD, N_fits, List.map_cons, List.map_nil, List.length_cons, List.length_nil, List.replicate_succ, List.replicate_zero, List.cons_append, List.nil_append, Nat.reduceAdd, Nat.reduceSub]
  unfold f_fits
  unfold pD wD
  try simp -dsimp only [bodyE, startD, List.map_cons, List.map_nil, List.length_cons, List.length_nil, List.replicate_succ, List.replicate_zero, List.cons_append, List.nil_append, Nat.reduceAdd, Nat.reduceSub, List.set_cons_zero, List.set_cons_succ, List.getElem?_cons_zero, List.getElem?_cons_succ, Bool.not_true, Bool.not_false, decide_true, decide_false, ↓IfS_t, ↓IfS_f, ↓IfE_t, ↓IfE_f, ↓AndT_t, ↓AndT_f, ↓OrT_t, ↓OrT_f, ↓AndV_t, ↓AndV_f, ↓OrV_t, ↓OrV_f, IfS_t, IfS_f, IfE_t, IfE_f, AndT_t, AndT_f, OrT_t, OrT_f, AndV_t, AndV_f, OrV_t, OrV_f, ↓eThen, ↓ePass, ↓eBreak, ↓eCont, ↓eExpr, ↓eRet, ↓eRetN, ↓eIfS, ↓eSet, ↓eOwn, ↓eAsg, ↓eSetIx, ↓eGSetIx, ↓eAug, ↓eIadd, ↓eIaddL, ↓eFrz, ↓eFor, ↓eWhile, ↓eNm, ↓eC, ↓eOp, ↓eB, ↓eTr, ↓eTrB, ↓eTrI, ↓eTrN, ↓eTrT, ↓eTrL, ↓eTrA, ↓eAnd, ↓eOr, ↓eNot, ↓eAndV, ↓eOrV, ↓eNotV, ↓eIf, ↓eNil, ↓eCons, ↓eTup, ↓eOfL, ↓eLstL, ↓eListL, ↓eCatL, ↓eLc, ↓eWipe0, ↓eWipe, ↓eSeq, ↓eRng1, ↓eRng2, ↓eCall, ↓eCB, ↓eNeg, ↓eChain, ↓eAppend, ↓ePop, ↓eNo, ↓eSome, ↓eSl, ↓gSl_t, ↓gSl_l, ↓gSl_a, ↓gAdd_i, ↓gAdd_t, ↓gAdd_s, ↓gAdd_l, ↓gI0_i, ↓gI_i, ↓gMul_i, ↓gMul_t, ↓gEq_, ↓gNe_, ↓gIs_n, ↓gIs_b, ↓gIsNot_n, ↓gIsNot_b, ↓gIn_, ↓gNotIn_, ↓gIx_t, ↓gIx_l, ↓gIx_a, ↓gLen_, ↓gLen_l, ↓gLen_a, ↓gInt_, ↓gInt_b, ↓gTuple_, ↓gTuple_l, ↓gTuple_a, ↓gMax_, ↓gMin_, ↓gIsBool_b, ↓gIsBool_i, seqOf_t, seqOf_l, seqOf_a, lstOf_l, lstOf_a, rsv_i, rsv_b, rsv_s, rsv_n, rsv_t, rsv_l, dle_i, dle_b, dle_n, eqD_i, eqD_b, isNon, bNm_, bTup_, bCons_, bNil_, Option.bind_some, i40, i41, i42, i43, atI0, atI1, atI2, atI3, mset_same, true_and, beq_self_eq_true, Bool.false_eq_true, c0, c1, Int.cast_ofNat_Int, Int.reduceEq, Int.reduceLT, Int.reduceLE, Int.reduceAdd, Int.reduceSub, ↓reduceIte]
  refine forS_ind (fun rest ρ M' => M = M' ∧ ∃ (r : List Atom) (i : Int) (o : Option D), rest = r.map atD ∧ ρ = [some (.tup (p.map atD)), some (.tup (w.map D.int)), some (.int i), o] ∧ 0 ≤ i ∧ i ≤ w.length ∧ Fits r (w.drop i.toNat) = Fits p w) ?_ ?_ _ _ _ ⟨rfl, p, 0, none, rfl, rfl, by omega, by omega, rfl⟩
  · rintro d rest ρ M' ⟨rfl, r, i, o, e1, rfl, i0, i1, hf⟩
    cases r with
    | nil => cases e1
    | cons A r =>
      rw [List.map_cons] at e1
      cases e1
      refine ⟨_, rfl, fun n c hn hc => ?_⟩
      try simp -dsimp only [bodyE, startD, List.map_cons, List.map_nil, List.length_cons, List.length_nil, List.replicate_succ, List.replicate_zero, List.cons_append, List.nil_append, Nat.reduceAdd, Nat.reduceSub, List.set_cons_zero, List.set_cons_succ, List.getElem?_cons_zero, List.getElem?_cons_succ, Bool.not_true, Bool.not_false, decide_true, decide_false, ↓IfS_t, ↓IfS_f, ↓IfE_t, ↓IfE_f, ↓AndT_t, ↓AndT_f, ↓OrT_t, ↓OrT_f, ↓AndV_t, ↓AndV_f, ↓OrV_t, ↓OrV_f, IfS_t, IfS_f, IfE_t, IfE_f, AndT_t, AndT_f, OrT_t, OrT_f, AndV_t, AndV_f, OrV_t, OrV_f, ↓eThen, ↓ePass, ↓eBreak, ↓eCont, ↓eExpr, ↓eRet, ↓eRetN, ↓eIfS, ↓eSet, ↓eOwn, ↓eAsg, ↓eSetIx, ↓eGSetIx, ↓eAug, ↓eIadd, ↓eIaddL, ↓eFrz, ↓eFor, ↓eWhile, ↓eNm, ↓eC, ↓eOp, ↓eB, ↓eTr, ↓eTrB, ↓eTrI, ↓eTrN, ↓eTrT, ↓eTrL, ↓eTrA, ↓eAnd, ↓eOr, ↓eNot, ↓eAndV, ↓eOrV, ↓eNotV, ↓eIf, ↓eNil, ↓eCons, ↓eTup, ↓eOfL, ↓eLstL, ↓eListL, ↓eCatL, ↓eLc, ↓eWipe0, ↓eWipe, ↓eSeq, ↓eRng1, ↓eRng2, ↓eCall, ↓eCB, ↓eNeg, ↓eChain, ↓eAppend, ↓ePop, ↓eNo, ↓eSome, ↓eSl, ↓gSl_t, ↓gSl_l, ↓gSl_a, ↓gAdd_i, ↓gAdd_t, ↓gAdd_s, ↓gAdd_l, ↓gI0_i, ↓gI_i, ↓gMul_i, ↓gMul_t, ↓gEq_, ↓gNe_, ↓gIs_n, ↓gIs_b, ↓gIsNot_n, ↓gIsNot_b, ↓gIn_, ↓gNotIn_, ↓gIx_t, ↓gIx_l, ↓gIx_a, ↓gLen_, ↓gLen_l, ↓gLen_a, ↓gInt_, ↓gInt_b, ↓gTuple_, ↓gTuple_l, ↓gTuple_a, ↓gMax_, ↓gMin_, ↓gIsBool_b, ↓gIsBool_i, seqOf_t, seqOf_l, seqOf_a, lstOf_l, lstOf_a, rsv_i, rsv_b, rsv_s, rsv_n, rsv_t, rsv_l, dle_i, dle_b, dle_n, eqD_i, eqD_b, isNon, bNm_, bTup_, bCons_, bNil_, Option.bind_some, i40, i41, i42, i43, atI0, atI1, atI2, atI3, mset_same, true_and, beq_self_eq_true, Bool.false_eq_true, c0, c1, Int.cast_ofNat_Int, Int.reduceEq, Int.reduceLT, Int.reduceLE, Int.reduceAdd, Int.reduceSub, ↓reduceIte]
      refine ⟨A, rfl, ?_⟩
      try simp -dsimp only [bodyE, startD, List.map_cons, List.map_nil, List.length_cons, List.length_nil, List.replicate_succ, List.replicate_zero, List.cons_append, List.nil_append, Nat.reduceAdd, Nat.reduceSub, List.set_cons_zero, List.set_cons_succ, List.getElem?_cons_zero, List.getElem?_cons_succ, Bool.not_true, Bool.not_false, decide_true, decide_false, ↓IfS_t, ↓IfS_f, ↓IfE_t, ↓IfE_f, ↓AndT_t, ↓AndT_f, ↓OrT_t, ↓OrT_f, ↓AndV_t, ↓AndV_f, ↓OrV_t, ↓OrV_f, IfS_t, IfS_f, IfE_t, IfE_f, AndT_t, AndT_f, OrT_t, OrT_f, AndV_t, AndV_f, OrV_t, OrV_f, ↓eThen, ↓ePass, ↓eBreak, ↓eCont, ↓eExpr, ↓eRet, ↓eRetN, ↓eIfS, ↓eSet, ↓eOwn, ↓eAsg, ↓eSetIx, ↓eGSetIx, ↓eAug, ↓eIadd, ↓eIaddL, ↓eFrz, ↓eFor, ↓eWhile, ↓eNm, ↓eC, ↓eOp, ↓eB, ↓eTr, ↓eTrB, ↓eTrI, ↓eTrN, ↓eTrT, ↓eTrL, ↓eTrA, ↓eAnd, ↓eOr, ↓eNot, ↓eAndV, ↓eOrV, ↓eNotV, ↓eIf, ↓eNil, ↓eCons, ↓eTup, ↓eOfL, ↓eLstL, ↓eListL, ↓eCatL, ↓eLc, ↓eWipe0, ↓eWipe, ↓eSeq, ↓eRng1, ↓eRng2, ↓eCall, ↓eCB, ↓eNeg, ↓eChain, ↓eAppend, ↓ePop, ↓eNo, ↓eSome, ↓eSl, ↓gSl_t, ↓gSl_l, ↓gSl_a, ↓gAdd_i, ↓gAdd_t, ↓gAdd_s, ↓gAdd_l, ↓gI0_i, ↓gI_i, ↓gMul_i, ↓gMul_t, ↓gEq_, ↓gNe_, ↓gIs_n, ↓gIs_b, ↓gIsNot_n, ↓gIsNot_b, ↓gIn_, ↓gNotIn_, ↓gIx_t, ↓gIx_l, ↓gIx_a, ↓gLen_, ↓gLen_l, ↓gLen_a, ↓gInt_, ↓gInt_b, ↓gTuple_, ↓gTuple_l, ↓gTuple_a, ↓gMax_, ↓gMin_, ↓gIsBool_b, ↓gIsBool_i, seqOf_t, seqOf_l, seqOf_a, lstOf_l, lstOf_a, rsv_i, rsv_b, rsv_s, rsv_n, rsv_t, rsv_l, dle_i, dle_b, dle_n, eqD_i, eqD_b, isNon, bNm_, bTup_, bCons_, bNil_, Option.bind_some, i40, i41, i42, i43, atI0, atI1, atI2, atI3, mset_same, true_and, beq_self_eq_true, Bool.false_eq_true, c0, c1, Int.cast_ofNat_Int, Int.reduceEq, Int.reduceLT, Int.reduceLE, Int.reduceAdd, Int.reduceSub, ↓reduceIte]
      cases A with
      | any s =>
        show IfS true _ _ _ _ _
        try simp -dsimp only [bodyE, startD, List.map_cons, List.map_nil, List.length_cons, List.length_nil, List.replicate_succ, List.replicate_zero, List.cons_append, List.nil_append, Nat.reduceAdd, Nat.reduceSub, List.set_cons_zero, List.set_cons_succ, List.getElem?_cons_zero, List.getElem?_cons_succ, Bool.not_true, Bool.not_false, decide_true, decide_false, ↓IfS_t, ↓IfS_f, ↓IfE_t, ↓IfE_f, ↓AndT_t, ↓AndT_f, ↓OrT_t, ↓OrT_f, ↓AndV_t, ↓AndV_f, ↓OrV_t, ↓OrV_f, IfS_t, IfS_f, IfE_t, IfE_f, AndT_t, AndT_f, OrT_t, OrT_f, AndV_t, AndV_f, OrV_t, OrV_f, ↓eThen, ↓ePass, ↓eBreak, ↓eCont, ↓eExpr, ↓eRet, ↓eRetN, ↓eIfS, ↓eSet, ↓eOwn, ↓eAsg, ↓eSetIx, ↓eGSetIx, ↓eAug, ↓eIadd, ↓eIaddL, ↓eFrz, ↓eFor, ↓eWhile, ↓eNm, ↓eC, ↓eOp, ↓eB, ↓eTr, ↓eTrB, ↓eTrI, ↓eTrN, ↓eTrT, ↓eTrL, ↓eTrA, ↓eAnd, ↓eOr, ↓eNot, ↓eAndV, ↓eOrV, ↓eNotV, ↓eIf, ↓eNil, ↓eCons, ↓eTup, ↓eOfL, ↓eLstL, ↓eListL, ↓eCatL, ↓eLc, ↓eWipe0, ↓eWipe, ↓eSeq, ↓eRng1, ↓eRng2, ↓eCall, ↓eCB, ↓eNeg, ↓eChain, ↓eAppend, ↓ePop, ↓eNo, ↓eSome, ↓eSl, ↓gSl_t, ↓gSl_l, ↓gSl_a, ↓gAdd_i, ↓gAdd_t, ↓gAdd_s, ↓gAdd_l, ↓gI0_i, ↓gI_i, ↓gMul_i, ↓gMul_t, ↓gEq_, ↓gNe_, ↓gIs_n, ↓gIs_b, ↓gIsNot_n, ↓gIsNot_b, ↓gIn_, ↓gNotIn_, ↓gIx_t, ↓gIx_l, ↓gIx_a, ↓gLen_, ↓gLen_l, ↓gLen_a, ↓gInt_, ↓gInt_b, ↓gTuple_, ↓gTuple_l, ↓gTuple_a, ↓gMax_, ↓gMin_, ↓gIsBool_b, ↓gIsBool_i, seqOf_t, seqOf_l, seqOf_a, lstOf_l, lstOf_a, rsv_i, rsv_b, rsv_s, rsv_n, rsv_t, rsv_l, dle_i, dle_b, dle_n, eqD_i, eqD_b, isNon, bNm_, bTup_, bCons_, bNil_, Option.bind_some, i40, i41, i42, i43, atI0, atI1, atI2, atI3, mset_same, true_and, beq_self_eq_true, Bool.false_eq_true, c0, c1, Int.cast_ofNat_Int, Int.reduceEq, Int.reduceLT, Int.reduceLE, Int.reduceAdd, Int.reduceSub, ↓reduceIte]
        refine whileS (fun m ρ M' => M = M' ∧ ∃ i : Int, m = w.length - i.toNat ∧ ρ = [some (.tup (p.map atD)), some (.tup (w.map D.int)), some (.int i), some (atD (.any s))] ∧ 0 ≤ i ∧ i ≤ w.length ∧ Fits (.any s :: r) (w.drop i.toNat) = Fits p w) _ ⟨rfl, i, rfl, rfl, i0, i1, hf⟩ ?_
        rintro m ρ M' ⟨rfl, i, rfl, rfl, i0, i1, hf⟩ nw hw
        unfold atD wD
        try simp -dsimp only [bodyE, startD, List.map_cons, List.map_nil, List.length_cons, List.length_nil, List.replicate_succ, List.replicate_zero, List.cons_append, List.nil_append, Nat.reduceAdd, Nat.reduceSub, List.set_cons_zero, List.set_cons_succ, List.getElem?_cons_zero, List.getElem?_cons_succ, Bool.not_true, Bool.not_false, decide_true, decide_false, ↓IfS_t, ↓IfS_f, ↓IfE_t, ↓IfE_f, ↓AndT_t, ↓AndT_f, ↓OrT_t, ↓OrT_f, ↓AndV_t, ↓AndV_f, ↓OrV_t, ↓OrV_f, IfS_t, IfS_f, IfE_t, IfE_f, AndT_t, AndT_f, OrT_t, OrT_f, AndV_t, AndV_f, OrV_t, OrV_f, ↓eThen, ↓ePass, ↓eBreak, ↓eCont, ↓eExpr, ↓eRet, ↓eRetN, ↓eIfS, ↓eSet, ↓eOwn, ↓eAsg, ↓eSetIx, ↓eGSetIx, ↓eAug, ↓eIadd, ↓eIaddL, ↓eFrz, ↓eFor, ↓eWhile, ↓eNm, ↓eC, ↓eOp, ↓eB, ↓eTr, ↓eTrB, ↓eTrI, ↓eTrN, ↓eTrT, ↓eTrL, ↓eTrA, ↓eAnd, ↓eOr, ↓eNot, ↓eAndV, ↓eOrV, ↓eNotV, ↓eIf, ↓eNil, ↓eCons, ↓eTup, ↓eOfL, ↓eLstL, ↓eListL, ↓eCatL, ↓eLc, ↓eWipe0, ↓eWipe, ↓eSeq, ↓eRng1, ↓eRng2, ↓eCall, ↓eCB, ↓eNeg, ↓eChain, ↓eAppend, ↓ePop, ↓eNo, ↓eSome, ↓eSl, ↓gSl_t, ↓gSl_l, ↓gSl_a, ↓gAdd_i, ↓gAdd_t, ↓gAdd_s, ↓gAdd_l, ↓gI0_i, ↓gI_i, ↓gMul_i, ↓gMul_t, ↓gEq_, ↓gNe_, ↓gIs_n, ↓gIs_b, ↓gIsNot_n, ↓gIsNot_b, ↓gIn_, ↓gNotIn_, ↓gIx_t, ↓gIx_l, ↓gIx_a, ↓gLen_, ↓gLen_l, ↓gLen_a, ↓gInt_, ↓gInt_b, ↓gTuple_, ↓gTuple_l, ↓gTuple_a, ↓gMax_, ↓gMin_, ↓gIsBool_b, ↓gIsBool_i, seqOf_t, seqOf_l, seqOf_a, lstOf_l, lstOf_a, rsv_i, rsv_b, rsv_s, rsv_n, rsv_t, rsv_l, dle_i, dle_b, dle_n, eqD_i, eqD_b, isNon, bNm_, bTup_, bCons_, bNil_, Option.bind_some, i40, i41, i42, i43, atI0, atI1, atI2, atI3, mset_same, true_and, beq_self_eq_true, Bool.false_eq_true, c0, c1, Int.cast_ofNat_Int, Int.reduceEq, Int.reduceLT, Int.reduceLE, Int.reduceAdd, Int.reduceSub, ↓reduceIte, List.length_map]
        by_cases hlt : i < w.length
        · obtain ⟨x, v, e2, e3, e4⟩ := wD_at i0 hlt
          rw [decide_eq_true hlt]
          try simp -dsimp only [bodyE, startD, List.map_cons, List.map_nil, List.length_cons, List.length_nil, List.replicate_succ, List.replicate_zero, List.cons_append, List.nil_append, Nat.reduceAdd, Nat.reduceSub, List.set_cons_zero, List.set_cons_succ, List.getElem?_cons_zero, List.getElem?_cons_succ, Bool.not_true, Bool.not_false, decide_true, decide_false, ↓IfS_t, ↓IfS_f, ↓IfE_t, ↓IfE_f, ↓AndT_t, ↓AndT_f, ↓OrT_t, ↓OrT_f, ↓AndV_t, ↓AndV_f, ↓OrV_t, ↓OrV_f, IfS_t, IfS_f, IfE_t, IfE_f, AndT_t, AndT_f, OrT_t, OrT_f, AndV_t, AndV_f, OrV_t, OrV_f, ↓eThen, ↓ePass, ↓eBreak, ↓eCont, ↓eExpr, ↓eRet, ↓eRetN, ↓eIfS, ↓eSet, ↓eOwn, ↓eAsg, ↓eSetIx, ↓eGSetIx, ↓eAug, ↓eIadd, ↓eIaddL, ↓eFrz, ↓eFor, ↓eWhile, ↓eNm, ↓eC, ↓eOp, ↓eB, ↓eTr, ↓eTrB, ↓eTrI, ↓eTrN, ↓eTrT, ↓eTrL, ↓eTrA, ↓eAnd, ↓eOr, ↓eNot, ↓eAndV, ↓eOrV, ↓eNotV, ↓eIf, ↓eNil, ↓eCons, ↓eTup, ↓eOfL, ↓eLstL, ↓eListL, ↓eCatL, ↓eLc, ↓eWipe0, ↓eWipe, ↓eSeq, ↓eRng1, ↓eRng2, ↓eCall, ↓eCB, ↓eNeg, ↓eChain, ↓eAppend, ↓ePop, ↓eNo, ↓eSome, ↓eSl, ↓gSl_t, ↓gSl_l, ↓gSl_a, ↓gAdd_i, ↓gAdd_t, ↓gAdd_s, ↓gAdd_l, ↓gI0_i, ↓gI_i, ↓gMul_i, ↓gMul_t, ↓gEq_, ↓gNe_, ↓gIs_n, ↓gIs_b, ↓gIsNot_n, ↓gIsNot_b, ↓gIn_, ↓gNotIn_, ↓gIx_t, ↓gIx_l, ↓gIx_a, ↓gLen_, ↓gLen_l, ↓gLen_a, ↓gInt_, ↓gInt_b, ↓gTuple_, ↓gTuple_l, ↓gTuple_a, ↓gMax_, ↓gMin_, ↓gIsBool_b, ↓gIsBool_i, seqOf_t, seqOf_l, seqOf_a, lstOf_l, lstOf_a, rsv_i, rsv_b, rsv_s, rsv_n, rsv_t, rsv_l, dle_i, dle_b, dle_n, eqD_i, eqD_b, isNon, bNm_, bTup_, bCons_, bNil_, Option.bind_some, i40, i41, i42, i43, atI0, atI1, atI2, atI3, mset_same, true_and, beq_self_eq_true, Bool.false_eq_true, c0, c1, Int.cast_ofNat_Int, Int.reduceEq, Int.reduceLT, Int.reduceLE, Int.reduceAdd, Int.reduceSub, ↓reduceIte, e4, all_int, any_int]
          rw [e2, fits_any] at hf
          by_cases hx : x ∈ s
          · rw [if_pos hx] at hf
            rw [decide_eq_true hx]
            try simp -dsimp only [bodyE, startD, List.map_cons, List.map_nil, List.length_cons, List.length_nil, List.replicate_succ, List.replicate_zero, List.cons_append, List.nil_append, Nat.reduceAdd, Nat.reduceSub, List.set_cons_zero, List.set_cons_succ, List.getElem?_cons_zero, List.getElem?_cons_succ, Bool.not_true, Bool.not_false, decide_true, decide_false, ↓IfS_t, ↓IfS_f, ↓IfE_t, ↓IfE_f, ↓AndT_t, ↓AndT_f, ↓OrT_t, ↓OrT_f, ↓AndV_t, ↓AndV_f, ↓OrV_t, ↓OrV_f, IfS_t, IfS_f, IfE_t, IfE_f, AndT_t, AndT_f, OrT_t, OrT_f, AndV_t, AndV_f, OrV_t, OrV_f, ↓eThen, ↓ePass, ↓eBreak, ↓eCont, ↓eExpr, ↓eRet, ↓eRetN, ↓eIfS, ↓eSet, ↓eOwn, ↓eAsg, ↓eSetIx, ↓eGSetIx, ↓eAug, ↓eIadd, ↓eIaddL, ↓eFrz, ↓eFor, ↓eWhile, ↓eNm, ↓eC, ↓eOp, ↓eB, ↓eTr, ↓eTrB, ↓eTrI, ↓eTrN, ↓eTrT, ↓eTrL, ↓eTrA, ↓eAnd, ↓eOr, ↓eNot, ↓eAndV, ↓eOrV, ↓eNotV, ↓eIf, ↓eNil, ↓eCons, ↓eTup, ↓eOfL, ↓eLstL, ↓eListL, ↓eCatL, ↓eLc, ↓eWipe0, ↓eWipe, ↓eSeq, ↓eRng1, ↓eRng2, ↓eCall, ↓eCB, ↓eNeg, ↓eChain, ↓eAppend, ↓ePop, ↓eNo, ↓eSome, ↓eSl, ↓gSl_t, ↓gSl_l, ↓gSl_a, ↓gAdd_i, ↓gAdd_t, ↓gAdd_s, ↓gAdd_l, ↓gI0_i, ↓gI_i, ↓gMul_i, ↓gMul_t, ↓gEq_, ↓gNe_, ↓gIs_n, ↓gIs_b, ↓gIsNot_n, ↓gIsNot_b, ↓gIn_, ↓gNotIn_, ↓gIx_t, ↓gIx_l, ↓gIx_a, ↓gLen_, ↓gLen_l, ↓gLen_a, ↓gInt_, ↓gInt_b, ↓gTuple_, ↓gTuple_l, ↓gTuple_a, ↓gMax_, ↓gMin_, ↓gIsBool_b, ↓gIsBool_i, seqOf_t, seqOf_l, seqOf_a, lstOf_l, lstOf_a, rsv_i, rsv_b, rsv_s, rsv_n, rsv_t, rsv_l, dle_i, dle_b, dle_n, eqD_i, eqD_b, isNon, bNm_, bTup_, bCons_, bNil_, Option.bind_some, i40, i41, i42, i43, atI0, atI1, atI2, atI3, mset_same, true_and, beq_self_eq_true, Bool.false_eq_true, c0, c1, Int.cast_ofNat_Int, Int.reduceEq, Int.reduceLT, Int.reduceLE, Int.reduceAdd, Int.reduceSub, ↓reduceIte]
            exact hw (w.length - (i + 1).toNat) _ _ (by omega) ⟨rfl, i + 1, rfl, rfl, by omega, by omega, by rw [← e3]; exact hf⟩
          · rw [if_neg hx] at hf
            rw [decide_eq_false hx]
            try simp -dsimp only [bodyE, startD, List.map_cons, List.map_nil, List.length_cons, List.length_nil, List.replicate_succ, List.replicate_zero, List.cons_append, List.nil_append, Nat.reduceAdd, Nat.reduceSub, List.set_cons_zero, List.set_cons_succ, List.getElem?_cons_zero, List.getElem?_cons_succ, Bool.not_true, Bool.not_false, decide_true, decide_false, ↓IfS_t, ↓IfS_f, ↓IfE_t, ↓IfE_f, ↓AndT_t, ↓AndT_f, ↓OrT_t, ↓OrT_f, ↓AndV_t, ↓AndV_f, ↓OrV_t, ↓OrV_f, IfS_t, IfS_f, IfE_t, IfE_f, AndT_t, AndT_f, OrT_t, OrT_f, AndV_t, AndV_f, OrV_t, OrV_f, ↓eThen, ↓ePass, ↓eBreak, ↓eCont, ↓eExpr, ↓eRet, ↓eRetN, ↓eIfS, ↓eSet, ↓eOwn, ↓eAsg, ↓eSetIx, ↓eGSetIx, ↓eAug, ↓eIadd, ↓eIaddL, ↓eFrz, ↓eFor, ↓eWhile, ↓eNm, ↓eC, ↓eOp, ↓eB, ↓eTr, ↓eTrB, ↓eTrI, ↓eTrN, ↓eTrT, ↓eTrL, ↓eTrA, ↓eAnd, ↓eOr, ↓eNot, ↓eAndV, ↓eOrV, ↓eNotV, ↓eIf, ↓eNil, ↓eCons, ↓eTup, ↓eOfL, ↓eLstL, ↓eListL, ↓eCatL, ↓eLc, ↓eWipe0, ↓eWipe, ↓eSeq, ↓eRng1, ↓eRng2, ↓eCall, ↓eCB, ↓eNeg, ↓eChain, ↓eAppend, ↓ePop, ↓eNo, ↓eSome, ↓eSl, ↓gSl_t, ↓gSl_l, ↓gSl_a, ↓gAdd_i, ↓gAdd_t, ↓gAdd_s, ↓gAdd_l, ↓gI0_i, ↓gI_i, ↓gMul_i, ↓gMul_t, ↓gEq_, ↓gNe_, ↓gIs_n, ↓gIs_b, ↓gIsNot_n, ↓gIsNot_b, ↓gIn_, ↓gNotIn_, ↓gIx_t, ↓gIx_l, ↓gIx_a, ↓gLen_, ↓gLen_l, ↓gLen_a, ↓gInt_, ↓gInt_b, ↓gTuple_, ↓gTuple_l, ↓gTuple_a, ↓gMax_, ↓gMin_, ↓gIsBool_b, ↓gIsBool_i, seqOf_t, seqOf_l, seqOf_a, lstOf_l, lstOf_a, rsv_i, rsv_b, rsv_s, rsv_n, rsv_t, rsv_l, dle_i, dle_b, dle_n, eqD_i, eqD_b, isNon, bNm_, bTup_, bCons_, bNil_, Option.bind_some, i40, i41, i42, i43, atI0, atI1, atI2, atI3, mset_same, true_and, beq_self_eq_true, Bool.false_eq_true, c0, c1, Int.cast_ofNat_Int, Int.reduceEq, Int.reduceLT, Int.reduceLE, Int.reduceAdd, Int.reduceSub, ↓reduceIte]
            exact hn _ _ ⟨rfl, r, i, _, rfl, rfl, i0, i1, by rw [e2]; exact hf⟩
        · rw [decide_eq_false hlt]
          try simp -dsimp only [bodyE, startD, List.map_cons, List.map_nil, List.length_cons, List.length_nil, List.replicate_succ, List.replicate_zero, List.cons_append, List.nil_append, Nat.reduceAdd, Nat.reduceSub, List.set_cons_zero, List.set_cons_succ, List.getElem?_cons_zero, List.getElem?_cons_succ, Bool.not_true, Bool.not_false, decide_true, decide_false, ↓IfS_t, ↓IfS_f, ↓IfE_t, ↓IfE_f, ↓AndT_t, ↓AndT_f, ↓OrT_t, ↓OrT_f, ↓AndV_t, ↓AndV_f, ↓OrV_t, ↓OrV_f, IfS_t, IfS_f, IfE_t, IfE_f, AndT_t, AndT_f, OrT_t, OrT_f, AndV_t, AndV_f, OrV_t, OrV_f, ↓eThen, ↓ePass, ↓eBreak, ↓eCont, ↓eExpr, ↓eRet, ↓eRetN, ↓eIfS, ↓eSet, ↓eOwn, ↓eAsg, ↓eSetIx, ↓eGSetIx, ↓eAug, ↓eIadd, ↓eIaddL, ↓eFrz, ↓eFor, ↓eWhile, ↓eNm, ↓eC, ↓eOp, ↓eB, ↓eTr, ↓eTrB, ↓eTrI, ↓eTrN, ↓eTrT, ↓eTrL, ↓eTrA, ↓eAnd, ↓eOr, ↓eNot, ↓eAndV, ↓eOrV, ↓eNotV, ↓eIf, ↓eNil, ↓eCons, ↓eTup, ↓eOfL, ↓eLstL, ↓eListL, ↓eCatL, ↓eLc, ↓eWipe0, ↓eWipe, ↓eSeq, ↓eRng1, ↓eRng2, ↓eCall, ↓eCB, ↓eNeg, ↓eChain, ↓eAppend, ↓ePop, ↓eNo, ↓eSome, ↓eSl, ↓gSl_t, ↓gSl_l, ↓gSl_a, ↓gAdd_i, ↓gAdd_t, ↓gAdd_s, ↓gAdd_l, ↓gI0_i, ↓gI_i, ↓gMul_i, ↓gMul_t, ↓gEq_, ↓gNe_, ↓gIs_n, ↓gIs_b, ↓gIsNot_n, ↓gIsNot_b, ↓gIn_, ↓gNotIn_, ↓gIx_t, ↓gIx_l, ↓gIx_a, ↓gLen_, ↓gLen_l, ↓gLen_a, ↓gInt_, ↓gInt_b, ↓gTuple_, ↓gTuple_l, ↓gTuple_a, ↓gMax_, ↓gMin_, ↓gIsBool_b, ↓gIsBool_i, seqOf_t, seqOf_l, seqOf_a, lstOf_l, lstOf_a, rsv_i, rsv_b, rsv_s, rsv_n, rsv_t, rsv_l, dle_i, dle_b, dle_n, eqD_i, eqD_b, isNon, bNm_, bTup_, bCons_, bNil_, Option.bind_some, i40, i41, i42, i43, atI0, atI1, atI2, atI3, mset_same, true_and, beq_self_eq_true, Bool.false_eq_true, c0, c1, Int.cast_ofNat_Int, Int.reduceEq, Int.reduceLT, Int.reduceLE, Int.reduceAdd, Int.reduceSub, ↓reduceIte]
          refine hn _ _ ⟨rfl, r, i, _, rfl, rfl, i0, i1, ?_⟩
          have e5 : w.drop i.toNat = [] := List.drop_eq_nil_of_le (by omega)
          rw [e5, fits_nil] at hf ⊢
          exact hf
      | one a =>
        show IfS false _ _ _ _ _
        unfold atD
        try simp -dsimp only [bodyE, startD, List.map_cons, List.map_nil, List.length_cons, List.length_nil, List.replicate_succ, List.replicate_zero, List.cons_append, List.nil_append, Nat.reduceAdd, Nat.reduceSub, List.set_cons_zero, List.set_cons_succ, List.getElem?_cons_zero, List.getElem?_cons_succ, Bool.not_true, Bool.not_false, decide_true, decide_false, ↓IfS_t, ↓IfS_f, ↓IfE_t, ↓IfE_f, ↓AndT_t, ↓AndT_f, ↓OrT_t, ↓OrT_f, ↓AndV_t, ↓AndV_f, ↓OrV_t, ↓OrV_f, IfS_t, IfS_f, IfE_t, IfE_f, AndT_t, AndT_f, OrT_t, OrT_f, AndV_t, AndV_f, OrV_t, OrV_f, ↓eThen, ↓ePass, ↓eBreak, ↓eCont, ↓eExpr, ↓eRet, ↓eRetN, ↓eIfS, ↓eSet, ↓eOwn, ↓eAsg, ↓eSetIx, ↓eGSetIx, ↓eAug, ↓eIadd, ↓eIaddL, ↓eFrz, ↓eFor, ↓eWhile, ↓eNm, ↓eC, ↓eOp, ↓eB, ↓eTr, ↓eTrB, ↓eTrI, ↓eTrN, ↓eTrT, ↓eTrL, ↓eTrA, ↓eAnd, ↓eOr, ↓eNot, ↓eAndV, ↓eOrV, ↓eNotV, ↓eIf, ↓eNil, ↓eCons, ↓eTup, ↓eOfL, ↓eLstL, ↓eListL, ↓eCatL, ↓eLc, ↓eWipe0, ↓eWipe, ↓eSeq, ↓eRng1, ↓eRng2, ↓eCall, ↓eCB, ↓eNeg, ↓eChain, ↓eAppend, ↓ePop, ↓eNo, ↓eSome, ↓eSl, ↓gSl_t, ↓gSl_l, ↓gSl_a, ↓gAdd_i, ↓gAdd_t, ↓gAdd_s, ↓gAdd_l, ↓gI0_i, ↓gI_i, ↓gMul_i, ↓gMul_t, ↓gEq_, ↓gNe_, ↓gIs_n, ↓gIs_b, ↓gIsNot_n, ↓gIsNot_b, ↓gIn_, ↓gNotIn_, ↓gIx_t, ↓gIx_l, ↓gIx_a, ↓gLen_, ↓gLen_l, ↓gLen_a, ↓gInt_, ↓gInt_b, ↓gTuple_, ↓gTuple_l, ↓gTuple_a, ↓gMax_, ↓gMin_, ↓gIsBool_b, ↓gIsBool_i, seqOf_t, seqOf_l, seqOf_a, lstOf_l, lstOf_a, rsv_i, rsv_b, rsv_s, rsv_n, rsv_t, rsv_l, dle_i, dle_b, dle_n, eqD_i, eqD_b, isNon, bNm_, bTup_, bCons_, bNil_, Option.bind_some, i40, i41, i42, i43, atI0, atI1, atI2, atI3, mset_same, true_and, beq_self_eq_true, Bool.false_eq_true, c0, c1, Int.cast_ofNat_Int, Int.reduceEq, Int.reduceLT, Int.reduceLE, Int.reduceAdd, Int.reduceSub, ↓reduceIte, List.length_map]
        by_cases hlt : i < w.length
        · obtain ⟨x, v, e2, e3, e4⟩ := wD_at i0 hlt
          rw [decide_eq_true hlt]
          try simp -dsimp only [bodyE, startD, List.map_cons, List.map_nil, List.length_cons, List.length_nil, List.replicate_succ, List.replicate_zero, List.cons_append, List.nil_append, Nat.reduceAdd, Nat.reduceSub, List.set_cons_zero, List.set_cons_succ, List.getElem?_cons_zero, List.getElem?_cons_succ, Bool.not_true, Bool.not_false, decide_true, decide_false, ↓IfS_t, ↓IfS_f, ↓IfE_t, ↓IfE_f, ↓AndT_t, ↓AndT_f, ↓OrT_t, ↓OrT_f, ↓AndV_t, ↓AndV_f, ↓OrV_t, ↓OrV_f, IfS_t, IfS_f, IfE_t, IfE_f, AndT_t, AndT_f, OrT_t, OrT_f, AndV_t, AndV_f, OrV_t, OrV_f, ↓eThen, ↓ePass, ↓eBreak, ↓eCont, ↓eExpr, ↓eRet, ↓eRetN, ↓eIfS, ↓eSet, ↓eOwn, ↓eAsg, ↓eSetIx, ↓eGSetIx, ↓eAug, ↓eIadd, ↓eIaddL, ↓eFrz, ↓eFor, ↓eWhile, ↓eNm, ↓eC, ↓eOp, ↓eB, ↓eTr, ↓eTrB, ↓eTrI, ↓eTrN, ↓eTrT, ↓eTrL, ↓eTrA, ↓eAnd, ↓eOr, ↓eNot, ↓eAndV, ↓eOrV, ↓eNotV, ↓eIf, ↓eNil, ↓eCons, ↓eTup, ↓eOfL, ↓eLstL, ↓eListL, ↓eCatL, ↓eLc, ↓eWipe0, ↓eWipe, ↓eSeq, ↓eRng1, ↓eRng2, ↓eCall, ↓eCB, ↓eNeg, ↓eChain, ↓eAppend, ↓ePop, ↓eNo, ↓eSome, ↓eSl, ↓gSl_t, ↓gSl_l, ↓gSl_a, ↓gAdd_i, ↓gAdd_t, ↓gAdd_s, ↓gAdd_l, ↓gI0_i, ↓gI_i, ↓gMul_i, ↓gMul_t, ↓gEq_, ↓gNe_, ↓gIs_n, ↓gIs_b, ↓gIsNot_n, ↓gIsNot_b, ↓gIn_, ↓gNotIn_, ↓gIx_t, ↓gIx_l, ↓gIx_a, ↓gLen_, ↓gLen_l, ↓gLen_a, ↓gInt_, ↓gInt_b, ↓gTuple_, ↓gTuple_l, ↓gTuple_a, ↓gMax_, ↓gMin_, ↓gIsBool_b, ↓gIsBool_i, seqOf_t, seqOf_l, seqOf_a, lstOf_l, lstOf_a, rsv_i, rsv_b, rsv_s, rsv_n, rsv_t, rsv_l, dle_i, dle_b, dle_n, eqD_i, eqD_b, isNon, bNm_, bTup_, bCons_, bNil_, Option.bind_some, i40, i41, i42, i43, atI0, atI1, atI2, atI3, mset_same, true_and, beq_self_eq_true, Bool.false_eq_true, c0, c1, Int.cast_ofNat_Int, Int.reduceEq, Int.reduceLT, Int.reduceLE, Int.reduceAdd, Int.reduceSub, ↓reduceIte, e4]
          by_cases hx : x = a
          · subst hx
            rw [e2, fits_hit] at hf
            rw [decide_eq_true rfl]
            try simp -dsimp only [bodyE, startD, List.map_cons, List.map_nil, List.length_cons, List.length_nil, List.replicate_succ, List.replicate_zero, List.cons_append, List.nil_append, Nat.reduceAdd, Nat.reduceSub, List.set_cons_zero, List.set_cons_succ, List.getElem?_cons_zero, List.getElem?_cons_succ, Bool.not_true, Bool.not_false, decide_true, decide_false, ↓IfS_t, ↓IfS_f, ↓IfE_t, ↓IfE_f, ↓AndT_t, ↓AndT_f, ↓OrT_t, ↓OrT_f, ↓AndV_t, ↓AndV_f, ↓OrV_t, ↓OrV_f, IfS_t, IfS_f, IfE_t, IfE_f, AndT_t, AndT_f, OrT_t, OrT_f, AndV_t, AndV_f, OrV_t, OrV_f, ↓eThen, ↓ePass, ↓eBreak, ↓eCont, ↓eExpr, ↓eRet, ↓eRetN, ↓eIfS, ↓eSet, ↓eOwn, ↓eAsg, ↓eSetIx, ↓eGSetIx, ↓eAug, ↓eIadd, ↓eIaddL, ↓eFrz, ↓eFor, ↓eWhile, ↓eNm, ↓eC, ↓eOp, ↓eB, ↓eTr, ↓eTrB, ↓eTrI, ↓eTrN, ↓eTrT, ↓eTrL, ↓eTrA, ↓eAnd, ↓eOr, ↓eNot, ↓eAndV, ↓eOrV, ↓eNotV, ↓eIf, ↓eNil, ↓eCons, ↓eTup, ↓eOfL, ↓eLstL, ↓eListL, ↓eCatL, ↓eLc, ↓eWipe0, ↓eWipe, ↓eSeq, ↓eRng1, ↓eRng2, ↓eCall, ↓eCB, ↓eNeg, ↓eChain, ↓eAppend, ↓ePop, ↓eNo, ↓eSome, ↓eSl, ↓gSl_t, ↓gSl_l, ↓gSl_a, ↓gAdd_i, ↓gAdd_t, ↓gAdd_s, ↓gAdd_l, ↓gI0_i, ↓gI_i, ↓gMul_i, ↓gMul_t, ↓gEq_, ↓gNe_, ↓gIs_n, ↓gIs_b, ↓gIsNot_n, ↓gIsNot_b, ↓gIn_, ↓gNotIn_, ↓gIx_t, ↓gIx_l, ↓gIx_a, ↓gLen_, ↓gLen_l, ↓gLen_a, ↓gInt_, ↓gInt_b, ↓gTuple_, ↓gTuple_l, ↓gTuple_a, ↓gMax_, ↓gMin_, ↓gIsBool_b, ↓gIsBool_i, seqOf_t, seqOf_l, seqOf_a, lstOf_l, lstOf_a, rsv_i, rsv_b, rsv_s, rsv_n, rsv_t, rsv_l, dle_i, dle_b, dle_n, eqD_i, eqD_b, isNon, bNm_, bTup_, bCons_, bNil_, Option.bind_some, i40, i41, i42, i43, atI0, atI1, atI2, atI3, mset_same, true_and, beq_self_eq_true, Bool.false_eq_true, c0, c1, Int.cast_ofNat_Int, Int.reduceEq, Int.reduceLT, Int.reduceLE, Int.reduceAdd, Int.reduceSub, ↓reduceIte]
            exact hn _ _ ⟨rfl, r, _, _, rfl, rfl, by omega, by omega, by rw [← e3]; exact hf⟩
          · rw [e2, fits_miss hx] at hf
            rw [decide_eq_false hx]
            try simp -dsimp only [bodyE, startD, List.map_cons, List.map_nil, List.length_cons, List.length_nil, List.replicate_succ, List.replicate_zero, List.cons_append, List.nil_append, Nat.reduceAdd, Nat.reduceSub, List.set_cons_zero, List.set_cons_succ, List.getElem?_cons_zero, List.getElem?_cons_succ, Bool.not_true, Bool.not_false, decide_true, decide_false, ↓IfS_t, ↓IfS_f, ↓IfE_t, ↓IfE_f, ↓AndT_t, ↓AndT_f, ↓OrT_t, ↓OrT_f, ↓AndV_t, ↓AndV_f, ↓OrV_t, ↓OrV_f, IfS_t, IfS_f, IfE_t, IfE_f, AndT_t, AndT_f, OrT_t, OrT_f, AndV_t, AndV_f, OrV_t, OrV_f, ↓eThen, ↓ePass, ↓eBreak, ↓eCont, ↓eExpr, ↓eRet, ↓eRetN, ↓eIfS, ↓eSet, ↓eOwn, ↓eAsg, ↓eSetIx, ↓eGSetIx, ↓eAug, ↓eIadd, ↓eIaddL, ↓eFrz, ↓eFor, ↓eWhile, ↓eNm, ↓eC, ↓eOp, ↓eB, ↓eTr, ↓eTrB, ↓eTrI, ↓eTrN, ↓eTrT, ↓eTrL, ↓eTrA, ↓eAnd, ↓eOr, ↓eNot, ↓eAndV, ↓eOrV, ↓eNotV, ↓eIf, ↓eNil, ↓eCons, ↓eTup, ↓eOfL, ↓eLstL, ↓eListL, ↓eCatL, ↓eLc, ↓eWipe0, ↓eWipe, ↓eSeq, ↓eRng1, ↓eRng2, ↓eCall, ↓eCB, ↓eNeg, ↓eChain, ↓eAppend, ↓ePop, ↓eNo, ↓eSome, ↓eSl, ↓gSl_t, ↓gSl_l, ↓gSl_a, ↓gAdd_i, ↓gAdd_t, ↓gAdd_s, ↓gAdd_l, ↓gI0_i, ↓gI_i, ↓gMul_i, ↓gMul_t, ↓gEq_, ↓gNe_, ↓gIs_n, ↓gIs_b, ↓gIsNot_n, ↓gIsNot_b, ↓gIn_, ↓gNotIn_, ↓gIx_t, ↓gIx_l, ↓gIx_a, ↓gLen_, ↓gLen_l, ↓gLen_a, ↓gInt_, ↓gInt_b, ↓gTuple_, ↓gTuple_l, ↓gTuple_a, ↓gMax_, ↓gMin_, ↓gIsBool_b, ↓gIsBool_i, seqOf_t, seqOf_l, seqOf_a, lstOf_l, lstOf_a, rsv_i, rsv_b, rsv_s, rsv_n, rsv_t, rsv_l, dle_i, dle_b, dle_n, eqD_i, eqD_b, isNon, bNm_, bTup_, bCons_, bNil_, Option.bind_some, i40, i41, i42, i43, atI0, atI1, atI2, atI3, mset_same, true_and, beq_self_eq_true, Bool.false_eq_true, c0, c1, Int.cast_ofNat_Int, Int.reduceEq, Int.reduceLT, Int.reduceLE, Int.reduceAdd, Int.reduceSub, ↓reduceIte]
            exact hn _ _ ⟨rfl, r, i, _, rfl, rfl, i0, i1, by rw [e2]; exact hf⟩
        · rw [decide_eq_false hlt]
          try simp -dsimp only [bodyE, startD, List.map_cons, List.map_nil, List.length_cons, List.length_nil, List.replicate_succ, List.replicate_zero, List.cons_append, List.nil_append, Nat.reduceAdd, Nat.reduceSub, List.set_cons_zero, List.set_cons_succ, List.getElem?_cons_zero, List.getElem?_cons_succ, Bool.not_true, Bool.not_false, decide_true, decide_false, ↓IfS_t, ↓IfS_f, ↓IfE_t, ↓IfE_f, ↓AndT_t, ↓AndT_f, ↓OrT_t, ↓OrT_f, ↓AndV_t, ↓AndV_f, ↓OrV_t, ↓OrV_f, IfS_t, IfS_f, IfE_t, IfE_f, AndT_t, AndT_f, OrT_t, OrT_f, AndV_t, AndV_f, OrV_t, OrV_f, ↓eThen, ↓ePass, ↓eBreak, ↓eCont, ↓eExpr, ↓eRet, ↓eRetN, ↓eIfS, ↓eSet, ↓eOwn, ↓eAsg, ↓eSetIx, ↓eGSetIx, ↓eAug, ↓eIadd, ↓eIaddL, ↓eFrz, ↓eFor, ↓eWhile, ↓eNm, ↓eC, ↓eOp, ↓eB, ↓eTr, ↓eTrB, ↓eTrI, ↓eTrN, ↓eTrT, ↓eTrL, ↓eTrA, ↓eAnd, ↓eOr, ↓eNot, ↓eAndV, ↓eOrV, ↓eNotV, ↓eIf, ↓eNil, ↓eCons, ↓eTup, ↓eOfL, ↓eLstL, ↓eListL, ↓eCatL, ↓eLc, ↓eWipe0, ↓eWipe, ↓eSeq, ↓eRng1, ↓eRng2, ↓eCall, ↓eCB, ↓eNeg, ↓eChain, ↓eAppend, ↓ePop, ↓eNo, ↓eSome, ↓eSl, ↓gSl_t, ↓gSl_l, ↓gSl_a, ↓gAdd_i, ↓gAdd_t, ↓gAdd_s, ↓gAdd_l, ↓gI0_i, ↓gI_i, ↓gMul_i, ↓gMul_t, ↓gEq_, ↓gNe_, ↓gIs_n, ↓gIs_b, ↓gIsNot_n, ↓gIsNot_b, ↓gIn_, ↓gNotIn_, ↓gIx_t, ↓gIx_l, ↓gIx_a, ↓gLen_, ↓gLen_l, ↓gLen_a, ↓gInt_, ↓gInt_b, ↓gTuple_, ↓gTuple_l, ↓gTuple_a, ↓gMax_, ↓gMin_, ↓gIsBool_b, ↓gIsBool_i, seqOf_t, seqOf_l, seqOf_a, lstOf_l, lstOf_a, rsv_i, rsv_b, rsv_s, rsv_n, rsv_t, rsv_l, dle_i, dle_b, dle_n, eqD_i, eqD_b, isNon, bNm_, bTup_, bCons_, bNil_, Option.bind_some, i40, i41, i42, i43, atI0, atI1, atI2, atI3, mset_same, true_and, beq_self_eq_true, Bool.false_eq_true, c0, c1, Int.cast_ofNat_Int, Int.reduceEq, Int.reduceLT, Int.reduceLE, Int.reduceAdd, Int.reduceSub, ↓reduceIte]
          refine hn _ _ ⟨rfl, r, i, _, rfl, rfl, i0, i1, ?_⟩
          have e5 : w.drop i.toNat = [] := List.drop_eq_nil_of_le (by omega)
          rw [e5, fits_nil] at hf ⊢
          exact hf
  · rintro ρ M' ⟨rfl, r, i, o, e1, rfl, i0, i1, hf⟩
    cases r with
    | cons A r => cases e1
    | nil =>
      try simp -dsimp only [bodyE, startD, List.map_cons, List.map_nil, List.length_cons, List.length_nil, List.replicate_succ, List.replicate_zero, List.cons_append, List.nil_append, Nat.reduceAdd, Nat.reduceSub, List.set_cons_zero, List.set_cons_succ, List.getElem?_cons_zero, List.getElem?_cons_succ, Bool.not_true, Bool.not_false, decide_true, decide_false, ↓IfS_t, ↓IfS_f, ↓IfE_t, ↓IfE_f, ↓AndT_t, ↓AndT_f, ↓OrT_t, ↓OrT_f, ↓AndV_t, ↓AndV_f, ↓OrV_t, ↓OrV_f, IfS_t, IfS_f, IfE_t, IfE_f, AndT_t, AndT_f, OrT_t, OrT_f, AndV_t, AndV_f, OrV_t, OrV_f, ↓eThen, ↓ePass, ↓eBreak, ↓eCont, ↓eExpr, ↓eRet, ↓eRetN, ↓eIfS, ↓eSet, ↓eOwn, ↓eAsg, ↓eSetIx, ↓eGSetIx, ↓eAug, ↓eIadd, ↓eIaddL, ↓eFrz, ↓eFor, ↓eWhile, ↓eNm, ↓eC, ↓eOp, ↓eB, ↓eTr, ↓eTrB, ↓eTrI, ↓eTrN, ↓eTrT, ↓eTrL, ↓eTrA, ↓eAnd, ↓eOr, ↓eNot, ↓eAndV, ↓eOrV, ↓eNotV, ↓eIf, ↓eNil, ↓eCons, ↓eTup, ↓eOfL, ↓eLstL, ↓eListL, ↓eCatL, ↓eLc, ↓eWipe0, ↓eWipe, ↓eSeq, ↓eRng1, ↓eRng2, ↓eCall, ↓eCB, ↓eNeg, ↓eChain, ↓eAppend, ↓ePop, ↓eNo, ↓eSome, ↓eSl, ↓gSl_t, ↓gSl_l, ↓gSl_a, ↓gAdd_i, ↓gAdd_t, ↓gAdd_s, ↓gAdd_l, ↓gI0_i, ↓gI_i, ↓gMul_i, ↓gMul_t, ↓gEq_, ↓gNe_, ↓gIs_n, ↓gIs_b, ↓gIsNot_n, ↓gIsNot_b, ↓gIn_, ↓gNotIn_, ↓gIx_t, ↓gIx_l, ↓gIx_a, ↓gLen_, ↓gLen_l, ↓gLen_a, ↓gInt_, ↓gInt_b, ↓gTuple_, ↓gTuple_l, ↓gTuple_a, ↓gMax_, ↓gMin_, ↓gIsBool_b, ↓gIsBool_i, seqOf_t, seqOf_l, seqOf_a, lstOf_l, lstOf_a, rsv_i, rsv_b, rsv_s, rsv_n, rsv_t, rsv_l, dle_i, dle_b, dle_n, eqD_i, eqD_b, isNon, bNm_, bTup_, bCons_, bNil_, Option.bind_some, i40, i41, i42, i43, atI0, atI1, atI2, atI3, mset_same, true_and, beq_self_eq_true, Bool.false_eq_true, c0, c1, Int.cast_ofNat_Int, Int.reduceEq, Int.reduceLT, Int.reduceLE, Int.reduceAdd, Int.reduceSub, ↓reduceIte, List.length_map, mres_self]
      have e : decide (i = (w.length : Int)) = Fits p w := by
        rw [← hf]
        by_cases h : i = w.length
        · have e5 : w.drop i.toNat = [] := List.drop_eq_nil_of_le (by omega)
          rw [decide_eq_true h, e5, fits_nil]
        · obtain ⟨x, v, e2, _⟩ := wD_at (w := w) i0 (by omega)
          rw [decide_eq_false h, e2, fits_none]
      rw [e]
      exact q
theorem k_someD : dle 60 (.str "some") = true := dle_str k_some
theorem cut1 {d : D} {ds : List D} : cutD (d :: ds) (some 1) none = ds := by
  unfold cutD
  have h : HT.sIx (d :: ds).length 0 (some 1) = 1 := by
    show min (1 : Int).toNat (d :: ds).length = 1
    rw [List.length_cons]
    show min 1 _ = 1
    omega
  rw [h]
  show ((d :: ds).drop 1).take ((d :: ds).length - 1) = ds
  simp
theorem b_lfits (n : Nat) (ds : List D) (M : Mu) (Q : D → Mu → Prop) (xw : XW) (h : S_lfits (n + 1) ds M Q xw) : bodyE N_lfits (f_lfits (S_lfits n)) ds M Q xw := by
  obtain ⟨p, w, rfl, hn, q⟩ := h
  have q : Q (.bl (Fits p w)) (mres M M) := by rw [mres_self]; exact q
  simp only [bodyE, startD, N_lfits, List.map_cons, List.map_nil, List.length_cons, List.length_nil, List.replicate_succ, List.replicate_zero, List.cons_append, List.nil_append, Nat.reduceAdd, Nat.reduceSub]
  unfold f_lfits
  unfold pD wD
  cases w with
  | nil =>
    try simp -dsimp only [bodyE, startD, List.map_cons, List.map_nil, List.length_cons, List.length_nil, List.replicate_succ, List.replicate_zero, List.cons_append, List.nil_append, Nat.reduceAdd, Nat.reduceSub, List.set_cons_zero, List.set_cons_succ, List.getElem?_cons_zero, List.getElem?_cons_succ, Bool.not_true, Bool.not_false, decide_true, decide_false, ↓IfS_t, ↓IfS_f, ↓IfE_t, ↓IfE_f, ↓AndT_t, ↓AndT_f, ↓OrT_t, ↓OrT_f, ↓AndV_t, ↓AndV_f, ↓OrV_t, ↓OrV_f, IfS_t, IfS_f, IfE_t, IfE_f, AndT_t, AndT_f, OrT_t, OrT_f, AndV_t, AndV_f, OrV_t, OrV_f, ↓eThen, ↓ePass, ↓eBreak, ↓eCont, ↓eExpr, ↓eRet, ↓eRetN, ↓eIfS, ↓eSet, ↓eOwn, ↓eAsg, ↓eSetIx, ↓eGSetIx, ↓eAug, ↓eIadd, ↓eIaddL, ↓eFrz, ↓eFor, ↓eWhile, ↓eNm, ↓eC, ↓eOp, ↓eB, ↓eTr, ↓eTrB, ↓eTrI, ↓eTrN, ↓eTrT, ↓eTrL, ↓eTrA, ↓eAnd, ↓eOr, ↓eNot, ↓eAndV, ↓eOrV, ↓eNotV, ↓eIf, ↓eNil, ↓eCons, ↓eTup, ↓eOfL, ↓eLstL, ↓eListL, ↓eCatL, ↓eLc, ↓eWipe0, ↓eWipe, ↓eSeq, ↓eRng1, ↓eRng2, ↓eCall, ↓eCB, ↓eNeg, ↓eChain, ↓eAppend, ↓ePop, ↓eNo, ↓eSome, ↓eSl, ↓gSl_t, ↓gSl_l, ↓gSl_a, ↓gAdd_i, ↓gAdd_t, ↓gAdd_s, ↓gAdd_l, ↓gI0_i, ↓gI_i, ↓gMul_i, ↓gMul_t, ↓gEq_, ↓gNe_, ↓gIs_n, ↓gIs_b, ↓gIsNot_n, ↓gIsNot_b, ↓gIn_, ↓gNotIn_, ↓gIx_t, ↓gIx_l, ↓gIx_a, ↓gLen_, ↓gLen_l, ↓gLen_a, ↓gInt_, ↓gInt_b, ↓gTuple_, ↓gTuple_l, ↓gTuple_a, ↓gMax_, ↓gMin_, ↓gIsBool_b, ↓gIsBool_i, seqOf_t, seqOf_l, seqOf_a, lstOf_l, lstOf_a, rsv_i, rsv_b, rsv_s, rsv_n, rsv_t, rsv_l, dle_i, dle_b, dle_n, eqD_i, eqD_b, isNon, bNm_, bTup_, bCons_, bNil_, Option.bind_some, i40, i41, i42, i43, atI0, atI1, atI2, atI3, mset_same, true_and, beq_self_eq_true, Bool.false_eq_true, c0, c1, Int.cast_ofNat_Int, Int.reduceEq, Int.reduceLT, Int.reduceLE, Int.reduceAdd, Int.reduceSub, ↓reduceIte]
    rw [fits_nil] at q
    exact q
  | cons x w =>
    have z1 : decide (((w.length + 1 : Nat) : Int) = 0) = false := decide_eq_false (by omega)
    cases p with
    | nil =>
      try simp -dsimp only [bodyE, startD, List.map_cons, List.map_nil, List.length_cons, List.length_nil, List.replicate_succ, List.replicate_zero, List.cons_append, List.nil_append, Nat.reduceAdd, Nat.reduceSub, List.set_cons_zero, List.set_cons_succ, List.getElem?_cons_zero, List.getElem?_cons_succ, Bool.not_true, Bool.not_false, decide_true, decide_false, ↓IfS_t, ↓IfS_f, ↓IfE_t, ↓IfE_f, ↓AndT_t, ↓AndT_f, ↓OrT_t, ↓OrT_f, ↓AndV_t, ↓AndV_f, ↓OrV_t, ↓OrV_f, IfS_t, IfS_f, IfE_t, IfE_f, AndT_t, AndT_f, OrT_t, OrT_f, AndV_t, AndV_f, OrV_t, OrV_f, ↓eThen, ↓ePass, ↓eBreak, ↓eCont, ↓eExpr, ↓eRet, ↓eRetN, ↓eIfS, ↓eSet, ↓eOwn, ↓eAsg, ↓eSetIx, ↓eGSetIx, ↓eAug, ↓eIadd, ↓eIaddL, ↓eFrz, ↓eFor, ↓eWhile, ↓eNm, ↓eC, ↓eOp, ↓eB, ↓eTr, ↓eTrB, ↓eTrI, ↓eTrN, ↓eTrT, ↓eTrL, ↓eTrA, ↓eAnd, ↓eOr, ↓eNot, ↓eAndV, ↓eOrV, ↓eNotV, ↓eIf, ↓eNil, ↓eCons, ↓eTup, ↓eOfL, ↓eLstL, ↓eListL, ↓eCatL, ↓eLc, ↓eWipe0, ↓eWipe, ↓eSeq, ↓eRng1, ↓eRng2, ↓eCall, ↓eCB, ↓eNeg, ↓eChain, ↓eAppend, ↓ePop, ↓eNo, ↓eSome, ↓eSl, ↓gSl_t, ↓gSl_l, ↓gSl_a, ↓gAdd_i, ↓gAdd_t, ↓gAdd_s, ↓gAdd_l, ↓gI0_i, ↓gI_i, ↓gMul_i, ↓gMul_t, ↓gEq_, ↓gNe_, ↓gIs_n, ↓gIs_b, ↓gIsNot_n, ↓gIsNot_b, ↓gIn_, ↓gNotIn_, ↓gIx_t, ↓gIx_l, ↓gIx_a, ↓gLen_, ↓gLen_l, ↓gLen_a, ↓gInt_, ↓gInt_b, ↓gTuple_, ↓gTuple_l, ↓gTuple_a, ↓gMax_, ↓gMin_, ↓gIsBool_b, ↓gIsBool_i, seqOf_t, seqOf_l, seqOf_a, lstOf_l, lstOf_a, rsv_i, rsv_b, rsv_s, rsv_n, rsv_t, rsv_l, dle_i, dle_b, dle_n, eqD_i, eqD_b, isNon, bNm_, bTup_, bCons_, bNil_, Option.bind_some, i40, i41, i42, i43, atI0, atI1, atI2, atI3, mset_same, true_and, beq_self_eq_true, Bool.false_eq_true, c0, c1, Int.cast_ofNat_Int, Int.reduceEq, Int.reduceLT, Int.reduceLE, Int.reduceAdd, Int.reduceSub, ↓reduceIte, List.length_map, z1]
      rw [fits_none] at q
      exact q
    | cons A p =>
      have z2 : decide (((p.length + 1 : Nat) : Int) = 0) = false := decide_eq_false (by omega)
      rw [List.length_cons, List.length_cons] at hn
      cases A with
      | one a =>
        unfold atD
        try simp -dsimp only [bodyE, startD, List.map_cons, List.map_nil, List.length_cons, List.length_nil, List.replicate_succ, List.replicate_zero, List.cons_append, List.nil_append, Nat.reduceAdd, Nat.reduceSub, List.set_cons_zero, List.set_cons_succ, List.getElem?_cons_zero, List.getElem?_cons_succ, Bool.not_true, Bool.not_false, decide_true, decide_false, ↓IfS_t, ↓IfS_f, ↓IfE_t, ↓IfE_f, ↓AndT_t, ↓AndT_f, ↓OrT_t, ↓OrT_f, ↓AndV_t, ↓AndV_f, ↓OrV_t, ↓OrV_f, IfS_t, IfS_f, IfE_t, IfE_f, AndT_t, AndT_f, OrT_t, OrT_f, AndV_t, AndV_f, OrV_t, OrV_f, ↓eThen, ↓ePass, ↓eBreak, ↓eCont, ↓eExpr, ↓eRet, ↓eRetN, ↓eIfS, ↓eSet, ↓eOwn, ↓eAsg, ↓eSetIx, ↓eGSetIx, ↓eAug, ↓eIadd, ↓eIaddL, ↓eFrz, ↓eFor, ↓eWhile, ↓eNm, ↓eC, ↓eOp, ↓eB, ↓eTr, ↓eTrB, ↓eTrI, ↓eTrN, ↓eTrT, ↓eTrL, ↓eTrA, ↓eAnd, ↓eOr, ↓eNot, ↓eAndV, ↓eOrV, ↓eNotV, ↓eIf, ↓eNil, ↓eCons, ↓eTup, ↓eOfL, ↓eLstL, ↓eListL, ↓eCatL, ↓eLc, ↓eWipe0, ↓eWipe, ↓eSeq, ↓eRng1, ↓eRng2, ↓eCall, ↓eCB, ↓eNeg, ↓eChain, ↓eAppend, ↓ePop, ↓eNo, ↓eSome, ↓eSl, ↓gSl_t, ↓gSl_l, ↓gSl_a, ↓gAdd_i, ↓gAdd_t, ↓gAdd_s, ↓gAdd_l, ↓gI0_i, ↓gI_i, ↓gMul_i, ↓gMul_t, ↓gEq_, ↓gNe_, ↓gIs_n, ↓gIs_b, ↓gIsNot_n, ↓gIsNot_b, ↓gIn_, ↓gNotIn_, ↓gIx_t, ↓gIx_l, ↓gIx_a, ↓gLen_, ↓gLen_l, ↓gLen_a, ↓gInt_, ↓gInt_b, ↓gTuple_, ↓gTuple_l, ↓gTuple_a, ↓gMax_, ↓gMin_, ↓gIsBool_b, ↓gIsBool_i, seqOf_t, seqOf_l, seqOf_a, lstOf_l, lstOf_a, rsv_i, rsv_b, rsv_s, rsv_n, rsv_t, rsv_l, dle_i, dle_b, dle_n, eqD_i, eqD_b, isNon, bNm_, bTup_, bCons_, bNil_, Option.bind_some, i40, i41, i42, i43, atI0, atI1, atI2, atI3, mset_same, true_and, beq_self_eq_true, Bool.false_eq_true, c0, c1, Int.cast_ofNat_Int, Int.reduceEq, Int.reduceLT, Int.reduceLE, Int.reduceAdd, Int.reduceSub, ↓reduceIte, List.length_map, z1, z2, eqD_s, k_someD, dle_str k_some, cut1]
        rw [fits_one] at q
        by_cases hx : x = a
        · rw [if_pos hx] at q
          rw [decide_eq_true hx]
          try simp -dsimp only [bodyE, startD, List.map_cons, List.map_nil, List.length_cons, List.length_nil, List.replicate_succ, List.replicate_zero, List.cons_append, List.nil_append, Nat.reduceAdd, Nat.reduceSub, List.set_cons_zero, List.set_cons_succ, List.getElem?_cons_zero, List.getElem?_cons_succ, Bool.not_true, Bool.not_false, decide_true, decide_false, ↓IfS_t, ↓IfS_f, ↓IfE_t, ↓IfE_f, ↓AndT_t, ↓AndT_f, ↓OrT_t, ↓OrT_f, ↓AndV_t, ↓AndV_f, ↓OrV_t, ↓OrV_f, IfS_t, IfS_f, IfE_t, IfE_f, AndT_t, AndT_f, OrT_t, OrT_f, AndV_t, AndV_f, OrV_t, OrV_f, ↓eThen, ↓ePass, ↓eBreak, ↓eCont, ↓eExpr, ↓eRet, ↓eRetN, ↓eIfS, ↓eSet, ↓eOwn, ↓eAsg, ↓eSetIx, ↓eGSetIx, ↓eAug, ↓eIadd, ↓eIaddL, ↓eFrz, ↓eFor, ↓eWhile, ↓eNm, ↓eC, ↓eOp, ↓eB, ↓eTr, ↓eTrB, ↓eTrI, ↓eTrN, ↓eTrT, ↓eTrL, ↓eTrA, ↓eAnd, ↓eOr, ↓eNot, ↓eAndV, ↓eOrV, ↓eNotV, ↓eIf, ↓eNil, ↓eCons, ↓eTup, ↓eOfL, ↓eLstL, ↓eListL, ↓eCatL, ↓eLc, ↓eWipe0, ↓eWipe, ↓eSeq, ↓eRng1, ↓eRng2, ↓eCall, ↓eCB, ↓eNeg, ↓eChain, ↓eAppend, ↓ePop, ↓eNo, ↓eSome, ↓eSl, ↓gSl_t, ↓gSl_l, ↓gSl_a, ↓gAdd_i, ↓gAdd_t, ↓gAdd_s, ↓gAdd_l, ↓gI0_i, ↓gI_i, ↓gMul_i, ↓gMul_t, ↓gEq_, ↓gNe_, ↓gIs_n, ↓gIs_b, ↓gIsNot_n, ↓gIsNot_b, ↓gIn_, ↓gNotIn_, ↓gIx_t, ↓gIx_l, ↓gIx_a, ↓gLen_, ↓gLen_l, ↓gLen_a, ↓gInt_, ↓gInt_b, ↓gTuple_, ↓gTuple_l, ↓gTuple_a, ↓gMax_, ↓gMin_, ↓gIsBool_b, ↓gIsBool_i, seqOf_t, seqOf_l, seqOf_a, lstOf_l, lstOf_a, rsv_i, rsv_b, rsv_s, rsv_n, rsv_t, rsv_l, dle_i, dle_b, dle_n, eqD_i, eqD_b, isNon, bNm_, bTup_, bCons_, bNil_, Option.bind_some, i40, i41, i42, i43, atI0, atI1, atI2, atI3, mset_same, true_and, beq_self_eq_true, Bool.false_eq_true, c0, c1, Int.cast_ofNat_Int, Int.reduceEq, Int.reduceLT, Int.reduceLE, Int.reduceAdd, Int.reduceSub, ↓reduceIte, cut1]
          refine ⟨p, w, rfl, by omega, ?_⟩
          try simp -dsimp only [bodyE, startD, List.map_cons, List.map_nil, List.length_cons, List.length_nil, List.replicate_succ, List.replicate_zero, List.cons_append, List.nil_append, Nat.reduceAdd, Nat.reduceSub, List.set_cons_zero, List.set_cons_succ, List.getElem?_cons_zero, List.getElem?_cons_succ, Bool.not_true, Bool.not_false, decide_true, decide_false, ↓IfS_t, ↓IfS_f, ↓IfE_t, ↓IfE_f, ↓AndT_t, ↓AndT_f, ↓OrT_t, ↓OrT_f, ↓AndV_t, ↓AndV_f, ↓OrV_t, ↓OrV_f, IfS_t, IfS_f, IfE_t, IfE_f, AndT_t, AndT_f, OrT_t, OrT_f, AndV_t, AndV_f, OrV_t, OrV_f, ↓eThen, ↓ePass, ↓eBreak, ↓eCont, ↓eExpr, ↓eRet, ↓eRetN, ↓eIfS, ↓eSet, ↓eOwn, ↓eAsg, ↓eSetIx, ↓eGSetIx, ↓eAug, ↓eIadd, ↓eIaddL, ↓eFrz, ↓eFor, ↓eWhile, ↓eNm, ↓eC, ↓eOp, ↓eB, ↓eTr, ↓eTrB, ↓eTrI, ↓eTrN, ↓eTrT, ↓eTrL, ↓eTrA, ↓eAnd, ↓eOr, ↓eNot, ↓eAndV, ↓eOrV, ↓eNotV, ↓eIf, ↓eNil, ↓eCons, ↓eTup, ↓eOfL, ↓eLstL, ↓eListL, ↓eCatL, ↓eLc, ↓eWipe0, ↓eWipe, ↓eSeq, ↓eRng1, ↓eRng2, ↓eCall, ↓eCB, ↓eNeg, ↓eChain, ↓eAppend, ↓ePop, ↓eNo, ↓eSome, ↓eSl, ↓gSl_t, ↓gSl_l, ↓gSl_a, ↓gAdd_i, ↓gAdd_t, ↓gAdd_s, ↓gAdd_l, ↓gI0_i, ↓gI_i, ↓gMul_i, ↓gMul_t, ↓gEq_, ↓gNe_, ↓gIs_n, ↓gIs_b, ↓gIsNot_n, ↓gIsNot_b, ↓gIn_, ↓gNotIn_, ↓gIx_t, ↓gIx_l, ↓gIx_a, ↓gLen_, ↓gLen_l, ↓gLen_a, ↓gInt_, ↓gInt_b, ↓gTuple_, ↓gTuple_l, ↓gTuple_a, ↓gMax_, ↓gMin_, ↓gIsBool_b, ↓gIsBool_i, seqOf_t, seqOf_l, seqOf_a, lstOf_l, lstOf_a, rsv_i, rsv_b, rsv_s, rsv_n, rsv_t, rsv_l, dle_i, dle_b, dle_n, eqD_i, eqD_b, isNon, bNm_, bTup_, bCons_, bNil_, Option.bind_some, i40, i41, i42, i43, atI0, atI1, atI2, atI3, mset_same, true_and, beq_self_eq_true, Bool.false_eq_true, c0, c1, Int.cast_ofNat_Int, Int.reduceEq, Int.reduceLT, Int.reduceLE, Int.reduceAdd, Int.reduceSub, ↓reduceIte]
          refine IfS_mk (fun h => ?_) fun h => ?_
          · rw [h, Bool.true_or] at q
            try simp -dsimp only [bodyE, startD, List.map_cons, List.map_nil, List.length_cons, List.length_nil, List.replicate_succ, List.replicate_zero, List.cons_append, List.nil_append, Nat.reduceAdd, Nat.reduceSub, List.set_cons_zero, List.set_cons_succ, List.getElem?_cons_zero, List.getElem?_cons_succ, Bool.not_true, Bool.not_false, decide_true, decide_false, ↓IfS_t, ↓IfS_f, ↓IfE_t, ↓IfE_f, ↓AndT_t, ↓AndT_f, ↓OrT_t, ↓OrT_f, ↓AndV_t, ↓AndV_f, ↓OrV_t, ↓OrV_f, IfS_t, IfS_f, IfE_t, IfE_f, AndT_t, AndT_f, OrT_t, OrT_f, AndV_t, AndV_f, OrV_t, OrV_f, ↓eThen, ↓ePass, ↓eBreak, ↓eCont, ↓eExpr, ↓eRet, ↓eRetN, ↓eIfS, ↓eSet, ↓eOwn, ↓eAsg, ↓eSetIx, ↓eGSetIx, ↓eAug, ↓eIadd, ↓eIaddL, ↓eFrz, ↓eFor, ↓eWhile, ↓eNm, ↓eC, ↓eOp, ↓eB, ↓eTr, ↓eTrB, ↓eTrI, ↓eTrN, ↓eTrT, ↓eTrL, ↓eTrA, ↓eAnd, ↓eOr, ↓eNot, ↓eAndV, ↓eOrV, ↓eNotV, ↓eIf, ↓eNil, ↓eCons, ↓eTup, ↓eOfL, ↓eLstL, ↓eListL, ↓eCatL, ↓eLc, ↓eWipe0, ↓eWipe, ↓eSeq, ↓eRng1, ↓eRng2, ↓eCall, ↓eCB, ↓eNeg, ↓eChain, ↓eAppend, ↓ePop, ↓eNo, ↓eSome, ↓eSl, ↓gSl_t, ↓gSl_l, ↓gSl_a, ↓gAdd_i, ↓gAdd_t, ↓gAdd_s, ↓gAdd_l, ↓gI0_i, ↓gI_i, ↓gMul_i, ↓gMul_t, ↓gEq_, ↓gNe_, ↓gIs_n, ↓gIs_b, ↓gIsNot_n, ↓gIsNot_b, ↓gIn_, ↓gNotIn_, ↓gIx_t, ↓gIx_l, ↓gIx_a, ↓gLen_, ↓gLen_l, ↓gLen_a, ↓gInt_, ↓gInt_b, ↓gTuple_, ↓gTuple_l, ↓gTuple_a, ↓gMax_, ↓gMin_, ↓gIsBool_b, ↓gIsBool_i, seqOf_t, seqOf_l, seqOf_a, lstOf_l, lstOf_a, rsv_i, rsv_b, rsv_s, rsv_n, rsv_t, rsv_l, dle_i, dle_b, dle_n, eqD_i, eqD_b, isNon, bNm_, bTup_, bCons_, bNil_, Option.bind_some, i40, i41, i42, i43, atI0, atI1, atI2, atI3, mset_same, true_and, beq_self_eq_true, Bool.false_eq_true, c0, c1, Int.cast_ofNat_Int, Int.reduceEq, Int.reduceLT, Int.reduceLE, Int.reduceAdd, Int.reduceSub, ↓reduceIte]
            exact q
          · rw [h, Bool.false_or] at q
            try simp -dsimp only [bodyE, startD, List.map_cons, List.map_nil, List.length_cons, List.length_nil, List.replicate_succ, List.replicate_zero, List.cons_append, List.nil_append, Nat.reduceAdd, Nat.reduceSub, List.set_cons_zero, List.set_cons_succ, List.getElem?_cons_zero, List.getElem?_cons_succ, Bool.not_true, Bool.not_false, decide_true, decide_false, ↓IfS_t, ↓IfS_f, ↓IfE_t, ↓IfE_f, ↓AndT_t, ↓AndT_f, ↓OrT_t, ↓OrT_f, ↓AndV_t, ↓AndV_f, ↓OrV_t, ↓OrV_f, IfS_t, IfS_f, IfE_t, IfE_f, AndT_t, AndT_f, OrT_t, OrT_f, AndV_t, AndV_f, OrV_t, OrV_f, ↓eThen, ↓ePass, ↓eBreak, ↓eCont, ↓eExpr, ↓eRet, ↓eRetN, ↓eIfS, ↓eSet, ↓eOwn, ↓eAsg, ↓eSetIx, ↓eGSetIx, ↓eAug, ↓eIadd, ↓eIaddL, ↓eFrz, ↓eFor, ↓eWhile, ↓eNm, ↓eC, ↓eOp, ↓eB, ↓eTr, ↓eTrB, ↓eTrI, ↓eTrN, ↓eTrT, ↓eTrL, ↓eTrA, ↓eAnd, ↓eOr, ↓eNot, ↓eAndV, ↓eOrV, ↓eNotV, ↓eIf, ↓eNil, ↓eCons, ↓eTup, ↓eOfL, ↓eLstL, ↓eListL, ↓eCatL, ↓eLc, ↓eWipe0, ↓eWipe, ↓eSeq, ↓eRng1, ↓eRng2, ↓eCall, ↓eCB, ↓eNeg, ↓eChain, ↓eAppend, ↓ePop, ↓eNo, ↓eSome, ↓eSl, ↓gSl_t, ↓gSl_l, ↓gSl_a, ↓gAdd_i, ↓gAdd_t, ↓gAdd_s, ↓gAdd_l, ↓gI0_i, ↓gI_i, ↓gMul_i, ↓gMul_t, ↓gEq_, ↓gNe_, ↓gIs_n, ↓gIs_b, ↓gIsNot_n, ↓gIsNot_b, ↓gIn_, ↓gNotIn_, ↓gIx_t, ↓gIx_l, ↓gIx_a, ↓gLen_, ↓gLen_l, ↓gLen_a, ↓gInt_, ↓gInt_b, ↓gTuple_, ↓gTuple_l, ↓gTuple_a, ↓gMax_, ↓gMin_, ↓gIsBool_b, ↓gIsBool_i, seqOf_t, seqOf_l, seqOf_a, lstOf_l, lstOf_a, rsv_i, rsv_b, rsv_s, rsv_n, rsv_t, rsv_l, dle_i, dle_b, dle_n, eqD_i, eqD_b, isNon, bNm_, bTup_, bCons_, bNil_, Option.bind_some, i40, i41, i42, i43, atI0, atI1, atI2, atI3, mset_same, true_and, beq_self_eq_true, Bool.false_eq_true, c0, c1, Int.cast_ofNat_Int, Int.reduceEq, Int.reduceLT, Int.reduceLE, Int.reduceAdd, Int.reduceSub, ↓reduceIte, cut1]
            exact ⟨p, x :: w, rfl, by rw [List.length_cons]; omega, q⟩
        · rw [if_neg hx] at q
          rw [decide_eq_false hx]
          try simp -dsimp only [bodyE, startD, List.map_cons, List.map_nil, List.length_cons, List.length_nil, List.replicate_succ, List.replicate_zero, List.cons_append, List.nil_append, Nat.reduceAdd, Nat.reduceSub, List.set_cons_zero, List.set_cons_succ, List.getElem?_cons_zero, List.getElem?_cons_succ, Bool.not_true, Bool.not_false, decide_true, decide_false, ↓IfS_t, ↓IfS_f, ↓IfE_t, ↓IfE_f, ↓AndT_t, ↓AndT_f, ↓OrT_t, ↓OrT_f, ↓AndV_t, ↓AndV_f, ↓OrV_t, ↓OrV_f, IfS_t, IfS_f, IfE_t, IfE_f, AndT_t, AndT_f, OrT_t, OrT_f, AndV_t, AndV_f, OrV_t, OrV_f, ↓eThen, ↓ePass, ↓eBreak, ↓eCont, ↓eExpr, ↓eRet, ↓eRetN, ↓eIfS, ↓eSet, ↓eOwn, ↓eAsg, ↓eSetIx, ↓eGSetIx, ↓eAug, ↓eIadd, ↓eIaddL, ↓eFrz, ↓eFor, ↓eWhile, ↓eNm, ↓eC, ↓eOp, ↓eB, ↓eTr, ↓eTrB, ↓eTrI, ↓eTrN, ↓eTrT, ↓eTrL, ↓eTrA, ↓eAnd, ↓eOr, ↓eNot, ↓eAndV, ↓eOrV, ↓eNotV, ↓eIf, ↓eNil, ↓eCons, ↓eTup, ↓eOfL, ↓eLstL, ↓eListL, ↓eCatL, ↓eLc, ↓eWipe0, ↓eWipe, ↓eSeq, ↓eRng1, ↓eRng2, ↓eCall, ↓eCB, ↓eNeg, ↓eChain, ↓eAppend, ↓ePop, ↓eNo, ↓eSome, ↓eSl, ↓gSl_t, ↓gSl_l, ↓gSl_a, ↓gAdd_i, ↓gAdd_t, ↓gAdd_s, ↓gAdd_l, ↓gI0_i, ↓gI_i, ↓gMul_i, ↓gMul_t, ↓gEq_, ↓gNe_, ↓gIs_n, ↓gIs_b, ↓gIsNot_n, ↓gIsNot_b, ↓gIn_, ↓gNotIn_, ↓gIx_t, ↓gIx_l, ↓gIx_a, ↓gLen_, ↓gLen_l, ↓gLen_a, ↓gInt_, ↓gInt_b, ↓gTuple_, ↓gTuple_l, ↓gTuple_a, ↓gMax_, ↓gMin_, ↓gIsBool_b, ↓gIsBool_i, seqOf_t, seqOf_l, seqOf_a, lstOf_l, lstOf_a, rsv_i, rsv_b, rsv_s, rsv_n, rsv_t, rsv_l, dle_i, dle_b, dle_n, eqD_i, eqD_b, isNon, bNm_, bTup_, bCons_, bNil_, Option.bind_some, i40, i41, i42, i43, atI0, atI1, atI2, atI3, mset_same, true_and, beq_self_eq_true, Bool.false_eq_true, c0, c1, Int.cast_ofNat_Int, Int.reduceEq, Int.reduceLT, Int.reduceLE, Int.reduceAdd, Int.reduceSub, ↓reduceIte, cut1]
          exact ⟨p, x :: w, rfl, by rw [List.length_cons]; omega, q⟩
      | any s =>
        unfold atD wD
        try simp -dsimp only [bodyE, startD, List.map_cons, List.map_nil, List.length_cons, List.length_nil, List.replicate_succ, List.replicate_zero, List.cons_append, List.nil_append, Nat.reduceAdd, Nat.reduceSub, List.set_cons_zero, List.set_cons_succ, List.getElem?_cons_zero, List.getElem?_cons_succ, Bool.not_true, Bool.not_false, decide_true, decide_false, ↓IfS_t, ↓IfS_f, ↓IfE_t, ↓IfE_f, ↓AndT_t, ↓AndT_f, ↓OrT_t, ↓OrT_f, ↓AndV_t, ↓AndV_f, ↓OrV_t, ↓OrV_f, IfS_t, IfS_f, IfE_t, IfE_f, AndT_t, AndT_f, OrT_t, OrT_f, AndV_t, AndV_f, OrV_t, OrV_f, ↓eThen, ↓ePass, ↓eBreak, ↓eCont, ↓eExpr, ↓eRet, ↓eRetN, ↓eIfS, ↓eSet, ↓eOwn, ↓eAsg, ↓eSetIx, ↓eGSetIx, ↓eAug, ↓eIadd, ↓eIaddL, ↓eFrz, ↓eFor, ↓eWhile, ↓eNm, ↓eC, ↓eOp, ↓eB, ↓eTr, ↓eTrB, ↓eTrI, ↓eTrN, ↓eTrT, ↓eTrL, ↓eTrA, ↓eAnd, ↓eOr, ↓eNot, ↓eAndV, ↓eOrV, ↓eNotV, ↓eIf, ↓eNil, ↓eCons, ↓eTup, ↓eOfL, ↓eLstL, ↓eListL, ↓eCatL, ↓eLc, ↓eWipe0, ↓eWipe, ↓eSeq, ↓eRng1, ↓eRng2, ↓eCall, ↓eCB, ↓eNeg, ↓eChain, ↓eAppend, ↓ePop, ↓eNo, ↓eSome, ↓eSl, ↓gSl_t, ↓gSl_l, ↓gSl_a, ↓gAdd_i, ↓gAdd_t, ↓gAdd_s, ↓gAdd_l, ↓gI0_i, ↓gI_i, ↓gMul_i, ↓gMul_t, ↓gEq_, ↓gNe_, ↓gIs_n, ↓gIs_b, ↓gIsNot_n, ↓gIsNot_b, ↓gIn_, ↓gNotIn_, ↓gIx_t, ↓gIx_l, ↓gIx_a, ↓gLen_, ↓gLen_l, ↓gLen_a, ↓gInt_, ↓gInt_b, ↓gTuple_, ↓gTuple_l, ↓gTuple_a, ↓gMax_, ↓gMin_, ↓gIsBool_b, ↓gIsBool_i, seqOf_t, seqOf_l, seqOf_a, lstOf_l, lstOf_a, rsv_i, rsv_b, rsv_s, rsv_n, rsv_t, rsv_l, dle_i, dle_b, dle_n, eqD_i, eqD_b, isNon, bNm_, bTup_, bCons_, bNil_, Option.bind_some, i40, i41, i42, i43, atI0, atI1, atI2, atI3, mset_same, true_and, beq_self_eq_true, Bool.false_eq_true, c0, c1, Int.cast_ofNat_Int, Int.reduceEq, Int.reduceLT, Int.reduceLE, Int.reduceAdd, Int.reduceSub, ↓reduceIte, List.length_map, z1, z2, eqD_s, k_someD, dle_str k_some, dle_str k_any, some_ne_any, any_int, all_int, cut1]
        rw [fits_any] at q
        by_cases hx : x ∈ s
        · rw [if_pos hx] at q
          rw [decide_eq_true hx]
          try simp -dsimp only [bodyE, startD, List.map_cons, List.map_nil, List.length_cons, List.length_nil, List.replicate_succ, List.replicate_zero, List.cons_append, List.nil_append, Nat.reduceAdd, Nat.reduceSub, List.set_cons_zero, List.set_cons_succ, List.getElem?_cons_zero, List.getElem?_cons_succ, Bool.not_true, Bool.not_false, decide_true, decide_false, ↓IfS_t, ↓IfS_f, ↓IfE_t, ↓IfE_f, ↓AndT_t, ↓AndT_f, ↓OrT_t, ↓OrT_f, ↓AndV_t, ↓AndV_f, ↓OrV_t, ↓OrV_f, IfS_t, IfS_f, IfE_t, IfE_f, AndT_t, AndT_f, OrT_t, OrT_f, AndV_t, AndV_f, OrV_t, OrV_f, ↓eThen, ↓ePass, ↓eBreak, ↓eCont, ↓eExpr, ↓eRet, ↓eRetN, ↓eIfS, ↓eSet, ↓eOwn, ↓eAsg, ↓eSetIx, ↓eGSetIx, ↓eAug, ↓eIadd, ↓eIaddL, ↓eFrz, ↓eFor, ↓eWhile, ↓eNm, ↓eC, ↓eOp, ↓eB, ↓eTr, ↓eTrB, ↓eTrI, ↓eTrN, ↓eTrT, ↓eTrL, ↓eTrA, ↓eAnd, ↓eOr, ↓eNot, ↓eAndV, ↓eOrV, ↓eNotV, ↓eIf, ↓eNil, ↓eCons, ↓eTup, ↓eOfL, ↓eLstL, ↓eListL, ↓eCatL, ↓eLc, ↓eWipe0, ↓eWipe, ↓eSeq, ↓eRng1, ↓eRng2, ↓eCall, ↓eCB, ↓eNeg, ↓eChain, ↓eAppend, ↓ePop, ↓eNo, ↓eSome, ↓eSl, ↓gSl_t, ↓gSl_l, ↓gSl_a, ↓gAdd_i, ↓gAdd_t, ↓gAdd_s, ↓gAdd_l, ↓gI0_i, ↓gI_i, ↓gMul_i, ↓gMul_t, ↓gEq_, ↓gNe_, ↓gIs_n, ↓gIs_b, ↓gIsNot_n, ↓gIsNot_b, ↓gIn_, ↓gNotIn_, ↓gIx_t, ↓gIx_l, ↓gIx_a, ↓gLen_, ↓gLen_l, ↓gLen_a, ↓gInt_, ↓gInt_b, ↓gTuple_, ↓gTuple_l, ↓gTuple_a, ↓gMax_, ↓gMin_, ↓gIsBool_b, ↓gIsBool_i, seqOf_t, seqOf_l, seqOf_a, lstOf_l, lstOf_a, rsv_i, rsv_b, rsv_s, rsv_n, rsv_t, rsv_l, dle_i, dle_b, dle_n, eqD_i, eqD_b, isNon, bNm_, bTup_, bCons_, bNil_, Option.bind_some, i40, i41, i42, i43, atI0, atI1, atI2, atI3, mset_same, true_and, beq_self_eq_true, Bool.false_eq_true, c0, c1, Int.cast_ofNat_Int, Int.reduceEq, Int.reduceLT, Int.reduceLE, Int.reduceAdd, Int.reduceSub, ↓reduceIte, cut1]
          exact ⟨.any s :: p, w, rfl, by rw [List.length_cons]; omega, q⟩
        · rw [if_neg hx] at q
          rw [decide_eq_false hx]
          try simp -dsimp only [bodyE, startD, List.map_cons, List.map_nil, List.length_cons, List.length_nil, List.replicate_succ, List.replicate_zero, List.cons_append, List.nil_append, Nat.reduceAdd, Nat.reduceSub, List.set_cons_zero, List.set_cons_succ, List.getElem?_cons_zero, List.getElem?_cons_succ, Bool.not_true, Bool.not_false, decide_true, decide_false, ↓IfS_t, ↓IfS_f, ↓IfE_t, ↓IfE_f, ↓AndT_t, ↓AndT_f, ↓OrT_t, ↓OrT_f, ↓AndV_t, ↓AndV_f, ↓OrV_t, ↓OrV_f, IfS_t, IfS_f, IfE_t, IfE_f, AndT_t, AndT_f, OrT_t, OrT_f, AndV_t, AndV_f, OrV_t, OrV_f, ↓eThen, ↓ePass, ↓eBreak, ↓eCont, ↓eExpr, ↓eRet, ↓eRetN, ↓eIfS, ↓eSet, ↓eOwn, ↓eAsg, ↓eSetIx, ↓eGSetIx, ↓eAug, ↓eIadd, ↓eIaddL, ↓eFrz, ↓eFor, ↓eWhile, ↓eNm, ↓eC, ↓eOp, ↓eB, ↓eTr, ↓eTrB, ↓eTrI, ↓eTrN, ↓eTrT, ↓eTrL, ↓eTrA, ↓eAnd, ↓eOr, ↓eNot, ↓eAndV, ↓eOrV, ↓eNotV, ↓eIf, ↓eNil, ↓eCons, ↓eTup, ↓eOfL, ↓eLstL, ↓eListL, ↓eCatL, ↓eLc, ↓eWipe0, ↓eWipe, ↓eSeq, ↓eRng1, ↓eRng2, ↓eCall, ↓eCB, ↓eNeg, ↓eChain, ↓eAppend, ↓ePop, ↓eNo, ↓eSome, ↓eSl, ↓gSl_t, ↓gSl_l, ↓gSl_a, ↓gAdd_i, ↓gAdd_t, ↓gAdd_s, ↓gAdd_l, ↓gI0_i, ↓gI_i, ↓gMul_i, ↓gMul_t, ↓gEq_, ↓gNe_, ↓gIs_n, ↓gIs_b, ↓gIsNot_n, ↓gIsNot_b, ↓gIn_, ↓gNotIn_, ↓gIx_t, ↓gIx_l, ↓gIx_a, ↓gLen_, ↓gLen_l, ↓gLen_a, ↓gInt_, ↓gInt_b, ↓gTuple_, ↓gTuple_l, ↓gTuple_a, ↓gMax_, ↓gMin_, ↓gIsBool_b, ↓gIsBool_i, seqOf_t, seqOf_l, seqOf_a, lstOf_l, lstOf_a, rsv_i, rsv_b, rsv_s, rsv_n, rsv_t, rsv_l, dle_i, dle_b, dle_n, eqD_i, eqD_b, isNon, bNm_, bTup_, bCons_, bNil_, Option.bind_some, i40, i41, i42, i43, atI0, atI1, atI2, atI3, mset_same, true_and, beq_self_eq_true, Bool.false_eq_true, c0, c1, Int.cast_ofNat_Int, Int.reduceEq, Int.reduceLT, Int.reduceLE, Int.reduceAdd, Int.reduceSub, ↓reduceIte, cut1]
          exact ⟨p, x :: w, rfl, by rw [List.length_cons]; omega, q⟩
/-! the word that repeats each atom's letters -/
def big (m : Nat) : List Atom → List Int
  | [] => []
  | .one a :: p => a :: big m p
  | .any s :: p => (List.replicate m s).flatten ++ big m p
def S_lbig : FSpec := fun ds M Q _ => ∃ (p : List Atom) (o : List Atom), ds = [pD p, pD o] ∧ p.length ≤ 100 ∧ o.length ≤ 100 ∧ (∀ A ∈ p, okA 1000 A) ∧ Q (wD (big (o.length + 2) p)) M
theorem flat_len {s : List Int} : ∀ m : Nat, (List.replicate m s).flatten.length = m * s.length
  | 0 => by simp
  | m + 1 => by rw [List.replicate_succ, List.flatten_cons, List.length_append, flat_len m, Nat.succ_mul, Nat.add_comm]
theorem map_flat {s : List Int} : ∀ m : Nat, (List.replicate m s).flatten.map D.int = (List.replicate m (s.map D.int)).flatten
  | 0 => rfl
  | m + 1 => by rw [List.replicate_succ, List.replicate_succ, List.flatten_cons, List.flatten_cons, List.map_append, map_flat m]
theorem b_lbig (ds : List D) (M : Mu) (Q : D → Mu → Prop) (xw : XW) (h : S_lbig ds M Q xw) : bodyE N_lbig f_lbig ds M Q xw := by
  obtain ⟨p, o, rfl, hp, ho, hA, q⟩ := h
  simp only [bodyE, startD, N_lbig, List.map_cons, List.map_nil, List.length_cons, List.length_nil, List.replicate_succ, List.replicate_zero, List.cons_append, List.nil_append, Nat.reduceAdd, Nat.reduceSub]
  unfold f_lbig
  unfold pD
  try simp -dsimp only [bodyE, startD, List.map_cons, List.map_nil, List.length_cons, List.length_nil, List.replicate_succ, List.replicate_zero, List.cons_append, List.nil_append, Nat.reduceAdd, Nat.reduceSub, List.set_cons_zero, List.set_cons_succ, List.getElem?_cons_zero, List.getElem?_cons_succ, Bool.not_true, Bool.not_false, decide_true, decide_false, ↓IfS_t, ↓IfS_f, ↓IfE_t, ↓IfE_f, ↓AndT_t, ↓AndT_f, ↓OrT_t, ↓OrT_f, ↓AndV_t, ↓AndV_f, ↓OrV_t, ↓OrV_f, IfS_t, IfS_f, IfE_t, IfE_f, AndT_t, AndT_f, OrT_t, OrT_f, AndV_t, AndV_f, OrV_t, OrV_f, ↓eThen, ↓ePass, ↓eBreak, ↓eCont, ↓eExpr, ↓eRet, ↓eRetN, ↓eIfS, ↓eSet, ↓eOwn, ↓eAsg, ↓eSetIx, ↓eGSetIx, ↓eAug, ↓eIadd, ↓eIaddL, ↓eFrz, ↓eFor, ↓eWhile, ↓eNm, ↓eC, ↓eOp, ↓eB, ↓eTr, ↓eTrB, ↓eTrI, ↓eTrN, ↓eTrT, ↓eTrL, ↓eTrA, ↓eAnd, ↓eOr, ↓eNot, ↓eAndV, ↓eOrV, ↓eNotV, ↓eIf, ↓eNil, ↓eCons, ↓eTup, ↓eOfL, ↓eLstL, ↓eListL, ↓eCatL, ↓eLc, ↓eWipe0, ↓eWipe, ↓eSeq, ↓eRng1, ↓eRng2, ↓eCall, ↓eCB, ↓eNeg, ↓eChain, ↓eAppend, ↓ePop, ↓eNo, ↓eSome, ↓eSl, ↓gSl_t, ↓gSl_l, ↓gSl_a, ↓gAdd_i, ↓gAdd_t, ↓gAdd_s, ↓gAdd_l, ↓gI0_i, ↓gI_i, ↓gMul_i, ↓gMul_t, ↓gEq_, ↓gNe_, ↓gIs_n, ↓gIs_b, ↓gIsNot_n, ↓gIsNot_b, ↓gIn_, ↓gNotIn_, ↓gIx_t, ↓gIx_l, ↓gIx_a, ↓gLen_, ↓gLen_l, ↓gLen_a, ↓gInt_, ↓gInt_b, ↓gTuple_, ↓gTuple_l, ↓gTuple_a, ↓gMax_, ↓gMin_, ↓gIsBool_b, ↓gIsBool_i, seqOf_t, seqOf_l, seqOf_a, lstOf_l, lstOf_a, rsv_i, rsv_b, rsv_s, rsv_n, rsv_t, rsv_l, dle_i, dle_b, dle_n, eqD_i, eqD_b, isNon, bNm_, bTup_, bCons_, bNil_, Option.bind_some, i40, i41, i42, i43, atI0, atI1, atI2, atI3, mset_same, true_and, beq_self_eq_true, Bool.false_eq_true, c0, c1, Int.cast_ofNat_Int, Int.reduceEq, Int.reduceLT, Int.reduceLE, Int.reduceAdd, Int.reduceSub, ↓reduceIte]
  refine ⟨by decide, ?_⟩
  refine forS_ind (fun rest ρ M' => M = M' ∧ ∃ (r : List Atom) (w : List Int) (oo : Option D), rest = r.map atD ∧ ρ = [some (.tup (p.map atD)), some (.tup (o.map atD)), some (.tup (w.map .int)), oo] ∧ w ++ big (o.length + 2) r = big (o.length + 2) p ∧ r.length ≤ 100 ∧ w.length + 102000 * r.length ≤ 102000 * 100 ∧ ∀ A ∈ r, okA 1000 A) ?_ ?_ _ _ _ ⟨rfl, p, [], none, rfl, rfl, rfl, hp, by simp; omega, hA⟩
  · rintro d rest ρ M' ⟨rfl, r, w, oo, e1, rfl, hb, hr, hw, hA⟩
    have hsz : sizeLine = 16777216 := rfl
    cases r with
    | nil => cases e1
    | cons A r =>
      rw [List.map_cons] at e1
      cases e1
      rw [List.length_cons] at hr hw
      have hA2 := hA A List.mem_cons_self
      have hA3 : ∀ A ∈ r, okA 1000 A := fun B hB => hA B (List.mem_cons_of_mem _ hB)
      refine ⟨_, rfl, fun n c hn hc => ?_⟩
      cases A with
      | one a =>
        unfold atD
        try simp -dsimp only [bodyE, startD, List.map_cons, List.map_nil, List.length_cons, List.length_nil, List.replicate_succ, List.replicate_zero, List.cons_append, List.nil_append, Nat.reduceAdd, Nat.reduceSub, List.set_cons_zero, List.set_cons_succ, List.getElem?_cons_zero, List.getElem?_cons_succ, Bool.not_true, Bool.not_false, decide_true, decide_false, ↓IfS_t, ↓IfS_f, ↓IfE_t, ↓IfE_f, ↓AndT_t, ↓AndT_f, ↓OrT_t, ↓OrT_f, ↓AndV_t, ↓AndV_f, ↓OrV_t, ↓OrV_f, IfS_t, IfS_f, IfE_t, IfE_f, AndT_t, AndT_f, OrT_t, OrT_f, AndV_t, AndV_f, OrV_t, OrV_f, ↓eThen, ↓ePass, ↓eBreak, ↓eCont, ↓eExpr, ↓eRet, ↓eRetN, ↓eIfS, ↓eSet, ↓eOwn, ↓eAsg, ↓eSetIx, ↓eGSetIx, ↓eAug, ↓eIadd, ↓eIaddL, ↓eFrz, ↓eFor, ↓eWhile, ↓eNm, ↓eC, ↓eOp, ↓eB, ↓eTr, ↓eTrB, ↓eTrI, ↓eTrN, ↓eTrT, ↓eTrL, ↓eTrA, ↓eAnd, ↓eOr, ↓eNot, ↓eAndV, ↓eOrV, ↓eNotV, ↓eIf, ↓eNil, ↓eCons, ↓eTup, ↓eOfL, ↓eLstL, ↓eListL, ↓eCatL, ↓eLc, ↓eWipe0, ↓eWipe, ↓eSeq, ↓eRng1, ↓eRng2, ↓eCall, ↓eCB, ↓eNeg, ↓eChain, ↓eAppend, ↓ePop, ↓eNo, ↓eSome, ↓eSl, ↓gSl_t, ↓gSl_l, ↓gSl_a, ↓gAdd_i, ↓gAdd_t, ↓gAdd_s, ↓gAdd_l, ↓gI0_i, ↓gI_i, ↓gMul_i, ↓gMul_t, ↓gEq_, ↓gNe_, ↓gIs_n, ↓gIs_b, ↓gIsNot_n, ↓gIsNot_b, ↓gIn_, ↓gNotIn_, ↓gIx_t, ↓gIx_l, ↓gIx_a, ↓gLen_, ↓gLen_l, ↓gLen_a, ↓gInt_, ↓gInt_b, ↓gTuple_, ↓gTuple_l, ↓gTuple_a, ↓gMax_, ↓gMin_, ↓gIsBool_b, ↓gIsBool_i, seqOf_t, seqOf_l, seqOf_a, lstOf_l, lstOf_a, rsv_i, rsv_b, rsv_s, rsv_n, rsv_t, rsv_l, dle_i, dle_b, dle_n, eqD_i, eqD_b, isNon, bNm_, bTup_, bCons_, bNil_, Option.bind_some, i40, i41, i42, i43, atI0, atI1, atI2, atI3, mset_same, true_and, beq_self_eq_true, Bool.false_eq_true, c0, c1, Int.cast_ofNat_Int, Int.reduceEq, Int.reduceLT, Int.reduceLE, Int.reduceAdd, Int.reduceSub, ↓reduceIte, eqD_s, k_someD, dle_str k_some]
        refine ⟨by decide, by rw [List.length_map]; omega, hn _ _ ⟨rfl, r, w ++ [a], _, rfl, by rw [List.map_append]; rfl, ?_, by omega, ?_, hA3⟩⟩
        · rw [← hb, List.append_assoc]; rfl
        · rw [List.length_append, List.length_cons, List.length_nil]; omega
      | any s =>
        obtain ⟨s1, s2, s3, _⟩ := hA2
        unfold atD wD
        try simp -dsimp only [bodyE, startD, List.map_cons, List.map_nil, List.length_cons, List.length_nil, List.replicate_succ, List.replicate_zero, List.cons_append, List.nil_append, Nat.reduceAdd, Nat.reduceSub, List.set_cons_zero, List.set_cons_succ, List.getElem?_cons_zero, List.getElem?_cons_succ, Bool.not_true, Bool.not_false, decide_true, decide_false, ↓IfS_t, ↓IfS_f, ↓IfE_t, ↓IfE_f, ↓AndT_t, ↓AndT_f, ↓OrT_t, ↓OrT_f, ↓AndV_t, ↓AndV_f, ↓OrV_t, ↓OrV_f, IfS_t, IfS_f, IfE_t, IfE_f, AndT_t, AndT_f, OrT_t, OrT_f, AndV_t, AndV_f, OrV_t, OrV_f, ↓eThen, ↓ePass, ↓eBreak, ↓eCont, ↓eExpr, ↓eRet, ↓eRetN, ↓eIfS, ↓eSet, ↓eOwn, ↓eAsg, ↓eSetIx, ↓eGSetIx, ↓eAug, ↓eIadd, ↓eIaddL, ↓eFrz, ↓eFor, ↓eWhile, ↓eNm, ↓eC, ↓eOp, ↓eB, ↓eTr, ↓eTrB, ↓eTrI, ↓eTrN, ↓eTrT, ↓eTrL, ↓eTrA, ↓eAnd, ↓eOr, ↓eNot, ↓eAndV, ↓eOrV, ↓eNotV, ↓eIf, ↓eNil, ↓eCons, ↓eTup, ↓eOfL, ↓eLstL, ↓eListL, ↓eCatL, ↓eLc, ↓eWipe0, ↓eWipe, ↓eSeq, ↓eRng1, ↓eRng2, ↓eCall, ↓eCB, ↓eNeg, ↓eChain, ↓eAppend, ↓ePop, ↓eNo, ↓eSome, ↓eSl, ↓gSl_t, ↓gSl_l, ↓gSl_a, ↓gAdd_i, ↓gAdd_t, ↓gAdd_s, ↓gAdd_l, ↓gI0_i, ↓gI_i, ↓gMul_i, ↓gMul_t, ↓gEq_, ↓gNe_, ↓gIs_n, ↓gIs_b, ↓gIsNot_n, ↓gIsNot_b, ↓gIn_, ↓gNotIn_, ↓gIx_t, ↓gIx_l, ↓gIx_a, ↓gLen_, ↓gLen_l, ↓gLen_a, ↓gInt_, ↓gInt_b, ↓gTuple_, ↓gTuple_l, ↓gTuple_a, ↓gMax_, ↓gMin_, ↓gIsBool_b, ↓gIsBool_i, seqOf_t, seqOf_l, seqOf_a, lstOf_l, lstOf_a, rsv_i, rsv_b, rsv_s, rsv_n, rsv_t, rsv_l, dle_i, dle_b, dle_n, eqD_i, eqD_b, isNon, bNm_, bTup_, bCons_, bNil_, Option.bind_some, i40, i41, i42, i43, atI0, atI1, atI2, atI3, mset_same, true_and, beq_self_eq_true, Bool.false_eq_true, c0, c1, Int.cast_ofNat_Int, Int.reduceEq, Int.reduceLT, Int.reduceLE, Int.reduceAdd, Int.reduceSub, ↓reduceIte, eqD_s, k_someD, dle_str k_some, dle_str k_any, some_ne_any, List.length_map]
        have hm : ((o.length : Int) + 2).toNat = o.length + 2 := by omega
        have hfl : (List.replicate (o.length + 2) s).flatten.length ≤ 102000 := by
          rw [flat_len]
          calc (o.length + 2) * s.length ≤ 102 * 1000 := Nat.mul_le_mul (by omega) (by omega)
            _ = 102000 := rfl
        rw [hm, ← map_flat, List.length_map]
        refine ⟨by simpa using s1, by omega, by omega, by omega, by omega, hn _ _ ⟨rfl, r, w ++ (List.replicate (o.length + 2) s).flatten, _, rfl, by rw [List.map_append]; rfl, ?_, by omega, ?_, hA3⟩⟩
        · rw [← hb, List.append_assoc]; rfl
        · rw [List.length_append]; omega
  · rintro ρ M' ⟨rfl, r, w, oo, e1, rfl, hb, hr, hw, hA⟩
    cases r with
    | cons A r => cases e1
    | nil =>
      try simp -dsimp only [bodyE, startD, List.map_cons, List.map_nil, List.length_cons, List.length_nil, List.replicate_succ, List.replicate_zero, List.cons_append, List.nil_append, Nat.reduceAdd, Nat.reduceSub, List.set_cons_zero, List.set_cons_succ, List.getElem?_cons_zero, List.getElem?_cons_succ, Bool.not_true, Bool.not_false, decide_true, decide_false, ↓IfS_t, ↓IfS_f, ↓IfE_t, ↓IfE_f, ↓AndT_t, ↓AndT_f, ↓OrT_t, ↓OrT_f, ↓AndV_t, ↓AndV_f, ↓OrV_t, ↓OrV_f, IfS_t, IfS_f, IfE_t, IfE_f, AndT_t, AndT_f, OrT_t, OrT_f, AndV_t, AndV_f, OrV_t, OrV_f, ↓eThen, ↓ePass, ↓eBreak, ↓eCont, ↓eExpr, ↓eRet, ↓eRetN, ↓eIfS, ↓eSet, ↓eOwn, ↓eAsg, ↓eSetIx, ↓eGSetIx, ↓eAug, ↓eIadd, ↓eIaddL, ↓eFrz, ↓eFor, ↓eWhile, ↓eNm, ↓eC, ↓eOp, ↓eB, ↓eTr, ↓eTrB, ↓eTrI, ↓eTrN, ↓eTrT, ↓eTrL, ↓eTrA, ↓eAnd, ↓eOr, ↓eNot, ↓eAndV, ↓eOrV, ↓eNotV, ↓eIf, ↓eNil, ↓eCons, ↓eTup, ↓eOfL, ↓eLstL, ↓eListL, ↓eCatL, ↓eLc, ↓eWipe0, ↓eWipe, ↓eSeq, ↓eRng1, ↓eRng2, ↓eCall, ↓eCB, ↓eNeg, ↓eChain, ↓eAppend, ↓ePop, ↓eNo, ↓eSome, ↓eSl, ↓gSl_t, ↓gSl_l, ↓gSl_a, ↓gAdd_i, ↓gAdd_t, ↓gAdd_s, ↓gAdd_l, ↓gI0_i, ↓gI_i, ↓gMul_i, ↓gMul_t, ↓gEq_, ↓gNe_, ↓gIs_n, ↓gIs_b, ↓gIsNot_n, ↓gIsNot_b, ↓gIn_, ↓gNotIn_, ↓gIx_t, ↓gIx_l, ↓gIx_a, ↓gLen_, ↓gLen_l, ↓gLen_a, ↓gInt_, ↓gInt_b, ↓gTuple_, ↓gTuple_l, ↓gTuple_a, ↓gMax_, ↓gMin_, ↓gIsBool_b, ↓gIsBool_i, seqOf_t, seqOf_l, seqOf_a, lstOf_l, lstOf_a, rsv_i, rsv_b, rsv_s, rsv_n, rsv_t, rsv_l, dle_i, dle_b, dle_n, eqD_i, eqD_b, isNon, bNm_, bTup_, bCons_, bNil_, Option.bind_some, i40, i41, i42, i43, atI0, atI1, atI2, atI3, mset_same, true_and, beq_self_eq_true, Bool.false_eq_true, c0, c1, Int.cast_ofNat_Int, Int.reduceEq, Int.reduceLT, Int.reduceLE, Int.reduceAdd, Int.reduceSub, ↓reduceIte, mres_self]
      rw [← hb] at q
      unfold big at q
      rw [List.append_nil] at q
      exact q
end U

set_option Elab.async false
set_option linter.all false
set_option maxRecDepth 100000
set_option maxHeartbeats 1000000
/-! L05: the law of patterns, plain. -/
namespace U
open PySem PySem.Spec PyProof.Rows L2

theorem cut_to {l : List D} {i : Int} (h0 : 0 ≤ i) : cutD l none (some i) = l.take i.toNat := by
  unfold cutD
  have h : HT.sIx l.length l.length (some i) = min i.toNat l.length := by
    show (if i < 0 then _ else min i.toNat l.length) = _
    rw [if_neg (by omega)]
  have h2 : HT.sIx l.length 0 none = 0 := rfl
  rw [h, h2, List.drop_zero, Nat.sub_zero, Nat.min_def]
  split
  · rfl
  · rw [List.take_of_length_le (Nat.le_refl _), List.take_of_length_le (by omega)]
theorem cut_from {l : List D} {i : Int} (h0 : 0 ≤ i) : cutD l (some i) none = l.drop i.toNat := by
  unfold cutD
  have h : HT.sIx l.length 0 (some i) = min i.toNat l.length := by
    show (if i < 0 then _ else min i.toNat l.length) = _
    rw [if_neg (by omega)]
  have h2 : HT.sIx l.length l.length none = l.length := rfl
  rw [h, h2]
  by_cases e : i.toNat ≤ l.length
  · rw [Nat.min_eq_left e]
    rw [List.take_of_length_le (by rw [List.length_drop]; omega)]
  · rw [Nat.min_eq_right (by omega), List.drop_eq_nil_of_le (Nat.le_refl _), List.drop_eq_nil_of_le (by omega)]
    simp
theorem big_len {m : Nat} {L : Int} : ∀ {p : List Atom}, (∀ A ∈ p, okA L A) → 0 ≤ L → ((big (m + 1) p).length : Int) ≤ p.length * ((m + 1) * (L + 1))
  | [], _, _ => by simp [big]
  | .one a :: p, h, h0 => by
    have ih := big_len (m := m) (p := p) (fun A hA => h A (List.mem_cons_of_mem _ hA)) h0
    unfold big
    rw [List.length_cons, List.length_cons]
    have : (1 : Int) ≤ (m + 1) * (L + 1) := Int.le_trans (by decide : (1 : Int) ≤ 1 * 1) (Int.mul_le_mul (by omega) (by omega) (by omega) (by omega))
    have e : ((p.length + 1 : Nat) : Int) * ((m + 1) * (L + 1)) = p.length * ((m + 1) * (L + 1)) + (m + 1) * (L + 1) := by
      rw [Int.natCast_add, Int.add_mul]; simp
    omega
  | .any s :: p, h, h0 => by
    have ih := big_len (m := m) (p := p) (fun A hA => h A (List.mem_cons_of_mem _ hA)) h0
    obtain ⟨_, _, h3, _⟩ := h (.any s) List.mem_cons_self
    unfold big
    rw [List.length_append, List.length_cons, flat_len]
    have e : ((p.length + 1 : Nat) : Int) * ((m + 1) * (L + 1)) = p.length * ((m + 1) * (L + 1)) + (m + 1) * (L + 1) := by
      rw [Int.natCast_add, Int.add_mul]; simp
    have e2 : (((m + 1) * s.length : Nat) : Int) ≤ (m + 1) * (L + 1) := by
      rw [Int.natCast_mul]
      exact Int.mul_le_mul (by omega) (by omega) (by omega) (by omega)
    omega
def N_law : List Str := ["_law_script", "_law_state", "_law_letters", "_law_k", "_law_pattern_here", "_law_word_here", "_law_at"]
def f_law (S_ldraw : FSpec) (S_lpattern : FSpec) (S_lword : FSpec) (S_lbig : FSpec) (S_fits : FSpec) (S_lfits : FSpec) : FS := fThen (fOwn 1 (fLstL (fCons (fC (.int 0)) (fCons (fC (.int 0)) (fCons (fOfL (fListL (fCons (fNm 0) fNil))) (fCons (fC (.int 1)) fNil)))))) (fThen (fSet 2 (fOp gAdd (fC (.int 1)) (fCall S_ldraw (fCons (fNm 1) (fCons (fC (.int 3)) fNil))))) (fThen (fFor (fRng1 (fCons (fC (.int 6)) fNil)) (bNm 3) (fThen (fSet 4 (fCall S_lpattern (fCons (fNm 1) (fCons (fNm 2) (fCons (fC (.int 4)) fNil))))) (fThen (fSet 5 (fCall S_lword (fCons (fNm 1) (fCons (fNm 2) (fCons (fC (.int 6)) fNil))))) (fThen (fIfS (fB (fOp gEq (fCall S_ldraw (fCons (fNm 1) (fCons (fC (.int 2)) fNil))) (fC (.int 1)))) (fSet 5 (fCall S_lbig (fCons (fNm 4) (fCons (fTup fNil) fNil)))) fPass) (fThen (fIfS (fOr (fB (fOp gNe (fCall S_fits (fCons (fNm 4) (fCons (fNm 5) fNil))) (fCall S_lfits (fCons (fNm 4) (fCons (fNm 5) fNil))))) (fNot (fTr (fCB gIsBool (fCons (fCall S_fits (fCons (fNm 4) (fCons (fNm 5) fNil))) (fCons (fC (.ty "bool")) fNil)))))) (fRet (fC (.bl false))) fPass) (fThen (fSet 6 (fCall S_ldraw (fCons (fNm 1) (fCons (fOp gAdd (fCB gLen (fCons (fNm 5) fNil)) (fC (.int 1))) fNil)))) (fIfS (fAnd (fTr (fCall S_fits (fCons (fNm 4) (fCons (fNm 5) fNil)))) (fNot (fTr (fCall S_fits (fCons (fNm 4) (fCons (fOp gAdd (fSl' (fNm 5) fNo (fSome (fNm 6))) (fSl' (fNm 5) (fSome (fOp gAdd (fNm 6) (fC (.int 1)))) fNo)) fNil)))))) (fRet (fC (.bl false))) fPass))))))) (fRet (fAndV (fOp gIs (fCall S_fits (fCons (fTup fNil) (fCons (fTup fNil) fNil))) (fC (.bl true))) (fOp gIs (fCall S_fits (fCons (fTup fNil) (fCons (fTup (fCons (fC (.int 0)) fNil)) fNil))) (fC (.bl false)))))))

def S_law : FSpec := fun ds M Q _ => ∃ ns : List Int, ds = [.lst (ns.map .int)] ∧ ∀ M', Q (.bl true) M'
theorem eqD_bb {p : Bool} : (!eqD (.bl p) (.bl p)) = false := by cases p <;> rfl
theorem b_law (ds : List D) (M : Mu) (Q : D → Mu → Prop) (xw : XW) (h : S_law ds M Q xw) : bodyE N_law (f_law S_ldraw S_lpattern S_lword S_lbig S_fits (S_lfits 60)) ds M Q xw := by
  obtain ⟨ns, rfl, post⟩ := h
  simp only [bodyE, startD, N_law, List.map_cons, List.map_nil, List.length_cons, List.length_nil, List.replicate_succ, List.replicate_zero, List.cons_append, List.nil_append, Nat.reduceAdd, Nat.reduceSub]
  unfold f_law
  try simp -dsimp only [bodyE, startD, List.map_cons, List.map_nil, List.length_cons, List.length_nil, List.replicate_succ, List.replicate_zero, List.cons_append, List.nil_append, Nat.reduceAdd, Nat.reduceSub, List.set_cons_zero, List.set_cons_succ, List.getElem?_cons_zero, List.getElem?_cons_succ, Bool.not_true, Bool.not_false, decide_true, decide_false, ↓IfS_t, ↓IfS_f, ↓IfE_t, ↓IfE_f, ↓AndT_t, ↓AndT_f, ↓OrT_t, ↓OrT_f, ↓AndV_t, ↓AndV_f, ↓OrV_t, ↓OrV_f, IfS_t, IfS_f, IfE_t, IfE_f, AndT_t, AndT_f, OrT_t, OrT_f, AndV_t, AndV_f, OrV_t, OrV_f, ↓eThen, ↓ePass, ↓eBreak, ↓eCont, ↓eExpr, ↓eRet, ↓eRetN, ↓eIfS, ↓eSet, ↓eOwn, ↓eAsg, ↓eSetIx, ↓eGSetIx, ↓eAug, ↓eIadd, ↓eIaddL, ↓eFrz, ↓eFor, ↓eWhile, ↓eNm, ↓eC, ↓eOp, ↓eB, ↓eTr, ↓eTrB, ↓eTrI, ↓eTrN, ↓eTrT, ↓eTrL, ↓eTrA, ↓eAnd, ↓eOr, ↓eNot, ↓eAndV, ↓eOrV, ↓eNotV, ↓eIf, ↓eNil, ↓eCons, ↓eTup, ↓eOfL, ↓eLstL, ↓eListL, ↓eCatL, ↓eLc, ↓eWipe0, ↓eWipe, ↓eSeq, ↓eRng1, ↓eRng2, ↓eCall, ↓eCB, ↓eNeg, ↓eChain, ↓eAppend, ↓ePop, ↓eNo, ↓eSome, ↓eSl, ↓gSl_t, ↓gSl_l, ↓gSl_a, ↓gAdd_i, ↓gAdd_t, ↓gAdd_s, ↓gAdd_l, ↓gI0_i, ↓gI_i, ↓gMul_i, ↓gMul_t, ↓gEq_, ↓gNe_, ↓gIs_n, ↓gIs_b, ↓gIsNot_n, ↓gIsNot_b, ↓gIn_, ↓gNotIn_, ↓gIx_t, ↓gIx_l, ↓gIx_a, ↓gLen_, ↓gLen_l, ↓gLen_a, ↓gInt_, ↓gInt_b, ↓gTuple_, ↓gTuple_l, ↓gTuple_a, ↓gMax_, ↓gMin_, ↓gIsBool_b, ↓gIsBool_i, seqOf_t, seqOf_l, seqOf_a, lstOf_l, lstOf_a, rsv_i, rsv_b, rsv_s, rsv_n, rsv_t, rsv_l, dle_i, dle_b, dle_n, eqD_i, eqD_b, isNon, bNm_, bTup_, bCons_, bNil_, Option.bind_some, i40, i41, i42, i43, atI0, atI1, atI2, atI3, mset_same, true_and, beq_self_eq_true, Bool.false_eq_true, c0, c1, Int.cast_ofNat_Int, Int.reduceEq, Int.reduceLT, Int.reduceLE, Int.reduceAdd, Int.reduceSub, ↓reduceIte]
  refine ⟨by decide, fun p hp _ => ?_⟩
  have st : IsSt (mset M p (.lst [.int 0, .int 0, .lst (ns.map .int), .int 1])) p := ⟨0, 0, 1, _, mset_same, by decide, fun d hd => by
    obtain ⟨i, _, rfl⟩ := List.mem_map.mp hd
    exact ⟨i, rfl⟩⟩
  try simp -dsimp only [bodyE, startD, List.map_cons, List.map_nil, List.length_cons, List.length_nil, List.replicate_succ, List.replicate_zero, List.cons_append, List.nil_append, Nat.reduceAdd, Nat.reduceSub, List.set_cons_zero, List.set_cons_succ, List.getElem?_cons_zero, List.getElem?_cons_succ, Bool.not_true, Bool.not_false, decide_true, decide_false, ↓IfS_t, ↓IfS_f, ↓IfE_t, ↓IfE_f, ↓AndT_t, ↓AndT_f, ↓OrT_t, ↓OrT_f, ↓AndV_t, ↓AndV_f, ↓OrV_t, ↓OrV_f, IfS_t, IfS_f, IfE_t, IfE_f, AndT_t, AndT_f, OrT_t, OrT_f, AndV_t, AndV_f, OrV_t, OrV_f, ↓eThen, ↓ePass, ↓eBreak, ↓eCont, ↓eExpr, ↓eRet, ↓eRetN, ↓eIfS, ↓eSet, ↓eOwn, ↓eAsg, ↓eSetIx, ↓eGSetIx, ↓eAug, ↓eIadd, ↓eIaddL, ↓eFrz, ↓eFor, ↓eWhile, ↓eNm, ↓eC, ↓eOp, ↓eB, ↓eTr, ↓eTrB, ↓eTrI, ↓eTrN, ↓eTrT, ↓eTrL, ↓eTrA, ↓eAnd, ↓eOr, ↓eNot, ↓eAndV, ↓eOrV, ↓eNotV, ↓eIf, ↓eNil, ↓eCons, ↓eTup, ↓eOfL, ↓eLstL, ↓eListL, ↓eCatL, ↓eLc, ↓eWipe0, ↓eWipe, ↓eSeq, ↓eRng1, ↓eRng2, ↓eCall, ↓eCB, ↓eNeg, ↓eChain, ↓eAppend, ↓ePop, ↓eNo, ↓eSome, ↓eSl, ↓gSl_t, ↓gSl_l, ↓gSl_a, ↓gAdd_i, ↓gAdd_t, ↓gAdd_s, ↓gAdd_l, ↓gI0_i, ↓gI_i, ↓gMul_i, ↓gMul_t, ↓gEq_, ↓gNe_, ↓gIs_n, ↓gIs_b, ↓gIsNot_n, ↓gIsNot_b, ↓gIn_, ↓gNotIn_, ↓gIx_t, ↓gIx_l, ↓gIx_a, ↓gLen_, ↓gLen_l, ↓gLen_a, ↓gInt_, ↓gInt_b, ↓gTuple_, ↓gTuple_l, ↓gTuple_a, ↓gMax_, ↓gMin_, ↓gIsBool_b, ↓gIsBool_i, seqOf_t, seqOf_l, seqOf_a, lstOf_l, lstOf_a, rsv_i, rsv_b, rsv_s, rsv_n, rsv_t, rsv_l, dle_i, dle_b, dle_n, eqD_i, eqD_b, isNon, bNm_, bTup_, bCons_, bNil_, Option.bind_some, i40, i41, i42, i43, atI0, atI1, atI2, atI3, mset_same, true_and, beq_self_eq_true, Bool.false_eq_true, c0, c1, Int.cast_ofNat_Int, Int.reduceEq, Int.reduceLT, Int.reduceLE, Int.reduceAdd, Int.reduceSub, ↓reduceIte]
  refine draw_call st (by omega) (by omega) fun M1 l0 l1 l2 s1 => ?_
  try simp -dsimp only [bodyE, startD, List.map_cons, List.map_nil, List.length_cons, List.length_nil, List.replicate_succ, List.replicate_zero, List.cons_append, List.nil_append, Nat.reduceAdd, Nat.reduceSub, List.set_cons_zero, List.set_cons_succ, List.getElem?_cons_zero, List.getElem?_cons_succ, Bool.not_true, Bool.not_false, decide_true, decide_false, ↓IfS_t, ↓IfS_f, ↓IfE_t, ↓IfE_f, ↓AndT_t, ↓AndT_f, ↓OrT_t, ↓OrT_f, ↓AndV_t, ↓AndV_f, ↓OrV_t, ↓OrV_f, IfS_t, IfS_f, IfE_t, IfE_f, AndT_t, AndT_f, OrT_t, OrT_f, AndV_t, AndV_f, OrV_t, OrV_f, ↓eThen, ↓ePass, ↓eBreak, ↓eCont, ↓eExpr, ↓eRet, ↓eRetN, ↓eIfS, ↓eSet, ↓eOwn, ↓eAsg, ↓eSetIx, ↓eGSetIx, ↓eAug, ↓eIadd, ↓eIaddL, ↓eFrz, ↓eFor, ↓eWhile, ↓eNm, ↓eC, ↓eOp, ↓eB, ↓eTr, ↓eTrB, ↓eTrI, ↓eTrN, ↓eTrT, ↓eTrL, ↓eTrA, ↓eAnd, ↓eOr, ↓eNot, ↓eAndV, ↓eOrV, ↓eNotV, ↓eIf, ↓eNil, ↓eCons, ↓eTup, ↓eOfL, ↓eLstL, ↓eListL, ↓eCatL, ↓eLc, ↓eWipe0, ↓eWipe, ↓eSeq, ↓eRng1, ↓eRng2, ↓eCall, ↓eCB, ↓eNeg, ↓eChain, ↓eAppend, ↓ePop, ↓eNo, ↓eSome, ↓eSl, ↓gSl_t, ↓gSl_l, ↓gSl_a, ↓gAdd_i, ↓gAdd_t, ↓gAdd_s, ↓gAdd_l, ↓gI0_i, ↓gI_i, ↓gMul_i, ↓gMul_t, ↓gEq_, ↓gNe_, ↓gIs_n, ↓gIs_b, ↓gIsNot_n, ↓gIsNot_b, ↓gIn_, ↓gNotIn_, ↓gIx_t, ↓gIx_l, ↓gIx_a, ↓gLen_, ↓gLen_l, ↓gLen_a, ↓gInt_, ↓gInt_b, ↓gTuple_, ↓gTuple_l, ↓gTuple_a, ↓gMax_, ↓gMin_, ↓gIsBool_b, ↓gIsBool_i, seqOf_t, seqOf_l, seqOf_a, lstOf_l, lstOf_a, rsv_i, rsv_b, rsv_s, rsv_n, rsv_t, rsv_l, dle_i, dle_b, dle_n, eqD_i, eqD_b, isNon, bNm_, bTup_, bCons_, bNil_, Option.bind_some, i40, i41, i42, i43, atI0, atI1, atI2, atI3, mset_same, true_and, beq_self_eq_true, Bool.false_eq_true, c0, c1, Int.cast_ofNat_Int, Int.reduceEq, Int.reduceLT, Int.reduceLE, Int.reduceAdd, Int.reduceSub, ↓reduceIte]
  refine ⟨by decide, ?_⟩
  refine forS_ind (fun rest ρ M' => ∃ o3 o4 o5 o6, ρ = [some (.lst (ns.map .int)), some (.loc p), some (.int (1 + l0)), o3, o4, o5, o6] ∧ IsSt M' p) ?_ ?_ _ _ _ ⟨_, _, _, _, rfl, s1.2⟩
  · rintro d rest ρ M' ⟨o3, o4, o5, o6, rfl, s2⟩
    refine ⟨_, rfl, fun n c hn hc => ?_⟩
    try simp -dsimp only [bodyE, startD, List.map_cons, List.map_nil, List.length_cons, List.length_nil, List.replicate_succ, List.replicate_zero, List.cons_append, List.nil_append, Nat.reduceAdd, Nat.reduceSub, List.set_cons_zero, List.set_cons_succ, List.getElem?_cons_zero, List.getElem?_cons_succ, Bool.not_true, Bool.not_false, decide_true, decide_false, ↓IfS_t, ↓IfS_f, ↓IfE_t, ↓IfE_f, ↓AndT_t, ↓AndT_f, ↓OrT_t, ↓OrT_f, ↓AndV_t, ↓AndV_f, ↓OrV_t, ↓OrV_f, IfS_t, IfS_f, IfE_t, IfE_f, AndT_t, AndT_f, OrT_t, OrT_f, AndV_t, AndV_f, OrV_t, OrV_f, ↓eThen, ↓ePass, ↓eBreak, ↓eCont, ↓eExpr, ↓eRet, ↓eRetN, ↓eIfS, ↓eSet, ↓eOwn, ↓eAsg, ↓eSetIx, ↓eGSetIx, ↓eAug, ↓eIadd, ↓eIaddL, ↓eFrz, ↓eFor, ↓eWhile, ↓eNm, ↓eC, ↓eOp, ↓eB, ↓eTr, ↓eTrB, ↓eTrI, ↓eTrN, ↓eTrT, ↓eTrL, ↓eTrA, ↓eAnd, ↓eOr, ↓eNot, ↓eAndV, ↓eOrV, ↓eNotV, ↓eIf, ↓eNil, ↓eCons, ↓eTup, ↓eOfL, ↓eLstL, ↓eListL, ↓eCatL, ↓eLc, ↓eWipe0, ↓eWipe, ↓eSeq, ↓eRng1, ↓eRng2, ↓eCall, ↓eCB, ↓eNeg, ↓eChain, ↓eAppend, ↓ePop, ↓eNo, ↓eSome, ↓eSl, ↓gSl_t, ↓gSl_l, ↓gSl_a, ↓gAdd_i, ↓gAdd_t, ↓gAdd_s, ↓gAdd_l, ↓gI0_i, ↓gI_i, ↓gMul_i, ↓gMul_t, ↓gEq_, ↓gNe_, ↓gIs_n, ↓gIs_b, ↓gIsNot_n, ↓gIsNot_b, ↓gIn_, ↓gNotIn_, ↓gIx_t, ↓gIx_l, ↓gIx_a, ↓gLen_, ↓gLen_l, ↓gLen_a, ↓gInt_, ↓gInt_b, ↓gTuple_, ↓gTuple_l, ↓gTuple_a, ↓gMax_, ↓gMin_, ↓gIsBool_b, ↓gIsBool_i, seqOf_t, seqOf_l, seqOf_a, lstOf_l, lstOf_a, rsv_i, rsv_b, rsv_s, rsv_n, rsv_t, rsv_l, dle_i, dle_b, dle_n, eqD_i, eqD_b, isNon, bNm_, bTup_, bCons_, bNil_, Option.bind_some, i40, i41, i42, i43, atI0, atI1, atI2, atI3, mset_same, true_and, beq_self_eq_true, Bool.false_eq_true, c0, c1, Int.cast_ofNat_Int, Int.reduceEq, Int.reduceLT, Int.reduceLE, Int.reduceAdd, Int.reduceSub, ↓reduceIte]
    refine drw_call s2 ⟨_, _, rfl, by omega, by omega, by omega, by omega⟩ fun M3 dp hR s3 => ?_
    obtain ⟨L, m, p4, e, rfl, hpl, hpA⟩ := hR
    cases e
    try simp -dsimp only [bodyE, startD, List.map_cons, List.map_nil, List.length_cons, List.length_nil, List.replicate_succ, List.replicate_zero, List.cons_append, List.nil_append, Nat.reduceAdd, Nat.reduceSub, List.set_cons_zero, List.set_cons_succ, List.getElem?_cons_zero, List.getElem?_cons_succ, Bool.not_true, Bool.not_false, decide_true, decide_false, ↓IfS_t, ↓IfS_f, ↓IfE_t, ↓IfE_f, ↓AndT_t, ↓AndT_f, ↓OrT_t, ↓OrT_f, ↓AndV_t, ↓AndV_f, ↓OrV_t, ↓OrV_f, IfS_t, IfS_f, IfE_t, IfE_f, AndT_t, AndT_f, OrT_t, OrT_f, AndV_t, AndV_f, OrV_t, OrV_f, ↓eThen, ↓ePass, ↓eBreak, ↓eCont, ↓eExpr, ↓eRet, ↓eRetN, ↓eIfS, ↓eSet, ↓eOwn, ↓eAsg, ↓eSetIx, ↓eGSetIx, ↓eAug, ↓eIadd, ↓eIaddL, ↓eFrz, ↓eFor, ↓eWhile, ↓eNm, ↓eC, ↓eOp, ↓eB, ↓eTr, ↓eTrB, ↓eTrI, ↓eTrN, ↓eTrT, ↓eTrL, ↓eTrA, ↓eAnd, ↓eOr, ↓eNot, ↓eAndV, ↓eOrV, ↓eNotV, ↓eIf, ↓eNil, ↓eCons, ↓eTup, ↓eOfL, ↓eLstL, ↓eListL, ↓eCatL, ↓eLc, ↓eWipe0, ↓eWipe, ↓eSeq, ↓eRng1, ↓eRng2, ↓eCall, ↓eCB, ↓eNeg, ↓eChain, ↓eAppend, ↓ePop, ↓eNo, ↓eSome, ↓eSl, ↓gSl_t, ↓gSl_l, ↓gSl_a, ↓gAdd_i, ↓gAdd_t, ↓gAdd_s, ↓gAdd_l, ↓gI0_i, ↓gI_i, ↓gMul_i, ↓gMul_t, ↓gEq_, ↓gNe_, ↓gIs_n, ↓gIs_b, ↓gIsNot_n, ↓gIsNot_b, ↓gIn_, ↓gNotIn_, ↓gIx_t, ↓gIx_l, ↓gIx_a, ↓gLen_, ↓gLen_l, ↓gLen_a, ↓gInt_, ↓gInt_b, ↓gTuple_, ↓gTuple_l, ↓gTuple_a, ↓gMax_, ↓gMin_, ↓gIsBool_b, ↓gIsBool_i, seqOf_t, seqOf_l, seqOf_a, lstOf_l, lstOf_a, rsv_i, rsv_b, rsv_s, rsv_n, rsv_t, rsv_l, dle_i, dle_b, dle_n, eqD_i, eqD_b, isNon, bNm_, bTup_, bCons_, bNil_, Option.bind_some, i40, i41, i42, i43, atI0, atI1, atI2, atI3, mset_same, true_and, beq_self_eq_true, Bool.false_eq_true, c0, c1, Int.cast_ofNat_Int, Int.reduceEq, Int.reduceLT, Int.reduceLE, Int.reduceAdd, Int.reduceSub, ↓reduceIte]
    refine drw_call s3.2 ⟨_, _, rfl, by omega, by omega, by omega, by omega⟩ fun M4 dw hR s4 => ?_
    obtain ⟨L, m, w4, e, rfl, hwl, _⟩ := hR
    cases e
    try simp -dsimp only [bodyE, startD, List.map_cons, List.map_nil, List.length_cons, List.length_nil, List.replicate_succ, List.replicate_zero, List.cons_append, List.nil_append, Nat.reduceAdd, Nat.reduceSub, List.set_cons_zero, List.set_cons_succ, List.getElem?_cons_zero, List.getElem?_cons_succ, Bool.not_true, Bool.not_false, decide_true, decide_false, ↓IfS_t, ↓IfS_f, ↓IfE_t, ↓IfE_f, ↓AndT_t, ↓AndT_f, ↓OrT_t, ↓OrT_f, ↓AndV_t, ↓AndV_f, ↓OrV_t, ↓OrV_f, IfS_t, IfS_f, IfE_t, IfE_f, AndT_t, AndT_f, OrT_t, OrT_f, AndV_t, AndV_f, OrV_t, OrV_f, ↓eThen, ↓ePass, ↓eBreak, ↓eCont, ↓eExpr, ↓eRet, ↓eRetN, ↓eIfS, ↓eSet, ↓eOwn, ↓eAsg, ↓eSetIx, ↓eGSetIx, ↓eAug, ↓eIadd, ↓eIaddL, ↓eFrz, ↓eFor, ↓eWhile, ↓eNm, ↓eC, ↓eOp, ↓eB, ↓eTr, ↓eTrB, ↓eTrI, ↓eTrN, ↓eTrT, ↓eTrL, ↓eTrA, ↓eAnd, ↓eOr, ↓eNot, ↓eAndV, ↓eOrV, ↓eNotV, ↓eIf, ↓eNil, ↓eCons, ↓eTup, ↓eOfL, ↓eLstL, ↓eListL, ↓eCatL, ↓eLc, ↓eWipe0, ↓eWipe, ↓eSeq, ↓eRng1, ↓eRng2, ↓eCall, ↓eCB, ↓eNeg, ↓eChain, ↓eAppend, ↓ePop, ↓eNo, ↓eSome, ↓eSl, ↓gSl_t, ↓gSl_l, ↓gSl_a, ↓gAdd_i, ↓gAdd_t, ↓gAdd_s, ↓gAdd_l, ↓gI0_i, ↓gI_i, ↓gMul_i, ↓gMul_t, ↓gEq_, ↓gNe_, ↓gIs_n, ↓gIs_b, ↓gIsNot_n, ↓gIsNot_b, ↓gIn_, ↓gNotIn_, ↓gIx_t, ↓gIx_l, ↓gIx_a, ↓gLen_, ↓gLen_l, ↓gLen_a, ↓gInt_, ↓gInt_b, ↓gTuple_, ↓gTuple_l, ↓gTuple_a, ↓gMax_, ↓gMin_, ↓gIsBool_b, ↓gIsBool_i, seqOf_t, seqOf_l, seqOf_a, lstOf_l, lstOf_a, rsv_i, rsv_b, rsv_s, rsv_n, rsv_t, rsv_l, dle_i, dle_b, dle_n, eqD_i, eqD_b, isNon, bNm_, bTup_, bCons_, bNil_, Option.bind_some, i40, i41, i42, i43, atI0, atI1, atI2, atI3, mset_same, true_and, beq_self_eq_true, Bool.false_eq_true, c0, c1, Int.cast_ofNat_Int, Int.reduceEq, Int.reduceLT, Int.reduceLE, Int.reduceAdd, Int.reduceSub, ↓reduceIte]
    refine draw_call s4.2 (by omega) (by omega) fun M5 b b0 b1 s5 => ?_
    try simp -dsimp only [bodyE, startD, List.map_cons, List.map_nil, List.length_cons, List.length_nil, List.replicate_succ, List.replicate_zero, List.cons_append, List.nil_append, Nat.reduceAdd, Nat.reduceSub, List.set_cons_zero, List.set_cons_succ, List.getElem?_cons_zero, List.getElem?_cons_succ, Bool.not_true, Bool.not_false, decide_true, decide_false, ↓IfS_t, ↓IfS_f, ↓IfE_t, ↓IfE_f, ↓AndT_t, ↓AndT_f, ↓OrT_t, ↓OrT_f, ↓AndV_t, ↓AndV_f, ↓OrV_t, ↓OrV_f, IfS_t, IfS_f, IfE_t, IfE_f, AndT_t, AndT_f, OrT_t, OrT_f, AndV_t, AndV_f, OrV_t, OrV_f, ↓eThen, ↓ePass, ↓eBreak, ↓eCont, ↓eExpr, ↓eRet, ↓eRetN, ↓eIfS, ↓eSet, ↓eOwn, ↓eAsg, ↓eSetIx, ↓eGSetIx, ↓eAug, ↓eIadd, ↓eIaddL, ↓eFrz, ↓eFor, ↓eWhile, ↓eNm, ↓eC, ↓eOp, ↓eB, ↓eTr, ↓eTrB, ↓eTrI, ↓eTrN, ↓eTrT, ↓eTrL, ↓eTrA, ↓eAnd, ↓eOr, ↓eNot, ↓eAndV, ↓eOrV, ↓eNotV, ↓eIf, ↓eNil, ↓eCons, ↓eTup, ↓eOfL, ↓eLstL, ↓eListL, ↓eCatL, ↓eLc, ↓eWipe0, ↓eWipe, ↓eSeq, ↓eRng1, ↓eRng2, ↓eCall, ↓eCB, ↓eNeg, ↓eChain, ↓eAppend, ↓ePop, ↓eNo, ↓eSome, ↓eSl, ↓gSl_t, ↓gSl_l, ↓gSl_a, ↓gAdd_i, ↓gAdd_t, ↓gAdd_s, ↓gAdd_l, ↓gI0_i, ↓gI_i, ↓gMul_i, ↓gMul_t, ↓gEq_, ↓gNe_, ↓gIs_n, ↓gIs_b, ↓gIsNot_n, ↓gIsNot_b, ↓gIn_, ↓gNotIn_, ↓gIx_t, ↓gIx_l, ↓gIx_a, ↓gLen_, ↓gLen_l, ↓gLen_a, ↓gInt_, ↓gInt_b, ↓gTuple_, ↓gTuple_l, ↓gTuple_a, ↓gMax_, ↓gMin_, ↓gIsBool_b, ↓gIsBool_i, seqOf_t, seqOf_l, seqOf_a, lstOf_l, lstOf_a, rsv_i, rsv_b, rsv_s, rsv_n, rsv_t, rsv_l, dle_i, dle_b, dle_n, eqD_i, eqD_b, isNon, bNm_, bTup_, bCons_, bNil_, Option.bind_some, i40, i41, i42, i43, atI0, atI1, atI2, atI3, mset_same, true_and, beq_self_eq_true, Bool.false_eq_true, c0, c1, Int.cast_ofNat_Int, Int.reduceEq, Int.reduceLT, Int.reduceLE, Int.reduceAdd, Int.reduceSub, ↓reduceIte]
    refine ifCut (fun ρ M' => M5 = M' ∧ ∃ w : List Int, ρ = [some (.lst (ns.map .int)), some (.loc p), some (.int (1 + l0)), some d, some (pD p4), some (wD w), o6] ∧ (w.length : Int) ≤ 32) (fun nx hnx => ?_) ?_
    · refine IfS_mk (fun h => ?_) fun h => ?_
      · try simp -dsimp only [bodyE, startD, List.map_cons, List.map_nil, List.length_cons, List.length_nil, List.replicate_succ, List.replicate_zero, List.cons_append, List.nil_append, Nat.reduceAdd, Nat.reduceSub, List.set_cons_zero, List.set_cons_succ, List.getElem?_cons_zero, List.getElem?_cons_succ, Bool.not_true, Bool.not_false, decide_true, decide_false, ↓IfS_t, ↓IfS_f, ↓IfE_t, ↓IfE_f, ↓AndT_t, ↓AndT_f, ↓OrT_t, ↓OrT_f, ↓AndV_t, ↓AndV_f, ↓OrV_t, ↓OrV_f, IfS_t, IfS_f, IfE_t, IfE_f, AndT_t, AndT_f, OrT_t, OrT_f, AndV_t, AndV_f, OrV_t, OrV_f, ↓eThen, ↓ePass, ↓eBreak, ↓eCont, ↓eExpr, ↓eRet, ↓eRetN, ↓eIfS, ↓eSet, ↓eOwn, ↓eAsg, ↓eSetIx, ↓eGSetIx, ↓eAug, ↓eIadd, ↓eIaddL, ↓eFrz, ↓eFor, ↓eWhile, ↓eNm, ↓eC, ↓eOp, ↓eB, ↓eTr, ↓eTrB, ↓eTrI, ↓eTrN, ↓eTrT, ↓eTrL, ↓eTrA, ↓eAnd, ↓eOr, ↓eNot, ↓eAndV, ↓eOrV, ↓eNotV, ↓eIf, ↓eNil, ↓eCons, ↓eTup, ↓eOfL, ↓eLstL, ↓eListL, ↓eCatL, ↓eLc, ↓eWipe0, ↓eWipe, ↓eSeq, ↓eRng1, ↓eRng2, ↓eCall, ↓eCB, ↓eNeg, ↓eChain, ↓eAppend, ↓ePop, ↓eNo, ↓eSome, ↓eSl, ↓gSl_t, ↓gSl_l, ↓gSl_a, ↓gAdd_i, ↓gAdd_t, ↓gAdd_s, ↓gAdd_l, ↓gI0_i, ↓gI_i, ↓gMul_i, ↓gMul_t, ↓gEq_, ↓gNe_, ↓gIs_n, ↓gIs_b, ↓gIsNot_n, ↓gIsNot_b, ↓gIn_, ↓gNotIn_, ↓gIx_t, ↓gIx_l, ↓gIx_a, ↓gLen_, ↓gLen_l, ↓gLen_a, ↓gInt_, ↓gInt_b, ↓gTuple_, ↓gTuple_l, ↓gTuple_a, ↓gMax_, ↓gMin_, ↓gIsBool_b, ↓gIsBool_i, seqOf_t, seqOf_l, seqOf_a, lstOf_l, lstOf_a, rsv_i, rsv_b, rsv_s, rsv_n, rsv_t, rsv_l, dle_i, dle_b, dle_n, eqD_i, eqD_b, isNon, bNm_, bTup_, bCons_, bNil_, Option.bind_some, i40, i41, i42, i43, atI0, atI1, atI2, atI3, mset_same, true_and, beq_self_eq_true, Bool.false_eq_true, c0, c1, Int.cast_ofNat_Int, Int.reduceEq, Int.reduceLT, Int.reduceLE, Int.reduceAdd, Int.reduceSub, ↓reduceIte]
        have hA1 : ∀ A ∈ p4, okA 1000 A := fun A hA => by
          have := hpA A hA
          cases A with
          | one a => exact ⟨this.1, by have := this.2; omega⟩
          | any s => exact ⟨this.1, fun x hx => ⟨(this.2.1 x hx).1, by have := (this.2.1 x hx).2; omega⟩, by have := this.2.2.1; omega, this.2.2.2⟩
        refine ⟨by decide, p4, [], rfl, by omega, by decide, hA1, hnx _ _ ⟨rfl, _, rfl, ?_⟩⟩
        have hb : ((big 2 p4).length : Int) ≤ _ := big_len (m := 1) (L := 1 + l0) hpA (by omega)
        have : (p4.length : Int) * (((1 : Nat) + 1) * (1 + l0 + 1)) ≤ 4 * (2 * 4) := Int.mul_le_mul (by omega) (by omega) (by omega) (by omega)
        show ((big 2 p4).length : Int) ≤ 32
        omega
      · try simp -dsimp only [bodyE, startD, List.map_cons, List.map_nil, List.length_cons, List.length_nil, List.replicate_succ, List.replicate_zero, List.cons_append, List.nil_append, Nat.reduceAdd, Nat.reduceSub, List.set_cons_zero, List.set_cons_succ, List.getElem?_cons_zero, List.getElem?_cons_succ, Bool.not_true, Bool.not_false, decide_true, decide_false, ↓IfS_t, ↓IfS_f, ↓IfE_t, ↓IfE_f, ↓AndT_t, ↓AndT_f, ↓OrT_t, ↓OrT_f, ↓AndV_t, ↓AndV_f, ↓OrV_t, ↓OrV_f, IfS_t, IfS_f, IfE_t, IfE_f, AndT_t, AndT_f, OrT_t, OrT_f, AndV_t, AndV_f, OrV_t, OrV_f, ↓eThen, ↓ePass, ↓eBreak, ↓eCont, ↓eExpr, ↓eRet, ↓eRetN, ↓eIfS, ↓eSet, ↓eOwn, ↓eAsg, ↓eSetIx, ↓eGSetIx, ↓eAug, ↓eIadd, ↓eIaddL, ↓eFrz, ↓eFor, ↓eWhile, ↓eNm, ↓eC, ↓eOp, ↓eB, ↓eTr, ↓eTrB, ↓eTrI, ↓eTrN, ↓eTrT, ↓eTrL, ↓eTrA, ↓eAnd, ↓eOr, ↓eNot, ↓eAndV, ↓eOrV, ↓eNotV, ↓eIf, ↓eNil, ↓eCons, ↓eTup, ↓eOfL, ↓eLstL, ↓eListL, ↓eCatL, ↓eLc, ↓eWipe0, ↓eWipe, ↓eSeq, ↓eRng1, ↓eRng2, ↓eCall, ↓eCB, ↓eNeg, ↓eChain, ↓eAppend, ↓ePop, ↓eNo, ↓eSome, ↓eSl, ↓gSl_t, ↓gSl_l, ↓gSl_a, ↓gAdd_i, ↓gAdd_t, ↓gAdd_s, ↓gAdd_l, ↓gI0_i, ↓gI_i, ↓gMul_i, ↓gMul_t, ↓gEq_, ↓gNe_, ↓gIs_n, ↓gIs_b, ↓gIsNot_n, ↓gIsNot_b, ↓gIn_, ↓gNotIn_, ↓gIx_t, ↓gIx_l, ↓gIx_a, ↓gLen_, ↓gLen_l, ↓gLen_a, ↓gInt_, ↓gInt_b, ↓gTuple_, ↓gTuple_l, ↓gTuple_a, ↓gMax_, ↓gMin_, ↓gIsBool_b, ↓gIsBool_i, seqOf_t, seqOf_l, seqOf_a, lstOf_l, lstOf_a, rsv_i, rsv_b, rsv_s, rsv_n, rsv_t, rsv_l, dle_i, dle_b, dle_n, eqD_i, eqD_b, isNon, bNm_, bTup_, bCons_, bNil_, Option.bind_some, i40, i41, i42, i43, atI0, atI1, atI2, atI3, mset_same, true_and, beq_self_eq_true, Bool.false_eq_true, c0, c1, Int.cast_ofNat_Int, Int.reduceEq, Int.reduceLT, Int.reduceLE, Int.reduceAdd, Int.reduceSub, ↓reduceIte]
        exact hnx _ _ ⟨rfl, w4, rfl, by omega⟩
    · rintro ρ M' ⟨rfl, w, rfl, hw⟩
      try simp -dsimp only [bodyE, startD, List.map_cons, List.map_nil, List.length_cons, List.length_nil, List.replicate_succ, List.replicate_zero, List.cons_append, List.nil_append, Nat.reduceAdd, Nat.reduceSub, List.set_cons_zero, List.set_cons_succ, List.getElem?_cons_zero, List.getElem?_cons_succ, Bool.not_true, Bool.not_false, decide_true, decide_false, ↓IfS_t, ↓IfS_f, ↓IfE_t, ↓IfE_f, ↓AndT_t, ↓AndT_f, ↓OrT_t, ↓OrT_f, ↓AndV_t, ↓AndV_f, ↓OrV_t, ↓OrV_f, IfS_t, IfS_f, IfE_t, IfE_f, AndT_t, AndT_f, OrT_t, OrT_f, AndV_t, AndV_f, OrV_t, OrV_f, ↓eThen, ↓ePass, ↓eBreak, ↓eCont, ↓eExpr, ↓eRet, ↓eRetN, ↓eIfS, ↓eSet, ↓eOwn, ↓eAsg, ↓eSetIx, ↓eGSetIx, ↓eAug, ↓eIadd, ↓eIaddL, ↓eFrz, ↓eFor, ↓eWhile, ↓eNm, ↓eC, ↓eOp, ↓eB, ↓eTr, ↓eTrB, ↓eTrI, ↓eTrN, ↓eTrT, ↓eTrL, ↓eTrA, ↓eAnd, ↓eOr, ↓eNot, ↓eAndV, ↓eOrV, ↓eNotV, ↓eIf, ↓eNil, ↓eCons, ↓eTup, ↓eOfL, ↓eLstL, ↓eListL, ↓eCatL, ↓eLc, ↓eWipe0, ↓eWipe, ↓eSeq, ↓eRng1, ↓eRng2, ↓eCall, ↓eCB, ↓eNeg, ↓eChain, ↓eAppend, ↓ePop, ↓eNo, ↓eSome, ↓eSl, ↓gSl_t, ↓gSl_l, ↓gSl_a, ↓gAdd_i, ↓gAdd_t, ↓gAdd_s, ↓gAdd_l, ↓gI0_i, ↓gI_i, ↓gMul_i, ↓gMul_t, ↓gEq_, ↓gNe_, ↓gIs_n, ↓gIs_b, ↓gIsNot_n, ↓gIsNot_b, ↓gIn_, ↓gNotIn_, ↓gIx_t, ↓gIx_l, ↓gIx_a, ↓gLen_, ↓gLen_l, ↓gLen_a, ↓gInt_, ↓gInt_b, ↓gTuple_, ↓gTuple_l, ↓gTuple_a, ↓gMax_, ↓gMin_, ↓gIsBool_b, ↓gIsBool_i, seqOf_t, seqOf_l, seqOf_a, lstOf_l, lstOf_a, rsv_i, rsv_b, rsv_s, rsv_n, rsv_t, rsv_l, dle_i, dle_b, dle_n, eqD_i, eqD_b, isNon, bNm_, bTup_, bCons_, bNil_, Option.bind_some, i40, i41, i42, i43, atI0, atI1, atI2, atI3, mset_same, true_and, beq_self_eq_true, Bool.false_eq_true, c0, c1, Int.cast_ofNat_Int, Int.reduceEq, Int.reduceLT, Int.reduceLE, Int.reduceAdd, Int.reduceSub, ↓reduceIte]
      refine ⟨p4, w, rfl, ?_⟩
      try simp -dsimp only [bodyE, startD, List.map_cons, List.map_nil, List.length_cons, List.length_nil, List.replicate_succ, List.replicate_zero, List.cons_append, List.nil_append, Nat.reduceAdd, Nat.reduceSub, List.set_cons_zero, List.set_cons_succ, List.getElem?_cons_zero, List.getElem?_cons_succ, Bool.not_true, Bool.not_false, decide_true, decide_false, ↓IfS_t, ↓IfS_f, ↓IfE_t, ↓IfE_f, ↓AndT_t, ↓AndT_f, ↓OrT_t, ↓OrT_f, ↓AndV_t, ↓AndV_f, ↓OrV_t, ↓OrV_f, IfS_t, IfS_f, IfE_t, IfE_f, AndT_t, AndT_f, OrT_t, OrT_f, AndV_t, AndV_f, OrV_t, OrV_f, ↓eThen, ↓ePass, ↓eBreak, ↓eCont, ↓eExpr, ↓eRet, ↓eRetN, ↓eIfS, ↓eSet, ↓eOwn, ↓eAsg, ↓eSetIx, ↓eGSetIx, ↓eAug, ↓eIadd, ↓eIaddL, ↓eFrz, ↓eFor, ↓eWhile, ↓eNm, ↓eC, ↓eOp, ↓eB, ↓eTr, ↓eTrB, ↓eTrI, ↓eTrN, ↓eTrT, ↓eTrL, ↓eTrA, ↓eAnd, ↓eOr, ↓eNot, ↓eAndV, ↓eOrV, ↓eNotV, ↓eIf, ↓eNil, ↓eCons, ↓eTup, ↓eOfL, ↓eLstL, ↓eListL, ↓eCatL, ↓eLc, ↓eWipe0, ↓eWipe, ↓eSeq, ↓eRng1, ↓eRng2, ↓eCall, ↓eCB, ↓eNeg, ↓eChain, ↓eAppend, ↓ePop, ↓eNo, ↓eSome, ↓eSl, ↓gSl_t, ↓gSl_l, ↓gSl_a, ↓gAdd_i, ↓gAdd_t, ↓gAdd_s, ↓gAdd_l, ↓gI0_i, ↓gI_i, ↓gMul_i, ↓gMul_t, ↓gEq_, ↓gNe_, ↓gIs_n, ↓gIs_b, ↓gIsNot_n, ↓gIsNot_b, ↓gIn_, ↓gNotIn_, ↓gIx_t, ↓gIx_l, ↓gIx_a, ↓gLen_, ↓gLen_l, ↓gLen_a, ↓gInt_, ↓gInt_b, ↓gTuple_, ↓gTuple_l, ↓gTuple_a, ↓gMax_, ↓gMin_, ↓gIsBool_b, ↓gIsBool_i, seqOf_t, seqOf_l, seqOf_a, lstOf_l, lstOf_a, rsv_i, rsv_b, rsv_s, rsv_n, rsv_t, rsv_l, dle_i, dle_b, dle_n, eqD_i, eqD_b, isNon, bNm_, bTup_, bCons_, bNil_, Option.bind_some, i40, i41, i42, i43, atI0, atI1, atI2, atI3, mset_same, true_and, beq_self_eq_true, Bool.false_eq_true, c0, c1, Int.cast_ofNat_Int, Int.reduceEq, Int.reduceLT, Int.reduceLE, Int.reduceAdd, Int.reduceSub, ↓reduceIte]
      refine ⟨p4, w, rfl, by omega, ?_⟩
      try simp -dsimp only [bodyE, startD, List.map_cons, List.map_nil, List.length_cons, List.length_nil, List.replicate_succ, List.replicate_zero, List.cons_append, List.nil_append, Nat.reduceAdd, Nat.reduceSub, List.set_cons_zero, List.set_cons_succ, List.getElem?_cons_zero, List.getElem?_cons_succ, Bool.not_true, Bool.not_false, decide_true, decide_false, ↓IfS_t, ↓IfS_f, ↓IfE_t, ↓IfE_f, ↓AndT_t, ↓AndT_f, ↓OrT_t, ↓OrT_f, ↓AndV_t, ↓AndV_f, ↓OrV_t, ↓OrV_f, IfS_t, IfS_f, IfE_t, IfE_f, AndT_t, AndT_f, OrT_t, OrT_f, AndV_t, AndV_f, OrV_t, OrV_f, ↓eThen, ↓ePass, ↓eBreak, ↓eCont, ↓eExpr, ↓eRet, ↓eRetN, ↓eIfS, ↓eSet, ↓eOwn, ↓eAsg, ↓eSetIx, ↓eGSetIx, ↓eAug, ↓eIadd, ↓eIaddL, ↓eFrz, ↓eFor, ↓eWhile, ↓eNm, ↓eC, ↓eOp, ↓eB, ↓eTr, ↓eTrB, ↓eTrI, ↓eTrN, ↓eTrT, ↓eTrL, ↓eTrA, ↓eAnd, ↓eOr, ↓eNot, ↓eAndV, ↓eOrV, ↓eNotV, ↓eIf, ↓eNil, ↓eCons, ↓eTup, ↓eOfL, ↓eLstL, ↓eListL, ↓eCatL, ↓eLc, ↓eWipe0, ↓eWipe, ↓eSeq, ↓eRng1, ↓eRng2, ↓eCall, ↓eCB, ↓eNeg, ↓eChain, ↓eAppend, ↓ePop, ↓eNo, ↓eSome, ↓eSl, ↓gSl_t, ↓gSl_l, ↓gSl_a, ↓gAdd_i, ↓gAdd_t, ↓gAdd_s, ↓gAdd_l, ↓gI0_i, ↓gI_i, ↓gMul_i, ↓gMul_t, ↓gEq_, ↓gNe_, ↓gIs_n, ↓gIs_b, ↓gIsNot_n, ↓gIsNot_b, ↓gIn_, ↓gNotIn_, ↓gIx_t, ↓gIx_l, ↓gIx_a, ↓gLen_, ↓gLen_l, ↓gLen_a, ↓gInt_, ↓gInt_b, ↓gTuple_, ↓gTuple_l, ↓gTuple_a, ↓gMax_, ↓gMin_, ↓gIsBool_b, ↓gIsBool_i, seqOf_t, seqOf_l, seqOf_a, lstOf_l, lstOf_a, rsv_i, rsv_b, rsv_s, rsv_n, rsv_t, rsv_l, dle_i, dle_b, dle_n, eqD_i, eqD_b, isNon, bNm_, bTup_, bCons_, bNil_, Option.bind_some, i40, i41, i42, i43, atI0, atI1, atI2, atI3, mset_same, true_and, beq_self_eq_true, Bool.false_eq_true, c0, c1, Int.cast_ofNat_Int, Int.reduceEq, Int.reduceLT, Int.reduceLE, Int.reduceAdd, Int.reduceSub, ↓reduceIte]
      refine ⟨p4, w, rfl, ?_⟩
      try simp -dsimp only [bodyE, startD, List.map_cons, List.map_nil, List.length_cons, List.length_nil, List.replicate_succ, List.replicate_zero, List.cons_append, List.nil_append, Nat.reduceAdd, Nat.reduceSub, List.set_cons_zero, List.set_cons_succ, List.getElem?_cons_zero, List.getElem?_cons_succ, Bool.not_true, Bool.not_false, decide_true, decide_false, ↓IfS_t, ↓IfS_f, ↓IfE_t, ↓IfE_f, ↓AndT_t, ↓AndT_f, ↓OrT_t, ↓OrT_f, ↓AndV_t, ↓AndV_f, ↓OrV_t, ↓OrV_f, IfS_t, IfS_f, IfE_t, IfE_f, AndT_t, AndT_f, OrT_t, OrT_f, AndV_t, AndV_f, OrV_t, OrV_f, ↓eThen, ↓ePass, ↓eBreak, ↓eCont, ↓eExpr, ↓eRet, ↓eRetN, ↓eIfS, ↓eSet, ↓eOwn, ↓eAsg, ↓eSetIx, ↓eGSetIx, ↓eAug, ↓eIadd, ↓eIaddL, ↓eFrz, ↓eFor, ↓eWhile, ↓eNm, ↓eC, ↓eOp, ↓eB, ↓eTr, ↓eTrB, ↓eTrI, ↓eTrN, ↓eTrT, ↓eTrL, ↓eTrA, ↓eAnd, ↓eOr, ↓eNot, ↓eAndV, ↓eOrV, ↓eNotV, ↓eIf, ↓eNil, ↓eCons, ↓eTup, ↓eOfL, ↓eLstL, ↓eListL, ↓eCatL, ↓eLc, ↓eWipe0, ↓eWipe, ↓eSeq, ↓eRng1, ↓eRng2, ↓eCall, ↓eCB, ↓eNeg, ↓eChain, ↓eAppend, ↓ePop, ↓eNo, ↓eSome, ↓eSl, ↓gSl_t, ↓gSl_l, ↓gSl_a, ↓gAdd_i, ↓gAdd_t, ↓gAdd_s, ↓gAdd_l, ↓gI0_i, ↓gI_i, ↓gMul_i, ↓gMul_t, ↓gEq_, ↓gNe_, ↓gIs_n, ↓gIs_b, ↓gIsNot_n, ↓gIsNot_b, ↓gIn_, ↓gNotIn_, ↓gIx_t, ↓gIx_l, ↓gIx_a, ↓gLen_, ↓gLen_l, ↓gLen_a, ↓gInt_, ↓gInt_b, ↓gTuple_, ↓gTuple_l, ↓gTuple_a, ↓gMax_, ↓gMin_, ↓gIsBool_b, ↓gIsBool_i, seqOf_t, seqOf_l, seqOf_a, lstOf_l, lstOf_a, rsv_i, rsv_b, rsv_s, rsv_n, rsv_t, rsv_l, dle_i, dle_b, dle_n, eqD_i, eqD_b, isNon, bNm_, bTup_, bCons_, bNil_, Option.bind_some, i40, i41, i42, i43, atI0, atI1, atI2, atI3, mset_same, true_and, beq_self_eq_true, Bool.false_eq_true, c0, c1, Int.cast_ofNat_Int, Int.reduceEq, Int.reduceLT, Int.reduceLE, Int.reduceAdd, Int.reduceSub, ↓reduceIte]
      unfold wD
      try simp -dsimp only [bodyE, startD, List.map_cons, List.map_nil, List.length_cons, List.length_nil, List.replicate_succ, List.replicate_zero, List.cons_append, List.nil_append, Nat.reduceAdd, Nat.reduceSub, List.set_cons_zero, List.set_cons_succ, List.getElem?_cons_zero, List.getElem?_cons_succ, Bool.not_true, Bool.not_false, decide_true, decide_false, ↓IfS_t, ↓IfS_f, ↓IfE_t, ↓IfE_f, ↓AndT_t, ↓AndT_f, ↓OrT_t, ↓OrT_f, ↓AndV_t, ↓AndV_f, ↓OrV_t, ↓OrV_f, IfS_t, IfS_f, IfE_t, IfE_f, AndT_t, AndT_f, OrT_t, OrT_f, AndV_t, AndV_f, OrV_t, OrV_f, ↓eThen, ↓ePass, ↓eBreak, ↓eCont, ↓eExpr, ↓eRet, ↓eRetN, ↓eIfS, ↓eSet, ↓eOwn, ↓eAsg, ↓eSetIx, ↓eGSetIx, ↓eAug, ↓eIadd, ↓eIaddL, ↓eFrz, ↓eFor, ↓eWhile, ↓eNm, ↓eC, ↓eOp, ↓eB, ↓eTr, ↓eTrB, ↓eTrI, ↓eTrN, ↓eTrT, ↓eTrL, ↓eTrA, ↓eAnd, ↓eOr, ↓eNot, ↓eAndV, ↓eOrV, ↓eNotV, ↓eIf, ↓eNil, ↓eCons, ↓eTup, ↓eOfL, ↓eLstL, ↓eListL, ↓eCatL, ↓eLc, ↓eWipe0, ↓eWipe, ↓eSeq, ↓eRng1, ↓eRng2, ↓eCall, ↓eCB, ↓eNeg, ↓eChain, ↓eAppend, ↓ePop, ↓eNo, ↓eSome, ↓eSl, ↓gSl_t, ↓gSl_l, ↓gSl_a, ↓gAdd_i, ↓gAdd_t, ↓gAdd_s, ↓gAdd_l, ↓gI0_i, ↓gI_i, ↓gMul_i, ↓gMul_t, ↓gEq_, ↓gNe_, ↓gIs_n, ↓gIs_b, ↓gIsNot_n, ↓gIsNot_b, ↓gIn_, ↓gNotIn_, ↓gIx_t, ↓gIx_l, ↓gIx_a, ↓gLen_, ↓gLen_l, ↓gLen_a, ↓gInt_, ↓gInt_b, ↓gTuple_, ↓gTuple_l, ↓gTuple_a, ↓gMax_, ↓gMin_, ↓gIsBool_b, ↓gIsBool_i, seqOf_t, seqOf_l, seqOf_a, lstOf_l, lstOf_a, rsv_i, rsv_b, rsv_s, rsv_n, rsv_t, rsv_l, dle_i, dle_b, dle_n, eqD_i, eqD_b, isNon, bNm_, bTup_, bCons_, bNil_, Option.bind_some, i40, i41, i42, i43, atI0, atI1, atI2, atI3, mset_same, true_and, beq_self_eq_true, Bool.false_eq_true, c0, c1, Int.cast_ofNat_Int, Int.reduceEq, Int.reduceLT, Int.reduceLE, Int.reduceAdd, Int.reduceSub, ↓reduceIte, List.length_map]
      refine draw_call s5.2 (by omega) (by omega) fun M6 at_ a0 a1 s6 => ?_
      try simp -dsimp only [bodyE, startD, List.map_cons, List.map_nil, List.length_cons, List.length_nil, List.replicate_succ, List.replicate_zero, List.cons_append, List.nil_append, Nat.reduceAdd, Nat.reduceSub, List.set_cons_zero, List.set_cons_succ, List.getElem?_cons_zero, List.getElem?_cons_succ, Bool.not_true, Bool.not_false, decide_true, decide_false, ↓IfS_t, ↓IfS_f, ↓IfE_t, ↓IfE_f, ↓AndT_t, ↓AndT_f, ↓OrT_t, ↓OrT_f, ↓AndV_t, ↓AndV_f, ↓OrV_t, ↓OrV_f, IfS_t, IfS_f, IfE_t, IfE_f, AndT_t, AndT_f, OrT_t, OrT_f, AndV_t, AndV_f, OrV_t, OrV_f, ↓eThen, ↓ePass, ↓eBreak, ↓eCont, ↓eExpr, ↓eRet, ↓eRetN, ↓eIfS, ↓eSet, ↓eOwn, ↓eAsg, ↓eSetIx, ↓eGSetIx, ↓eAug, ↓eIadd, ↓eIaddL, ↓eFrz, ↓eFor, ↓eWhile, ↓eNm, ↓eC, ↓eOp, ↓eB, ↓eTr, ↓eTrB, ↓eTrI, ↓eTrN, ↓eTrT, ↓eTrL, ↓eTrA, ↓eAnd, ↓eOr, ↓eNot, ↓eAndV, ↓eOrV, ↓eNotV, ↓eIf, ↓eNil, ↓eCons, ↓eTup, ↓eOfL, ↓eLstL, ↓eListL, ↓eCatL, ↓eLc, ↓eWipe0, ↓eWipe, ↓eSeq, ↓eRng1, ↓eRng2, ↓eCall, ↓eCB, ↓eNeg, ↓eChain, ↓eAppend, ↓ePop, ↓eNo, ↓eSome, ↓eSl, ↓gSl_t, ↓gSl_l, ↓gSl_a, ↓gAdd_i, ↓gAdd_t, ↓gAdd_s, ↓gAdd_l, ↓gI0_i, ↓gI_i, ↓gMul_i, ↓gMul_t, ↓gEq_, ↓gNe_, ↓gIs_n, ↓gIs_b, ↓gIsNot_n, ↓gIsNot_b, ↓gIn_, ↓gNotIn_, ↓gIx_t, ↓gIx_l, ↓gIx_a, ↓gLen_, ↓gLen_l, ↓gLen_a, ↓gInt_, ↓gInt_b, ↓gTuple_, ↓gTuple_l, ↓gTuple_a, ↓gMax_, ↓gMin_, ↓gIsBool_b, ↓gIsBool_i, seqOf_t, seqOf_l, seqOf_a, lstOf_l, lstOf_a, rsv_i, rsv_b, rsv_s, rsv_n, rsv_t, rsv_l, dle_i, dle_b, dle_n, eqD_i, eqD_b, isNon, bNm_, bTup_, bCons_, bNil_, Option.bind_some, i40, i41, i42, i43, atI0, atI1, atI2, atI3, mset_same, true_and, beq_self_eq_true, Bool.false_eq_true, c0, c1, Int.cast_ofNat_Int, Int.reduceEq, Int.reduceLT, Int.reduceLE, Int.reduceAdd, Int.reduceSub, ↓reduceIte]
      refine ⟨p4, w, rfl, ?_⟩
      try simp -dsimp only [bodyE, startD, List.map_cons, List.map_nil, List.length_cons, List.length_nil, List.replicate_succ, List.replicate_zero, List.cons_append, List.nil_append, Nat.reduceAdd, Nat.reduceSub, List.set_cons_zero, List.set_cons_succ, List.getElem?_cons_zero, List.getElem?_cons_succ, Bool.not_true, Bool.not_false, decide_true, decide_false, ↓IfS_t, ↓IfS_f, ↓IfE_t, ↓IfE_f, ↓AndT_t, ↓AndT_f, ↓OrT_t, ↓OrT_f, ↓AndV_t, ↓AndV_f, ↓OrV_t, ↓OrV_f, IfS_t, IfS_f, IfE_t, IfE_f, AndT_t, AndT_f, OrT_t, OrT_f, AndV_t, AndV_f, OrV_t, OrV_f, ↓eThen, ↓ePass, ↓eBreak, ↓eCont, ↓eExpr, ↓eRet, ↓eRetN, ↓eIfS, ↓eSet, ↓eOwn, ↓eAsg, ↓eSetIx, ↓eGSetIx, ↓eAug, ↓eIadd, ↓eIaddL, ↓eFrz, ↓eFor, ↓eWhile, ↓eNm, ↓eC, ↓eOp, ↓eB, ↓eTr, ↓eTrB, ↓eTrI, ↓eTrN, ↓eTrT, ↓eTrL, ↓eTrA, ↓eAnd, ↓eOr, ↓eNot, ↓eAndV, ↓eOrV, ↓eNotV, ↓eIf, ↓eNil, ↓eCons, ↓eTup, ↓eOfL, ↓eLstL, ↓eListL, ↓eCatL, ↓eLc, ↓eWipe0, ↓eWipe, ↓eSeq, ↓eRng1, ↓eRng2, ↓eCall, ↓eCB, ↓eNeg, ↓eChain, ↓eAppend, ↓ePop, ↓eNo, ↓eSome, ↓eSl, ↓gSl_t, ↓gSl_l, ↓gSl_a, ↓gAdd_i, ↓gAdd_t, ↓gAdd_s, ↓gAdd_l, ↓gI0_i, ↓gI_i, ↓gMul_i, ↓gMul_t, ↓gEq_, ↓gNe_, ↓gIs_n, ↓gIs_b, ↓gIsNot_n, ↓gIsNot_b, ↓gIn_, ↓gNotIn_, ↓gIx_t, ↓gIx_l, ↓gIx_a, ↓gLen_, ↓gLen_l, ↓gLen_a, ↓gInt_, ↓gInt_b, ↓gTuple_, ↓gTuple_l, ↓gTuple_a, ↓gMax_, ↓gMin_, ↓gIsBool_b, ↓gIsBool_i, seqOf_t, seqOf_l, seqOf_a, lstOf_l, lstOf_a, rsv_i, rsv_b, rsv_s, rsv_n, rsv_t, rsv_l, dle_i, dle_b, dle_n, eqD_i, eqD_b, isNon, bNm_, bTup_, bCons_, bNil_, Option.bind_some, i40, i41, i42, i43, atI0, atI1, atI2, atI3, mset_same, true_and, beq_self_eq_true, Bool.false_eq_true, c0, c1, Int.cast_ofNat_Int, Int.reduceEq, Int.reduceLT, Int.reduceLE, Int.reduceAdd, Int.reduceSub, ↓reduceIte]
      have hn2 : ∀ o6, n [some (.lst (ns.map .int)), some (.loc p), some (.int (1 + l0)), some d, some (pD p4), some (wD w), o6] M6 := fun o6 => hn _ _ ⟨_, _, _, _, rfl, s6.2⟩
      cases hf : Fits p4 w with
      | false =>
        try simp -dsimp only [bodyE, startD, List.map_cons, List.map_nil, List.length_cons, List.length_nil, List.replicate_succ, List.replicate_zero, List.cons_append, List.nil_append, Nat.reduceAdd, Nat.reduceSub, List.set_cons_zero, List.set_cons_succ, List.getElem?_cons_zero, List.getElem?_cons_succ, Bool.not_true, Bool.not_false, decide_true, decide_false, ↓IfS_t, ↓IfS_f, ↓IfE_t, ↓IfE_f, ↓AndT_t, ↓AndT_f, ↓OrT_t, ↓OrT_f, ↓AndV_t, ↓AndV_f, ↓OrV_t, ↓OrV_f, IfS_t, IfS_f, IfE_t, IfE_f, AndT_t, AndT_f, OrT_t, OrT_f, AndV_t, AndV_f, OrV_t, OrV_f, ↓eThen, ↓ePass, ↓eBreak, ↓eCont, ↓eExpr, ↓eRet, ↓eRetN, ↓eIfS, ↓eSet, ↓eOwn, ↓eAsg, ↓eSetIx, ↓eGSetIx, ↓eAug, ↓eIadd, ↓eIaddL, ↓eFrz, ↓eFor, ↓eWhile, ↓eNm, ↓eC, ↓eOp, ↓eB, ↓eTr, ↓eTrB, ↓eTrI, ↓eTrN, ↓eTrT, ↓eTrL, ↓eTrA, ↓eAnd, ↓eOr, ↓eNot, ↓eAndV, ↓eOrV, ↓eNotV, ↓eIf, ↓eNil, ↓eCons, ↓eTup, ↓eOfL, ↓eLstL, ↓eListL, ↓eCatL, ↓eLc, ↓eWipe0, ↓eWipe, ↓eSeq, ↓eRng1, ↓eRng2, ↓eCall, ↓eCB, ↓eNeg, ↓eChain, ↓eAppend, ↓ePop, ↓eNo, ↓eSome, ↓eSl, ↓gSl_t, ↓gSl_l, ↓gSl_a, ↓gAdd_i, ↓gAdd_t, ↓gAdd_s, ↓gAdd_l, ↓gI0_i, ↓gI_i, ↓gMul_i, ↓gMul_t, ↓gEq_, ↓gNe_, ↓gIs_n, ↓gIs_b, ↓gIsNot_n, ↓gIsNot_b, ↓gIn_, ↓gNotIn_, ↓gIx_t, ↓gIx_l, ↓gIx_a, ↓gLen_, ↓gLen_l, ↓gLen_a, ↓gInt_, ↓gInt_b, ↓gTuple_, ↓gTuple_l, ↓gTuple_a, ↓gMax_, ↓gMin_, ↓gIsBool_b, ↓gIsBool_i, seqOf_t, seqOf_l, seqOf_a, lstOf_l, lstOf_a, rsv_i, rsv_b, rsv_s, rsv_n, rsv_t, rsv_l, dle_i, dle_b, dle_n, eqD_i, eqD_b, isNon, bNm_, bTup_, bCons_, bNil_, Option.bind_some, i40, i41, i42, i43, atI0, atI1, atI2, atI3, mset_same, true_and, beq_self_eq_true, Bool.false_eq_true, c0, c1, Int.cast_ofNat_Int, Int.reduceEq, Int.reduceLT, Int.reduceLE, Int.reduceAdd, Int.reduceSub, ↓reduceIte]
        exact hn2 _
      | true =>
        try simp -dsimp only [bodyE, startD, List.map_cons, List.map_nil, List.length_cons, List.length_nil, List.replicate_succ, List.replicate_zero, List.cons_append, List.nil_append, Nat.reduceAdd, Nat.reduceSub, List.set_cons_zero, List.set_cons_succ, List.getElem?_cons_zero, List.getElem?_cons_succ, Bool.not_true, Bool.not_false, decide_true, decide_false, ↓IfS_t, ↓IfS_f, ↓IfE_t, ↓IfE_f, ↓AndT_t, ↓AndT_f, ↓OrT_t, ↓OrT_f, ↓AndV_t, ↓AndV_f, ↓OrV_t, ↓OrV_f, IfS_t, IfS_f, IfE_t, IfE_f, AndT_t, AndT_f, OrT_t, OrT_f, AndV_t, AndV_f, OrV_t, OrV_f, ↓eThen, ↓ePass, ↓eBreak, ↓eCont, ↓eExpr, ↓eRet, ↓eRetN, ↓eIfS, ↓eSet, ↓eOwn, ↓eAsg, ↓eSetIx, ↓eGSetIx, ↓eAug, ↓eIadd, ↓eIaddL, ↓eFrz, ↓eFor, ↓eWhile, ↓eNm, ↓eC, ↓eOp, ↓eB, ↓eTr, ↓eTrB, ↓eTrI, ↓eTrN, ↓eTrT, ↓eTrL, ↓eTrA, ↓eAnd, ↓eOr, ↓eNot, ↓eAndV, ↓eOrV, ↓eNotV, ↓eIf, ↓eNil, ↓eCons, ↓eTup, ↓eOfL, ↓eLstL, ↓eListL, ↓eCatL, ↓eLc, ↓eWipe0, ↓eWipe, ↓eSeq, ↓eRng1, ↓eRng2, ↓eCall, ↓eCB, ↓eNeg, ↓eChain, ↓eAppend, ↓ePop, ↓eNo, ↓eSome, ↓eSl, ↓gSl_t, ↓gSl_l, ↓gSl_a, ↓gAdd_i, ↓gAdd_t, ↓gAdd_s, ↓gAdd_l, ↓gI0_i, ↓gI_i, ↓gMul_i, ↓gMul_t, ↓gEq_, ↓gNe_, ↓gIs_n, ↓gIs_b, ↓gIsNot_n, ↓gIsNot_b, ↓gIn_, ↓gNotIn_, ↓gIx_t, ↓gIx_l, ↓gIx_a, ↓gLen_, ↓gLen_l, ↓gLen_a, ↓gInt_, ↓gInt_b, ↓gTuple_, ↓gTuple_l, ↓gTuple_a, ↓gMax_, ↓gMin_, ↓gIsBool_b, ↓gIsBool_i, seqOf_t, seqOf_l, seqOf_a, lstOf_l, lstOf_a, rsv_i, rsv_b, rsv_s, rsv_n, rsv_t, rsv_l, dle_i, dle_b, dle_n, eqD_i, eqD_b, isNon, bNm_, bTup_, bCons_, bNil_, Option.bind_some, i40, i41, i42, i43, atI0, atI1, atI2, atI3, mset_same, true_and, beq_self_eq_true, Bool.false_eq_true, c0, c1, Int.cast_ofNat_Int, Int.reduceEq, Int.reduceLT, Int.reduceLE, Int.reduceAdd, Int.reduceSub, ↓reduceIte]
        rw [cut_to a0, cut_from (by omega), ← List.map_take, ← List.map_drop, ← List.map_append, List.length_map, List.length_map]
        refine ⟨by rw [List.length_take, List.length_drop]; have : sizeLine = 16777216 := rfl; omega, p4, w.take at_.toNat ++ w.drop (at_ + 1).toNat, rfl, ?_⟩
        have hs : (w.take at_.toNat ++ w.drop (at_ + 1).toNat).Sublist w := by
          have e : (at_ + 1).toNat = at_.toNat + 1 := by omega
          rw [e, ← List.eraseIdx_eq_take_drop_succ]
          exact List.eraseIdx_sublist _ _
        rw [fits_clo p4 _ _ hs hf]
        try simp -dsimp only [bodyE, startD, List.map_cons, List.map_nil, List.length_cons, List.length_nil, List.replicate_succ, List.replicate_zero, List.cons_append, List.nil_append, Nat.reduceAdd, Nat.reduceSub, List.set_cons_zero, List.set_cons_succ, List.getElem?_cons_zero, List.getElem?_cons_succ, Bool.not_true, Bool.not_false, decide_true, decide_false, ↓IfS_t, ↓IfS_f, ↓IfE_t, ↓IfE_f, ↓AndT_t, ↓AndT_f, ↓OrT_t, ↓OrT_f, ↓AndV_t, ↓AndV_f, ↓OrV_t, ↓OrV_f, IfS_t, IfS_f, IfE_t, IfE_f, AndT_t, AndT_f, OrT_t, OrT_f, AndV_t, AndV_f, OrV_t, OrV_f, ↓eThen, ↓ePass, ↓eBreak, ↓eCont, ↓eExpr, ↓eRet, ↓eRetN, ↓eIfS, ↓eSet, ↓eOwn, ↓eAsg, ↓eSetIx, ↓eGSetIx, ↓eAug, ↓eIadd, ↓eIaddL, ↓eFrz, ↓eFor, ↓eWhile, ↓eNm, ↓eC, ↓eOp, ↓eB, ↓eTr, ↓eTrB, ↓eTrI, ↓eTrN, ↓eTrT, ↓eTrL, ↓eTrA, ↓eAnd, ↓eOr, ↓eNot, ↓eAndV, ↓eOrV, ↓eNotV, ↓eIf, ↓eNil, ↓eCons, ↓eTup, ↓eOfL, ↓eLstL, ↓eListL, ↓eCatL, ↓eLc, ↓eWipe0, ↓eWipe, ↓eSeq, ↓eRng1, ↓eRng2, ↓eCall, ↓eCB, ↓eNeg, ↓eChain, ↓eAppend, ↓ePop, ↓eNo, ↓eSome, ↓eSl, ↓gSl_t, ↓gSl_l, ↓gSl_a, ↓gAdd_i, ↓gAdd_t, ↓gAdd_s, ↓gAdd_l, ↓gI0_i, ↓gI_i, ↓gMul_i, ↓gMul_t, ↓gEq_, ↓gNe_, ↓gIs_n, ↓gIs_b, ↓gIsNot_n, ↓gIsNot_b, ↓gIn_, ↓gNotIn_, ↓gIx_t, ↓gIx_l, ↓gIx_a, ↓gLen_, ↓gLen_l, ↓gLen_a, ↓gInt_, ↓gInt_b, ↓gTuple_, ↓gTuple_l, ↓gTuple_a, ↓gMax_, ↓gMin_, ↓gIsBool_b, ↓gIsBool_i, seqOf_t, seqOf_l, seqOf_a, lstOf_l, lstOf_a, rsv_i, rsv_b, rsv_s, rsv_n, rsv_t, rsv_l, dle_i, dle_b, dle_n, eqD_i, eqD_b, isNon, bNm_, bTup_, bCons_, bNil_, Option.bind_some, i40, i41, i42, i43, atI0, atI1, atI2, atI3, mset_same, true_and, beq_self_eq_true, Bool.false_eq_true, c0, c1, Int.cast_ofNat_Int, Int.reduceEq, Int.reduceLT, Int.reduceLE, Int.reduceAdd, Int.reduceSub, ↓reduceIte]
        exact hn2 _
  · rintro ρ M' ⟨o3, o4, o5, o6, rfl, s2⟩
    try simp -dsimp only [bodyE, startD, List.map_cons, List.map_nil, List.length_cons, List.length_nil, List.replicate_succ, List.replicate_zero, List.cons_append, List.nil_append, Nat.reduceAdd, Nat.reduceSub, List.set_cons_zero, List.set_cons_succ, List.getElem?_cons_zero, List.getElem?_cons_succ, Bool.not_true, Bool.not_false, decide_true, decide_false, ↓IfS_t, ↓IfS_f, ↓IfE_t, ↓IfE_f, ↓AndT_t, ↓AndT_f, ↓OrT_t, ↓OrT_f, ↓AndV_t, ↓AndV_f, ↓OrV_t, ↓OrV_f, IfS_t, IfS_f, IfE_t, IfE_f, AndT_t, AndT_f, OrT_t, OrT_f, AndV_t, AndV_f, OrV_t, OrV_f, ↓eThen, ↓ePass, ↓eBreak, ↓eCont, ↓eExpr, ↓eRet, ↓eRetN, ↓eIfS, ↓eSet, ↓eOwn, ↓eAsg, ↓eSetIx, ↓eGSetIx, ↓eAug, ↓eIadd, ↓eIaddL, ↓eFrz, ↓eFor, ↓eWhile, ↓eNm, ↓eC, ↓eOp, ↓eB, ↓eTr, ↓eTrB, ↓eTrI, ↓eTrN, ↓eTrT, ↓eTrL, ↓eTrA, ↓eAnd, ↓eOr, ↓eNot, ↓eAndV, ↓eOrV, ↓eNotV, ↓eIf, ↓eNil, ↓eCons, ↓eTup, ↓eOfL, ↓eLstL, ↓eListL, ↓eCatL, ↓eLc, ↓eWipe0, ↓eWipe, ↓eSeq, ↓eRng1, ↓eRng2, ↓eCall, ↓eCB, ↓eNeg, ↓eChain, ↓eAppend, ↓ePop, ↓eNo, ↓eSome, ↓eSl, ↓gSl_t, ↓gSl_l, ↓gSl_a, ↓gAdd_i, ↓gAdd_t, ↓gAdd_s, ↓gAdd_l, ↓gI0_i, ↓gI_i, ↓gMul_i, ↓gMul_t, ↓gEq_, ↓gNe_, ↓gIs_n, ↓gIs_b, ↓gIsNot_n, ↓gIsNot_b, ↓gIn_, ↓gNotIn_, ↓gIx_t, ↓gIx_l, ↓gIx_a, ↓gLen_, ↓gLen_l, ↓gLen_a, ↓gInt_, ↓gInt_b, ↓gTuple_, ↓gTuple_l, ↓gTuple_a, ↓gMax_, ↓gMin_, ↓gIsBool_b, ↓gIsBool_i, seqOf_t, seqOf_l, seqOf_a, lstOf_l, lstOf_a, rsv_i, rsv_b, rsv_s, rsv_n, rsv_t, rsv_l, dle_i, dle_b, dle_n, eqD_i, eqD_b, isNon, bNm_, bTup_, bCons_, bNil_, Option.bind_some, i40, i41, i42, i43, atI0, atI1, atI2, atI3, mset_same, true_and, beq_self_eq_true, Bool.false_eq_true, c0, c1, Int.cast_ofNat_Int, Int.reduceEq, Int.reduceLT, Int.reduceLE, Int.reduceAdd, Int.reduceSub, ↓reduceIte]
    refine ⟨by decide, by decide, [], [], rfl, ?_⟩
    rw [fits_nil]
    try simp -dsimp only [bodyE, startD, List.map_cons, List.map_nil, List.length_cons, List.length_nil, List.replicate_succ, List.replicate_zero, List.cons_append, List.nil_append, Nat.reduceAdd, Nat.reduceSub, List.set_cons_zero, List.set_cons_succ, List.getElem?_cons_zero, List.getElem?_cons_succ, Bool.not_true, Bool.not_false, decide_true, decide_false, ↓IfS_t, ↓IfS_f, ↓IfE_t, ↓IfE_f, ↓AndT_t, ↓AndT_f, ↓OrT_t, ↓OrT_f, ↓AndV_t, ↓AndV_f, ↓OrV_t, ↓OrV_f, IfS_t, IfS_f, IfE_t, IfE_f, AndT_t, AndT_f, OrT_t, OrT_f, AndV_t, AndV_f, OrV_t, OrV_f, ↓eThen, ↓ePass, ↓eBreak, ↓eCont, ↓eExpr, ↓eRet, ↓eRetN, ↓eIfS, ↓eSet, ↓eOwn, ↓eAsg, ↓eSetIx, ↓eGSetIx, ↓eAug, ↓eIadd, ↓eIaddL, ↓eFrz, ↓eFor, ↓eWhile, ↓eNm, ↓eC, ↓eOp, ↓eB, ↓eTr, ↓eTrB, ↓eTrI, ↓eTrN, ↓eTrT, ↓eTrL, ↓eTrA, ↓eAnd, ↓eOr, ↓eNot, ↓eAndV, ↓eOrV, ↓eNotV, ↓eIf, ↓eNil, ↓eCons, ↓eTup, ↓eOfL, ↓eLstL, ↓eListL, ↓eCatL, ↓eLc, ↓eWipe0, ↓eWipe, ↓eSeq, ↓eRng1, ↓eRng2, ↓eCall, ↓eCB, ↓eNeg, ↓eChain, ↓eAppend, ↓ePop, ↓eNo, ↓eSome, ↓eSl, ↓gSl_t, ↓gSl_l, ↓gSl_a, ↓gAdd_i, ↓gAdd_t, ↓gAdd_s, ↓gAdd_l, ↓gI0_i, ↓gI_i, ↓gMul_i, ↓gMul_t, ↓gEq_, ↓gNe_, ↓gIs_n, ↓gIs_b, ↓gIsNot_n, ↓gIsNot_b, ↓gIn_, ↓gNotIn_, ↓gIx_t, ↓gIx_l, ↓gIx_a, ↓gLen_, ↓gLen_l, ↓gLen_a, ↓gInt_, ↓gInt_b, ↓gTuple_, ↓gTuple_l, ↓gTuple_a, ↓gMax_, ↓gMin_, ↓gIsBool_b, ↓gIsBool_i, seqOf_t, seqOf_l, seqOf_a, lstOf_l, lstOf_a, rsv_i, rsv_b, rsv_s, rsv_n, rsv_t, rsv_l, dle_i, dle_b, dle_n, eqD_i, eqD_b, isNon, bNm_, bTup_, bCons_, bNil_, Option.bind_some, i40, i41, i42, i43, atI0, atI1, atI2, atI3, mset_same, true_and, beq_self_eq_true, Bool.false_eq_true, c0, c1, Int.cast_ofNat_Int, Int.reduceEq, Int.reduceLT, Int.reduceLE, Int.reduceAdd, Int.reduceSub, ↓reduceIte]
    refine ⟨by decide, by decide, [], [0], rfl, ?_⟩
    rw [fits_none]
    try simp -dsimp only [bodyE, startD, List.map_cons, List.map_nil, List.length_cons, List.length_nil, List.replicate_succ, List.replicate_zero, List.cons_append, List.nil_append, Nat.reduceAdd, Nat.reduceSub, List.set_cons_zero, List.set_cons_succ, List.getElem?_cons_zero, List.getElem?_cons_succ, Bool.not_true, Bool.not_false, decide_true, decide_false, ↓IfS_t, ↓IfS_f, ↓IfE_t, ↓IfE_f, ↓AndT_t, ↓AndT_f, ↓OrT_t, ↓OrT_f, ↓AndV_t, ↓AndV_f, ↓OrV_t, ↓OrV_f, IfS_t, IfS_f, IfE_t, IfE_f, AndT_t, AndT_f, OrT_t, OrT_f, AndV_t, AndV_f, OrV_t, OrV_f, ↓eThen, ↓ePass, ↓eBreak, ↓eCont, ↓eExpr, ↓eRet, ↓eRetN, ↓eIfS, ↓eSet, ↓eOwn, ↓eAsg, ↓eSetIx, ↓eGSetIx, ↓eAug, ↓eIadd, ↓eIaddL, ↓eFrz, ↓eFor, ↓eWhile, ↓eNm, ↓eC, ↓eOp, ↓eB, ↓eTr, ↓eTrB, ↓eTrI, ↓eTrN, ↓eTrT, ↓eTrL, ↓eTrA, ↓eAnd, ↓eOr, ↓eNot, ↓eAndV, ↓eOrV, ↓eNotV, ↓eIf, ↓eNil, ↓eCons, ↓eTup, ↓eOfL, ↓eLstL, ↓eListL, ↓eCatL, ↓eLc, ↓eWipe0, ↓eWipe, ↓eSeq, ↓eRng1, ↓eRng2, ↓eCall, ↓eCB, ↓eNeg, ↓eChain, ↓eAppend, ↓ePop, ↓eNo, ↓eSome, ↓eSl, ↓gSl_t, ↓gSl_l, ↓gSl_a, ↓gAdd_i, ↓gAdd_t, ↓gAdd_s, ↓gAdd_l, ↓gI0_i, ↓gI_i, ↓gMul_i, ↓gMul_t, ↓gEq_, ↓gNe_, ↓gIs_n, ↓gIs_b, ↓gIsNot_n, ↓gIsNot_b, ↓gIn_, ↓gNotIn_, ↓gIx_t, ↓gIx_l, ↓gIx_a, ↓gLen_, ↓gLen_l, ↓gLen_a, ↓gInt_, ↓gInt_b, ↓gTuple_, ↓gTuple_l, ↓gTuple_a, ↓gMax_, ↓gMin_, ↓gIsBool_b, ↓gIsBool_i, seqOf_t, seqOf_l, seqOf_a, lstOf_l, lstOf_a, rsv_i, rsv_b, rsv_s, rsv_n, rsv_t, rsv_l, dle_i, dle_b, dle_n, eqD_i, eqD_b, isNon, bNm_, bTup_, bCons_, bNil_, Option.bind_some, i40, i41, i42, i43, atI0, atI1, atI2, atI3, mset_same, true_and, beq_self_eq_true, Bool.false_eq_true, c0, c1, Int.cast_ofNat_Int, Int.reduceEq, Int.reduceLT, Int.reduceLE, Int.reduceAdd, Int.reduceSub, ↓reduceIte]
    exact post _
end U

set_option Elab.async false
set_option linter.all false
set_option maxRecDepth 100000
set_option maxHeartbeats 1000000
namespace U
open PySem PySem.Spec PyProof.Rows L2
def top (i : Nat) : Stmt := PySem.Challenge.pw_upwall_k05_patterns.main.body.getD i (.Pass ⟨0, 0, 0, 0⟩)
section
variable {P : Program} {w : World} {K : PySem.W.Frag} {mg : Str → Option Value} {base : Heap} {T : List Addr} {k : Nat} {W : WX} {X : Cx}
abbrev s_is_full : Stmt := top 1
theorem sc_is_full : FnScope N_is_full ["atom"] (defScope s_is_full) := ⟨rfl, rfl, rfl, by decide +kernel, rfl, by decide +kernel, by decide +kernel⟩
theorem d_is_full (g : Std P w K mg base N_is_full (defScope s_is_full) (fun _ => true) k W X) : DSs X T W (defBody s_is_full) (f_is_full) :=
  dss_one (ds_ret (n_eq g (n_ix g (n_nm g 0) de_int) de_str))
abbrev s_fits : Stmt := top 2
theorem sc_fits : FnScope N_fits ["pattern", "word"] (defScope s_fits) := ⟨rfl, rfl, rfl, by decide +kernel, rfl, by decide +kernel, by decide +kernel⟩
theorem d_fits {S_is_full : FSpec} (F : Fr mg) (F_is_full : Fn P w K mg base T k "is_full" S_is_full) (g : Std P w K mg base N_fits (defScope s_fits) (fun _ => true) k W X) : DSs X T W (defBody s_fits) (f_fits S_is_full) :=
  dss_cons (s_set g de_int) (dss_cons (s_for g (vs := [3]) (di_seq (n_nm g 0)) (g_nm g 3) (dss_one (ds_if (t_tr g (n_call g F_is_full (l_cons g (n_nm g 3) da_nil))) (dss_one (s_while g ((dw_and (t_lt g (n_nm g 2) (n_len g F (l_cons g (n_nm g 1) da_nil))) (dw_and1 (t_in g (n_ix g (n_nm g 1) (n_nm g 2)) (n_ix g (n_nm g 3) de_int)))).dt) (dss_one (s_aug g de_int)))) (dss_one (ds_if ((dw_and (t_lt g (n_nm g 2) (n_len g F (l_cons g (n_nm g 1) da_nil))) (dw_and1 (t_eq g (n_ix g (n_nm g 1) (n_nm g 2)) (n_ix g (n_nm g 3) de_int)))).dt) (dss_one (s_aug g de_int)) dss_nil))))) (dss_one (ds_ret (n_eq g (n_nm g 2) (n_len g F (l_cons g (n_nm g 1) da_nil))))))
abbrev s_ldraw : Stmt := top 4
theorem sc_ldraw : FnScope N_ldraw ["_law_state", "_law_limit"] (defScope s_ldraw) := ⟨rfl, rfl, rfl, by decide +kernel, rfl, by decide +kernel, by decide +kernel⟩
theorem d_ldraw (F : Fr mg) (g : Std P w K mg base N_ldraw (defScope s_ldraw) (fun _ => true) k W X) : DSs X T W (defBody s_ldraw) (f_ldraw) :=
  dss_cons (ds_if (t_lt g (n_ix g (n_nm g 0) de_int) (n_nm g 1)) (dss_cons (s_set g (n_ix g (n_nm g 0) de_int)) (dss_cons (s_setIx g (n_nm g 0) de_int (n_add g (n_nm g 2) de_int)) (dss_cons (s_set g de_int) (dss_cons (ds_if (t_lt g (n_nm g 2) (n_len g F (l_cons g (n_ix g (n_nm g 0) de_int) da_nil))) (dss_one (s_set g (n_ix g (n_ix g (n_nm g 0) de_int) (n_nm g 2)))) dss_nil) (dss_one (ds_if (t_ge g (n_nm g 3) (n_pow g de_int de_int)) (dss_one (s_setIx g (n_nm g 0) de_int (n_nm g 3))) (dss_cons (s_setIx g (n_nm g 0) de_int (n_mod g (n_int1 g F (l_cons g (n_mul g (n_add g (n_add g (n_add g (n_ix g (n_nm g 0) de_int) (n_mod g (n_int1 g F (l_cons g (n_nm g 3) da_nil)) de_int)) (n_nm g 2)) de_int) de_int) da_nil)) de_int)) (dss_cons (s_set g (n_mod g (n_int1 g F (l_cons g (n_add g (n_mul g (n_ix g (n_nm g 0) de_int) de_int) de_int) da_nil)) de_int)) (dss_one (s_setIx g (n_nm g 0) de_int (n_add g (n_mul g (n_nm g 4) de_int) (n_mod g (n_int1 g F (l_cons g (n_add g (n_mul g (n_nm g 4) de_int) (n_ix g (n_nm g 0) de_int)) da_nil)) de_int)))))))))))) dss_nil) (dss_cons (s_set g (n_mod g (n_int1 g F (l_cons g (n_ix g (n_nm g 0) de_int) da_nil)) (n_nm g 1))) (dss_cons (s_setIx g (n_nm g 0) de_int (n_fdiv g (n_ix g (n_nm g 0) de_int) (n_nm g 1))) (dss_one (ds_ret (n_nm g 5)))))
abbrev s_lword : Stmt := top 5
theorem sc_lword : FnScope N_lword ["_law_state", "_law_letters", "_law_most"] (defScope s_lword) := ⟨rfl, rfl, rfl, by decide +kernel, rfl, by decide +kernel, by decide +kernel⟩
theorem d_lword {S_ldraw : FSpec} (F : Fr mg) (F_ldraw : Fn P w K mg base T k "_law_draw" S_ldraw) (g : Std P w K mg base N_lword (defScope s_lword) (fun _ => true) k W X) : DSs X T W (defBody s_lword) (f_lword S_ldraw) :=
  dss_cons (ds_if (t_eq g (n_nm g 1) de_int) (dss_one (ds_ret (n_tup g da_nil))) dss_nil) (dss_one (ds_ret (n_tuple g F (l_cons g ((n_lc g [("_law_k", 3)] (i_rng1 g F (l_cons g (n_call g F_ldraw (l_cons g (n_nm g 0) (l_cons g (n_add g (n_nm g 2) de_int) da_nil))) da_nil)) (by decide +kernel) (fun _ g => ⟨g_nm g 3, dts_nil, n_call g F_ldraw (l_cons g (n_nm g 0) (l_cons g (n_nm g 1) da_nil))⟩)).e) da_nil))))
abbrev s_latom : Stmt := top 6
theorem sc_latom : FnScope N_latom ["_law_state", "_law_letters"] (defScope s_latom) := ⟨rfl, rfl, rfl, by decide +kernel, rfl, by decide +kernel, by decide +kernel⟩
theorem d_latom {S_ldraw : FSpec} (F : Fr mg) (F_ldraw : Fn P w K mg base T k "_law_draw" S_ldraw) (g : Std P w K mg base N_latom (defScope s_latom) (fun _ => true) k W X) : DSs X T W (defBody s_latom) (f_latom S_ldraw) :=
  dss_cons (ds_if (t_eq g (n_call g F_ldraw (l_cons g (n_nm g 0) (l_cons g de_int da_nil))) de_int) (dss_one (ds_ret (n_tup g (l_cons g de_str (l_cons g (n_call g F_ldraw (l_cons g (n_nm g 0) (l_cons g (n_nm g 1) da_nil))) da_nil))))) dss_nil) (dss_cons (s_set g (n_tuple g F (l_cons g ((n_lc g [("_law_a", 3)] (i_rng1 g F (l_cons g (n_nm g 1) da_nil)) (by decide +kernel) (fun _ g => ⟨g_nm g 3, dts_one (t_eq g (n_call g F_ldraw (l_cons g (n_nm g 0) (l_cons g de_int da_nil))) de_int), n_nm g 3⟩)).e) da_nil))) (dss_cons (ds_if (t_eq g (n_len g F (l_cons g (n_nm g 2) da_nil)) de_int) (dss_one (s_set g (n_tup g (l_cons g (n_call g F_ldraw (l_cons g (n_nm g 0) (l_cons g (n_nm g 1) da_nil))) da_nil)))) dss_nil) (dss_one (ds_ret (n_tup g (l_cons g de_str (l_cons g (n_nm g 2) da_nil)))))))
abbrev s_lpattern : Stmt := top 7
theorem sc_lpattern : FnScope N_lpattern ["_law_state", "_law_letters", "_law_most"] (defScope s_lpattern) := ⟨rfl, rfl, rfl, by decide +kernel, rfl, by decide +kernel, by decide +kernel⟩
theorem d_lpattern {S_ldraw : FSpec} {S_latom : FSpec} (F : Fr mg) (F_ldraw : Fn P w K mg base T k "_law_draw" S_ldraw) (F_latom : Fn P w K mg base T k "_law_atom" S_latom) (g : Std P w K mg base N_lpattern (defScope s_lpattern) (fun _ => true) k W X) : DSs X T W (defBody s_lpattern) (f_lpattern S_ldraw S_latom) :=
  dss_cons (ds_if (t_eq g (n_nm g 1) de_int) (dss_one (ds_ret (n_tup g da_nil))) dss_nil) (dss_one (ds_ret (n_tuple g F (l_cons g ((n_lc g [("_law_k", 3)] (i_rng1 g F (l_cons g (n_call g F_ldraw (l_cons g (n_nm g 0) (l_cons g (n_add g (n_nm g 2) de_int) da_nil))) da_nil)) (by decide +kernel) (fun _ g => ⟨g_nm g 3, dts_nil, n_call g F_latom (l_cons g (n_nm g 0) (l_cons g (n_nm g 1) da_nil))⟩)).e) da_nil))))
abbrev s_lfits : Stmt := top 8
theorem sc_lfits : FnScope N_lfits ["_law_pattern_here", "_law_word_here"] (defScope s_lfits) := ⟨rfl, rfl, rfl, by decide +kernel, rfl, by decide +kernel, by decide +kernel⟩
theorem d_lfits {S_lfits : FSpec} (F : Fr mg) (F_lfits : Fn P w K mg base T k "_law_fits" S_lfits) (g : Std P w K mg base N_lfits (defScope s_lfits) (fun _ => true) k W X) : DSs X T W (defBody s_lfits) (f_lfits S_lfits) :=
  dss_cons (ds_if (t_eq g (n_len g F (l_cons g (n_nm g 1) da_nil)) de_int) (dss_one (ds_ret de_bl)) dss_nil) (dss_cons (ds_if (t_eq g (n_len g F (l_cons g (n_nm g 0) da_nil)) de_int) (dss_one (ds_ret de_bl)) dss_nil) (dss_cons (ds_if (t_eq g (n_ix g (n_ix g (n_nm g 0) de_int) de_int) de_str) (dss_cons (ds_if ((dw_and (t_eq g (n_ix g (n_nm g 1) de_int) (n_ix g (n_ix g (n_nm g 0) de_int) de_int)) (dw_and1 (t_tr g (n_call g F_lfits (l_cons g (de_sl (n_nm g 0) (do_some de_int) do_no) (l_cons g (de_sl (n_nm g 1) (do_some de_int) do_no) da_nil)))))).dt) (dss_one (ds_ret de_bl)) dss_nil) (dss_one (ds_ret (n_call g F_lfits (l_cons g (de_sl (n_nm g 0) (do_some de_int) do_no) (l_cons g (n_nm g 1) da_nil)))))) dss_nil) (dss_cons (ds_if (t_in g (n_ix g (n_nm g 1) de_int) (n_ix g (n_ix g (n_nm g 0) de_int) de_int)) (dss_one (ds_ret (n_call g F_lfits (l_cons g (n_nm g 0) (l_cons g (de_sl (n_nm g 1) (do_some de_int) do_no) da_nil))))) dss_nil) (dss_one (ds_ret (n_call g F_lfits (l_cons g (de_sl (n_nm g 0) (do_some de_int) do_no) (l_cons g (n_nm g 1) da_nil))))))))
abbrev s_lbig : Stmt := top 9
theorem sc_lbig : FnScope N_lbig ["_law_pattern_here", "_law_other"] (defScope s_lbig) := ⟨rfl, rfl, rfl, by decide +kernel, rfl, by decide +kernel, by decide +kernel⟩
theorem d_lbig (F : Fr mg) (g : Std P w K mg base N_lbig (defScope s_lbig) (fun _ => true) k W X) : DSs X T W (defBody s_lbig) (f_lbig) :=
  dss_cons (s_set g (n_tup g da_nil)) (dss_cons (s_for g (vs := [3]) (di_seq (n_nm g 0)) (g_nm g 3) (dss_one (ds_if (t_eq g (n_ix g (n_nm g 3) de_int) de_str) (dss_one (s_set g (n_add g (n_nm g 2) (n_tup g (l_cons g (n_ix g (n_nm g 3) de_int) da_nil))))) (dss_one (s_set g (n_add g (n_nm g 2) (n_mul g (n_ix g (n_nm g 3) de_int) (n_add g (n_len g F (l_cons g (n_nm g 1) da_nil)) de_int)))))))) (dss_one (ds_ret (n_nm g 2))))
abbrev s_law : Stmt := top 10
theorem sc_law : FnScope N_law ["_law_script"] (defScope s_law) := ⟨rfl, rfl, rfl, by decide +kernel, rfl, by decide +kernel, by decide +kernel⟩
theorem d_law {S_ldraw : FSpec} {S_lpattern : FSpec} {S_lword : FSpec} {S_lbig : FSpec} {S_fits : FSpec} {S_lfits : FSpec} (F : Fr mg) (F_ldraw : Fn P w K mg base T k "_law_draw" S_ldraw) (F_lpattern : Fn P w K mg base T k "_law_pattern" S_lpattern) (F_lword : Fn P w K mg base T k "_law_word" S_lword) (F_lbig : Fn P w K mg base T k "_law_big" S_lbig) (F_fits : Fn P w K mg base T k "fits" S_fits) (F_lfits : Fn P w K mg base T k "_law_fits" S_lfits) (g : Std P w K mg base N_law (defScope s_law) (fun _ => true) k W X) : DSs X T W (defBody s_law) (f_law S_ldraw S_lpattern S_lword S_lbig S_fits S_lfits) :=
  dss_cons (s_own g (n_lst g (l_cons g de_int (l_cons g de_int (l_cons g ((n_list g F (l_cons g (n_nm g 0) da_nil)).e) (l_cons g de_int da_nil)))))) (dss_cons (s_set g (n_add g de_int (n_call g F_ldraw (l_cons g (n_nm g 1) (l_cons g de_int da_nil))))) (dss_cons (s_for g (vs := [3]) (i_rng1 g F (l_cons g de_int da_nil)) (g_nm g 3) (dss_cons (s_set g (n_call g F_lpattern (l_cons g (n_nm g 1) (l_cons g (n_nm g 2) (l_cons g de_int da_nil))))) (dss_cons (s_set g (n_call g F_lword (l_cons g (n_nm g 1) (l_cons g (n_nm g 2) (l_cons g de_int da_nil))))) (dss_cons (ds_if (t_eq g (n_call g F_ldraw (l_cons g (n_nm g 1) (l_cons g de_int da_nil))) de_int) (dss_one (s_set g (n_call g F_lbig (l_cons g (n_nm g 4) (l_cons g (n_tup g da_nil) da_nil))))) dss_nil) (dss_cons (ds_if ((dw_or (t_ne g (n_call g F_fits (l_cons g (n_nm g 4) (l_cons g (n_nm g 5) da_nil))) (n_call g F_lfits (l_cons g (n_nm g 4) (l_cons g (n_nm g 5) da_nil)))) (dw_or1 (dt_not (t_tr g (n_isBool g F (l_cons g (n_call g F_fits (l_cons g (n_nm g 4) (l_cons g (n_nm g 5) da_nil))) (l_cons g (n_tyv g F.bool boot_bool) da_nil))))))).dt) (dss_one (ds_ret de_bl)) dss_nil) (dss_cons (s_set g (n_call g F_ldraw (l_cons g (n_nm g 1) (l_cons g (n_add g (n_len g F (l_cons g (n_nm g 5) da_nil)) de_int) da_nil)))) (dss_one (ds_if ((dw_and (t_tr g (n_call g F_fits (l_cons g (n_nm g 4) (l_cons g (n_nm g 5) da_nil)))) (dw_and1 (dt_not (t_tr g (n_call g F_fits (l_cons g (n_nm g 4) (l_cons g (n_add g (de_sl (n_nm g 5) do_no (do_some (n_nm g 6))) (de_sl (n_nm g 5) (do_some (n_add g (n_nm g 6) de_int)) do_no)) da_nil))))))).dt) (dss_one (ds_ret de_bl)) dss_nil)))))))) (dss_one (ds_ret (de_and (n_is g (n_call g F_fits (l_cons g (n_tup g da_nil) (l_cons g (n_tup g da_nil) da_nil))) de_bl) (de_one (n_is g (n_call g F_fits (l_cons g (n_tup g da_nil) (l_cons g (n_tup g (l_cons g de_int da_nil)) da_nil))) de_bl)))))))
end
abbrev FnP (K : PySem.W.Frag) (x : Str) (st : Stmt) (f : Addr) (fd : FuncData) : Prop := FunD K x x (defArgs st) (defBody st) (defScope st) [] [] f fd
def dD (x : Str) (st : Stmt) : He.DefD := ⟨(x, none), x, x, defArgs st, defBody st, defScope st, [], []⟩
def fnD : List He.DefD := [dD "is_full" s_is_full, dD "fits" s_fits, dD "_law_draw" s_ldraw, dD "_law_word" s_lword, dD "_law_atom" s_latom, dD "_law_pattern" s_lpattern, dD "_law_fits" s_lfits, dD "_law_big" s_lbig, dD "law" s_law]
def faD : List He.Fa := fnD.map (fun d => .glo d.name) ++ frNames.map .free ++ []
abbrev RR : PySem.W.OpenRow := PySem.W.OpenLaw.row PySem.Challenge.rw_upwall_k05_patterns
abbrev hk : PySem.W.Hook := He.hookD 4 faD fnD
def ob (s : PySem.W.SharedT) : He.AlD := He.obsDG 4 faD fnD (HandSHeadRun.getT s)
theorem ob_eq (s : PySem.W.SharedT) : ob s = hk.obs s.abs := He.obsDG_eq (HandSHeadRun.getT_eq s)
def loose : List Str := (["__name__", "is_full", "fits", "_law_draw", "_law_word", "_law_atom", "_law_pattern", "_law_fits", "_law_big"] : List Str)
theorem run (w : World) : HandSHeadRun.RunEq RR (PySem.W.view RR.prog [10]) hk ob 600 loose w := by
  intro os
  kernel_rfl
section
variable {K : PySem.W.Frag} {h : Heap} {mg : Str → Option Value}
theorem h_is_full (KX : K.In h) (G : h.Ns mainGlobals mg) (c : He.SaysD faD fnD K) : ∃ f fd, FnP K "is_full" s_is_full f fd ∧ mg "is_full" = some (.ref f) ∧ Binds K fd ["atom"] [] := by
  obtain ⟨fd, F⟩ := c.def_ 0 (d := dD "is_full" s_is_full) rfl
  exact ⟨_, fd, F, He.glo_ok KX G (c.fact 0 (f := .glo "is_full") rfl), FunD.bindsN (ps := ["atom"]) F fun _ _ _ _ _ _ us hl => match us, hl with | [_], _ => rfl⟩
theorem h_fits (KX : K.In h) (G : h.Ns mainGlobals mg) (c : He.SaysD faD fnD K) : ∃ f fd, FnP K "fits" s_fits f fd ∧ mg "fits" = some (.ref f) ∧ Binds K fd ["pattern", "word"] [] := by
  obtain ⟨fd, F⟩ := c.def_ 1 (d := dD "fits" s_fits) rfl
  exact ⟨_, fd, F, He.glo_ok KX G (c.fact 1 (f := .glo "fits") rfl), FunD.bindsN (ps := ["pattern", "word"]) F fun _ _ _ _ _ _ us hl => match us, hl with | [_, _], _ => rfl⟩
theorem h_ldraw (KX : K.In h) (G : h.Ns mainGlobals mg) (c : He.SaysD faD fnD K) : ∃ f fd, FnP K "_law_draw" s_ldraw f fd ∧ mg "_law_draw" = some (.ref f) ∧ Binds K fd ["_law_state", "_law_limit"] [] := by
  obtain ⟨fd, F⟩ := c.def_ 2 (d := dD "_law_draw" s_ldraw) rfl
  exact ⟨_, fd, F, He.glo_ok KX G (c.fact 2 (f := .glo "_law_draw") rfl), FunD.bindsN (ps := ["_law_state", "_law_limit"]) F fun _ _ _ _ _ _ us hl => match us, hl with | [_, _], _ => rfl⟩
theorem h_lword (KX : K.In h) (G : h.Ns mainGlobals mg) (c : He.SaysD faD fnD K) : ∃ f fd, FnP K "_law_word" s_lword f fd ∧ mg "_law_word" = some (.ref f) ∧ Binds K fd ["_law_state", "_law_letters", "_law_most"] [] := by
  obtain ⟨fd, F⟩ := c.def_ 3 (d := dD "_law_word" s_lword) rfl
  exact ⟨_, fd, F, He.glo_ok KX G (c.fact 3 (f := .glo "_law_word") rfl), FunD.bindsN (ps := ["_law_state", "_law_letters", "_law_most"]) F fun _ _ _ _ _ _ us hl => match us, hl with | [_, _, _], _ => rfl⟩
theorem h_latom (KX : K.In h) (G : h.Ns mainGlobals mg) (c : He.SaysD faD fnD K) : ∃ f fd, FnP K "_law_atom" s_latom f fd ∧ mg "_law_atom" = some (.ref f) ∧ Binds K fd ["_law_state", "_law_letters"] [] := by
  obtain ⟨fd, F⟩ := c.def_ 4 (d := dD "_law_atom" s_latom) rfl
  exact ⟨_, fd, F, He.glo_ok KX G (c.fact 4 (f := .glo "_law_atom") rfl), FunD.bindsN (ps := ["_law_state", "_law_letters"]) F fun _ _ _ _ _ _ us hl => match us, hl with | [_, _], _ => rfl⟩
theorem h_lpattern (KX : K.In h) (G : h.Ns mainGlobals mg) (c : He.SaysD faD fnD K) : ∃ f fd, FnP K "_law_pattern" s_lpattern f fd ∧ mg "_law_pattern" = some (.ref f) ∧ Binds K fd ["_law_state", "_law_letters", "_law_most"] [] := by
  obtain ⟨fd, F⟩ := c.def_ 5 (d := dD "_law_pattern" s_lpattern) rfl
  exact ⟨_, fd, F, He.glo_ok KX G (c.fact 5 (f := .glo "_law_pattern") rfl), FunD.bindsN (ps := ["_law_state", "_law_letters", "_law_most"]) F fun _ _ _ _ _ _ us hl => match us, hl with | [_, _, _], _ => rfl⟩
theorem h_lfits (KX : K.In h) (G : h.Ns mainGlobals mg) (c : He.SaysD faD fnD K) : ∃ f fd, FnP K "_law_fits" s_lfits f fd ∧ mg "_law_fits" = some (.ref f) ∧ Binds K fd ["_law_pattern_here", "_law_word_here"] [] := by
  obtain ⟨fd, F⟩ := c.def_ 6 (d := dD "_law_fits" s_lfits) rfl
  exact ⟨_, fd, F, He.glo_ok KX G (c.fact 6 (f := .glo "_law_fits") rfl), FunD.bindsN (ps := ["_law_pattern_here", "_law_word_here"]) F fun _ _ _ _ _ _ us hl => match us, hl with | [_, _], _ => rfl⟩
theorem h_lbig (KX : K.In h) (G : h.Ns mainGlobals mg) (c : He.SaysD faD fnD K) : ∃ f fd, FnP K "_law_big" s_lbig f fd ∧ mg "_law_big" = some (.ref f) ∧ Binds K fd ["_law_pattern_here", "_law_other"] [] := by
  obtain ⟨fd, F⟩ := c.def_ 7 (d := dD "_law_big" s_lbig) rfl
  exact ⟨_, fd, F, He.glo_ok KX G (c.fact 7 (f := .glo "_law_big") rfl), FunD.bindsN (ps := ["_law_pattern_here", "_law_other"]) F fun _ _ _ _ _ _ us hl => match us, hl with | [_, _], _ => rfl⟩
theorem h_law (KX : K.In h) (G : h.Ns mainGlobals mg) (c : He.SaysD faD fnD K) : ∃ f fd, FnP K "law" s_law f fd ∧ mg "law" = some (.ref f) ∧ Binds K fd ["_law_script"] [] := by
  obtain ⟨fd, F⟩ := c.def_ 8 (d := dD "law" s_law) rfl
  exact ⟨_, fd, F, He.glo_ok KX G (c.fact 8 (f := .glo "law") rfl), FunD.bindsN (ps := ["_law_script"]) F fun _ _ _ _ _ _ us hl => match us, hl with | [_], _ => rfl⟩
theorem h_fr (KX : K.In h) (G : h.Ns mainGlobals mg) (c : He.SaysD faD fnD K) : Fr mg := Fr.of fun x hx => by
  obtain ⟨i, hi, e⟩ := List.mem_iff_getElem.mp hx
  exact He.free_ok KX G (c.facts (f := .free x) (List.mem_append_left _ (List.mem_append_right _ (List.mem_map_of_mem hx))))
end

end U

set_option Elab.async false
set_option linter.all false
set_option maxRecDepth 100000
set_option maxHeartbeats 0
/-! J05: joined. -/
namespace U
open PySem PySem.Spec PyProof.Rows L2
theorem ar_drw {R : List D → D → Prop} {Pre : List D → Prop} {n : Nat} (h : ∀ r, Pre r → r.length + 1 = n) : ∀ ds M Q xw, Drw R Pre ds M Q xw → ds.length = n := by
  rintro ds M Q xw ⟨a, rest, rfl, hp, _⟩
  exact h rest hp
theorem all_holds {w : World} {K : PySem.W.Frag} {h : Heap} {mg : Str → Option Value} {fa : Addr} (KX : K.In h) (G : h.Ns mainGlobals mg) (c : He.SaysD faD fnD K) (hfa : mg "law" = some (.ref fa)) : LamX.LawAtS PySem.Challenge.rw_upwall_k05_patterns w K (L2.CX (PySem.Challenge.rw_upwall_k05_patterns).prog w) 70 63 "_law_script" mg fa h := by
  obtain ⟨f1, fd1, F1, m1, b1⟩ := h_is_full KX G c
  obtain ⟨f2, fd2, F2, m2, b2⟩ := h_fits KX G c
  obtain ⟨f3, fd3, F3, m3, b3⟩ := h_ldraw KX G c
  obtain ⟨f4, fd4, F4, m4, b4⟩ := h_lword KX G c
  obtain ⟨f5, fd5, F5, m5, b5⟩ := h_latom KX G c
  obtain ⟨f6, fd6, F6, m6, b6⟩ := h_lpattern KX G c
  obtain ⟨f7, fd7, F7, m7, b7⟩ := h_lfits KX G c
  obtain ⟨f8, fd8, F8, m8, b8⟩ := h_lbig KX G c
  obtain ⟨fd, F9⟩ := c.def_ 8 (d := dD "law" s_law) rfl
  have e := hfa.symm.trans (He.glo_ok KX G (c.fact 8 (f := .glo "law") rfl))
  cases e
  have Z : Fr mg := h_fr KX G c
  have bl := FunD.bindsA (ps := ["_law_script"]) F9 fun _ _ _ _ _ _ us hl => match us, hl with | [_], _ => rfl
  refine law_at (S := S_law) [] (fun _ hp => (nomatch hp)) (fun _ hp => (nomatch hp)) (fun _ hp => (nomatch hp)) (fun s u => bl s [u] rfl) (fun ns _ _ => ⟨ns, rfl, fun _ => rfl⟩) fun base _ _ _ => ?_
  have A1 : Fn (PySem.Challenge.rw_upwall_k05_patterns).prog w K mg base [] 1 "is_full" S_is_full := fn_ok F1 m1 sc_is_full b1 (fun _ _ _ _ ⟨_, e, _⟩ => by rw [e]; rfl) (fun X W g => d_is_full g) b_is_full
  have A2 : Fn (PySem.Challenge.rw_upwall_k05_patterns).prog w K mg base [] 2 "fits" S_fits := fn_ok F2 m2 sc_fits b2 (fun _ _ _ _ ⟨_, _, e, _⟩ => by rw [e]; rfl) (fun X W g => d_fits Z A1 g) b_fits
  have A3 : Fn (PySem.Challenge.rw_upwall_k05_patterns).prog w K mg base [] 1 "_law_draw" S_ldraw := fn_ok F3 m3 sc_ldraw b3 (ar_drw fun r ⟨_, e, _⟩ => by rw [e]; rfl) (fun X W g => d_ldraw Z g) b_ldraw
  have A4 : Fn (PySem.Challenge.rw_upwall_k05_patterns).prog w K mg base [] 2 "_law_word" S_lword := fn_ok F4 m4 sc_lword b4 (ar_drw fun r ⟨_, _, e, _⟩ => by rw [e]; rfl) (fun X W g => d_lword Z A3 g) b_lword
  have A5 : Fn (PySem.Challenge.rw_upwall_k05_patterns).prog w K mg base [] 2 "_law_atom" S_latom := fn_ok F5 m5 sc_latom b5 (ar_drw fun r ⟨_, e, _⟩ => by rw [e]; rfl) (fun X W g => d_latom Z A3 g) b_latom
  have A6 : Fn (PySem.Challenge.rw_upwall_k05_patterns).prog w K mg base [] 3 "_law_pattern" S_lpattern := fn_ok F6 m6 sc_lpattern b6 (ar_drw fun r ⟨_, _, e, _⟩ => by rw [e]; rfl) (fun X W g => d_lpattern Z (A3.mono (by omega)) A5 g) b_lpattern
  have A7 : ∀ n, Fn (PySem.Challenge.rw_upwall_k05_patterns).prog w K mg base [] (0 + n + 1) "_law_fits" (S_lfits n) := fn_rec (S := fun n => S_lfits n) (fs := fun n => f_lfits (S_lfits n)) F7 m7 sc_lfits b7 (fun n _ _ _ _ ⟨_, _, e, _⟩ => by rw [e]; rfl) (fun _ _ _ _ ⟨_, _, _, h, _⟩ => by omega) (fun j n _ FN X W g => d_lfits Z FN g) b_lfits
  have A8 : Fn (PySem.Challenge.rw_upwall_k05_patterns).prog w K mg base [] 1 "_law_big" S_lbig := fn_ok F8 m8 sc_lbig b8 (fun _ _ _ _ ⟨_, _, e, _⟩ => by rw [e]; rfl) (fun X W g => d_lbig Z g) b_lbig
  exact fn_okF F9 sc_law (fun _ _ _ _ ⟨_, e, _⟩ => by rw [e]; rfl) (fun X W g => d_law Z (A3.mono (by omega)) (A6.mono (by omega)) (A4.mono (by omega)) (A8.mono (by omega)) (A2.mono (by omega)) ((A7 60).mono (by omega)) g) b_law
end U
open PySem PySem.W PySem.Calls PyProof.Rows
theorem PySem.Challenge.cw_upwall_k05_patterns_holds : PySem.Challenge.rw_upwall_k05_patterns.Holds := by
  w_on; o_law
  refine HandSHeadRun.head_any (r := OpenLaw.row PySem.Challenge.rw_upwall_k05_patterns) (q := view (OpenLaw.row PySem.Challenge.rw_upwall_k05_patterns).prog [10]) (H := U.hk) (ob := U.ob) (M := 600) (loose := U.loose) (d := HandSHeadRun.topDef (OpenLaw.row PySem.Challenge.rw_upwall_k05_patterns).prog 10) (kwd := []) U.ob_eq
    (by kernel_rfl) (fun s => by kernel_rfl) U.run (by kernel_rfl) (by kernel_rfl) (by kernel_rfl) (by rfl) (by first | assumption | decide +kernel) (by decide +kernel) ⟨rfl, rfl, rfl, rfl, rfl, by decide +kernel⟩ ?hw ?hc
  case hw => w_witness2
  case hc =>
    refine LamX.walk_ofTsE (l := PySem.Challenge.rw_upwall_k05_patterns) (n := 63) (k := 70) (x := "_law_script") (CX := fun w => L2.CX (PySem.Challenge.rw_upwall_k05_patterns).prog w) rfl (by decide) (by kernel_rfl) ⟨rfl, by decide, by decide⟩ ?F (fun w H s e s' z => U.cx_no _ w H s e s' z)
    intro w mg fa h Y G hmg0
    obtain ⟨K, KX, c⟩ := Y
    have hmg : mg ("law" : PySem.Str) = some (.ref fa) := by
      have e : (HandSHeadRun.topDef (OpenLaw.row PySem.Challenge.rw_upwall_k05_patterns).prog 10).name = ("law" : PySem.Str) := by kernel_rfl
      rw [← e]
      exact hmg0
    exact ⟨K, KX, U.all_holds KX G c hmg⟩
