import PyProof.Rows.All
import Wide.All
import OpenK.AllK
import Wide.FinOn
import HandS.ForMost
import HandS.ForExc
import HandS.Conv
import HandS.SortInts
import HandS.IsInst
import HandS.ExcIs
import HandS.Steps
import HandS.Evl
import HandS.Defaults
import HandS.CallSlots
import HandS.TupAny
import HandS.Rev
import KE.KDictList
import HandS.SortRule
import HandS.DictTup
import HandS.Iter
import HandS.Comp
import KE.GoesEnum
import KE.DataCmp
import HandS.TupLe
import KE.KLam
import KE.SortKeyHeap
import KE.SortData
import HandS.Sort
import HandS.Lambda
import HandS.Nested
import KE.KNest
import HandS.EndTab
import PySem.Challenge.RW_ladderlots_k06_whole_made_in_order
set_option Elab.async false
set_option linter.all false
set_option maxRecDepth 100000
set_option maxHeartbeats 4000000
/-! A layer over HandS: readings at a base heap; whatever extends it serves as well. -/
namespace La
open PySem L2

theorem sameUpd {H H' : Hp} {a : Addr} {o : HO} (e : Same H H') : Same (upd H a o) (upd H' a o) := fun b u h => by
  by_cases q : b = a
  · subst q
    rw [upd_same] at h ⊢
    exact h
  · rw [upd_ne q] at h ⊢
    exact e b u h
theorem same_new {H : Hp} {p : Addr} {o : HO} (h : H p = none) : Same H (upd H p o) := fun a u e => by
  rw [upd_ne (ne_of_none e h)]
  exact e
theorem same_self {H : Hp} {p : Addr} {o : HO} (h : H p = some o) : upd H p o = H := by
  funext b
  by_cases q : b = p
  · subst q
    rw [upd_same, h]
  · rw [upd_ne q]
theorem seqT {K : PySem.W.Frag} {H H' : Hp} {a : Addr} {xs : List V} (e : Same H H') (h : SqT K H a xs) : SqT K H' a xs := by
  rcases h with (h | ⟨o, h⟩) | h
  · exact .inl (.inl (e _ _ h))
  · exact .inl (.inr ⟨o, e _ _ h⟩)
  · exact .inr h
mutual
theorem dp_same {K : PySem.W.Frag} {H H' : Hp} (e : Same H H') : ∀ {v : V} {d : PyData}, Dp K H v d → Dp K H' v d
  | _, _, .non => .non
  | _, _, .bl b => .bl b
  | _, _, .int i => .int i
  | _, _, .str x => .str x
  | _, _, .lst h hs => .lst (e.seq h) (dpAll_same e hs)
  | _, _, .tup h hs => .tup (seqT e h) (dpAll_same e hs)
theorem dpAll_same {K : PySem.W.Frag} {H H' : Hp} (e : Same H H') : ∀ {vs : List V} {ds : List PyData}, DpAll K H vs ds → DpAll K H' vs ds
  | _, _, .nil => .nil
  | _, _, .cons h hs => .cons (dp_same e h) (dpAll_same e hs)
end

/-- closed under extension of the heap -/
def Cl {α : Type} (f : Hp → (α → Hp → Prop) → Prop) (H : Hp) (Q : α → Hp → Prop) : Prop :=
  ∀ H1, Same H H1 → ∀ Q' : α → Hp → Prop, (∀ a Hb H2, Q a Hb → Same Hb H2 → Q' a H2) → f H1 Q'
def ClG (g : TG) (v : V) (σ : St) (H : Hp) (Q : St → Hp → Prop) : Prop :=
  ∀ H1, Same H H1 → ∀ Q' : St → Hp → Prop, (∀ σ' Hb H2, Q σ' Hb → Same Hb H2 → Q' σ' H2) → g v σ H1 Q'
def S (t : TS) (nx : St → Hp → Prop) (rt : VK) (bk ct : St → Hp → Prop) (σ : St) (H : Hp) : Prop :=
  ∀ H1, Same H H1 → ∀ D : Ends, (∀ σ' Hb H2, nx σ' Hb → Same Hb H2 → D.nx σ' H2) → (∀ v Hb H2, rt v Hb → Same Hb H2 → D.rt v H2) →
    (∀ σ' Hb H2, bk σ' Hb → Same Hb H2 → D.bk σ' H2) → (∀ σ' Hb H2, ct σ' Hb → Same Hb H2 → D.ct σ' H2) → t D σ H1

theorem cl_run {α : Type} {f : Hp → (α → Hp → Prop) → Prop} {H : Hp} {Q : α → Hp → Prop} (h : Cl f H Q) {H1 : Hp} (e : Same H H1) {Q' : α → Hp → Prop} (q : ∀ a Hb H2, Q a Hb → Same Hb H2 → Q' a H2) : f H1 Q' := h H1 e Q' q
/-- a weaker wish -/
theorem cl_mono {α : Type} {f : Hp → (α → Hp → Prop) → Prop} {H : Hp} {Q R : α → Hp → Prop} (h : Cl f H Q) (q : ∀ a Hb, Q a Hb → R a Hb) : Cl f H R := fun H1 e Q' q' => h H1 e Q' fun a Hb H2 z e2 => q' a Hb H2 (q a Hb z) e2
/-- a larger base -/
theorem cl_base {α : Type} {f : Hp → (α → Hp → Prop) → Prop} {H H' : Hp} {Q : α → Hp → Prop} (e : Same H H') (h : Cl f H Q) : Cl f H' Q := fun H1 e1 Q' q' => h H1 (e.trans e1) Q' q'
/-- what was known of the base is known behind -/
theorem cl_frame {α : Type} {f : Hp → (α → Hp → Prop) → Prop} {H : Hp} {R : α → Prop} {Q : α → Hp → Prop} (h : ∀ H1, Same H H1 → Cl f H1 (fun a Hb => R a ∧ Same H1 Hb)) (q : ∀ a Hb, R a → Same H Hb → Q a Hb) : Cl f H Q := fun H1 e Q' q' =>
  h H1 e H1 (Same.refl H1) Q' fun a Hb H2 z e2 => q' a Hb H2 (q a Hb z.1 (e.trans z.2)) e2

section
variable {K : PySem.W.Frag} {σ : St} {H H' : Hp} {ta tb te tx : TE} {tt tu : TT} {x y z v : V} {r : R2} {Q : VK} {QB : Bool → Hp → Prop}

/-! ### values -/
theorem c_var {i : Nat} (h : σ[i]? = some (some v)) (q : Q v H) : Cl (tVar i σ) H Q := fun H1 e Q' q' => ⟨v, h, q' v H H1 q e⟩
theorem c_c (q : Q v H) : Cl (tC v σ) H Q := fun H1 e Q' q' => q' v H H1 q e
theorem c_op (h : Cl (ta σ) H fun x H1 => Cl (tb σ) H1 fun y H2 => Cl (r x y) H2 Q) : Cl (tOp r ta tb σ) H Q := fun H1 e Q' q' =>
  h H1 e _ fun x Hb H2 hb e2 => hb H2 e2 _ fun y Hc H3 hc e3 => hc H3 e3 Q' q'
theorem c_un {r : V → Hp → VK → Prop} (h : Cl (ta σ) H fun x H1 => Cl (r x) H1 Q) : Cl (tUn r ta σ) H Q := fun H1 e Q' q' =>
  h H1 e _ fun x Hb H2 hb e2 => hb H2 e2 Q' q'
theorem r_I0 {g : Int → Int → V} {i j : Int} (q : Q (g i j) H) : Cl (rI0 g (.int i) (.int j)) H Q := fun H1 e Q' q' => ⟨i, j, rfl, rfl, q' _ H H1 q e⟩
theorem r_I {C : Int → Int → Prop} {g : Int → Int → V} {i j : Int} (hc : C i j) (q : Q (g i j) H) : Cl (rI C g (.int i) (.int j)) H Q := fun H1 e Q' q' => ⟨i, j, rfl, rfl, hc, q' _ H H1 q e⟩
theorem r_U {g : Int → V} {i : Int} (q : Q (g i) H) : Cl (rU g (.int i)) H Q := fun H1 e Q' q' => ⟨i, rfl, q' _ H H1 q e⟩
theorem r_eq (h : scal x y = true) (q : Q (.bl (decide (x = y))) H) : Cl (rEq x y) H Q := fun H1 e Q' q' => ⟨h, q' _ H H1 q e⟩
theorem r_ne (h : scal x y = true) (q : Q (.bl (!decide (x = y))) H) : Cl (rNe x y) H Q := fun H1 e Q' q' => ⟨h, q' _ H H1 q e⟩
theorem dec_int (i j : Int) : decide (V.int i = V.int j) = decide (i = j) := by
  by_cases h : i = j
  · subst h; simp
  · rw [decide_eq_false h, decide_eq_false (fun q => h (V.int.inj q))]
theorem dec_str (i j : Str) : decide (V.str i = V.str j) = decide (i = j) := by
  by_cases h : i = j
  · subst h; simp
  · rw [decide_eq_false h, decide_eq_false (fun q => h (V.str.inj q))]
theorem r_eqI {i j : Int} (q : Q (.bl (decide (i = j))) H) : Cl (rEq (.int i) (.int j)) H Q := r_eq rfl (by rw [dec_int]; exact q)
theorem r_neI {i j : Int} (q : Q (.bl (!decide (i = j))) H) : Cl (rNe (.int i) (.int j)) H Q := r_ne rfl (by rw [dec_int]; exact q)
theorem r_eqS {i j : Str} (q : Q (.bl (decide (i = j))) H) : Cl (rEq (.str i) (.str j)) H Q := r_eq rfl (by rw [dec_str]; exact q)
theorem r_neS {i j : Str} (q : Q (.bl (!decide (i = j))) H) : Cl (rNe (.str i) (.str j)) H Q := r_ne rfl (by rw [dec_str]; exact q)
theorem r_isN (q : Q (.bl (decide (x = .non))) H) : Cl (rIsN x .non) H Q := fun H1 e Q' q' => ⟨rfl, q' _ H H1 q e⟩
theorem r_notN (q : Q (.bl (!decide (x = .non))) H) : Cl (rNotN x .non) H Q := fun H1 e Q' q' => ⟨rfl, q' _ H H1 q e⟩
theorem r_ixL {p : Addr} {xs : List V} {i : Int} (h : SqL K H p xs) (ha : atI xs i = some v) (q : Q v H) : Cl (rIxL K (.ref p) (.int i)) H Q := fun H1 e Q' q' => ⟨p, xs, i, v, rfl, rfl, e.seq h, ha, q' _ H H1 q e⟩
theorem r_ixT {p : Addr} {xs : List V} {i : Int} (h : SqT K H p xs) (ha : atI xs i = some v) (q : Q v H) : Cl (rIxT K (.ref p) (.int i)) H Q := fun H1 e Q' q' => ⟨p, xs, i, v, rfl, rfl, seqT e h, ha, q' _ H H1 q e⟩
theorem r_in {neg : Bool} {p : Addr} {xs : List V} (h : SqL K H p xs ∨ SqT K H p xs) (hx : flatV x = true) (ha : xs.all flatV = true) (q : Q (.bl (if neg then !inV x xs else inV x xs)) H) : Cl (rIn K neg x (.ref p)) H Q := fun H1 e Q' q' =>
  ⟨p, xs, rfl, h.elim (fun h => .inl (e.seq h)) (fun h => .inr (seqT e h)), hx, ha, q' _ H H1 q e⟩
theorem cl_new {o : HO} {Q : VK} (q : ∀ p, H p = none → Q (.ref p) (upd H p o)) {H1 : Hp} (e : Same H H1) {Q' : VK} (q' : ∀ a Hb H2, Q a Hb → Same Hb H2 → Q' a H2) : ∀ p, H1 p = none → Q' (.ref p) (upd H1 p o) := fun p hp => q' _ _ _ (q p (e.free hp)) (sameUpd e)
theorem r_cat {l b : Addr} {xs zs : List V} (h1 : H l = some (.lst xs)) (h2 : H b = some (.lst zs)) (hz : xs.length + zs.length ≤ sizeLine) (q : ∀ p, H p = none → Q (.ref p) (upd H p (.lst (xs ++ zs)))) : Cl (rCat (.ref l) (.ref b)) H Q := fun H1 e Q' q' =>
  ⟨l, b, xs, zs, rfl, rfl, e _ _ h1, e _ _ h2, hz, cl_new q e q'⟩
theorem r_rep {l : Addr} {k : Int} {xs : List V} (h1 : H l = some (.lst xs)) (hk : -(2 ^ 63) ≤ k) (hk2 : k < 2 ^ 63) (hz : xs.length * k.toNat ≤ sizeLine) (q : ∀ p, H p = none → Q (.ref p) (upd H p (.lst (List.replicate k.toNat xs).flatten))) : Cl (rRep (.ref l) (.int k)) H Q := fun H1 e Q' q' =>
  ⟨l, k, xs, rfl, rfl, e _ _ h1, hk, hk2, hz, cl_new q e q'⟩
theorem r_eqD {d d' : PyData} (h1 : Dp K H x d) (h2 : Dp K H y d') (s1 : SeqAt.shaped d = true) (s2 : SeqAt.shaped d' = true) (q : Q (.bl (PyData.eqv d d')) H) : Cl (rEqD K x y) H Q := fun H1 e Q' q' => ⟨d, d', dp_same e h1, dp_same e h2, s1, s2, q' _ H H1 q e⟩
theorem r_neD {d d' : PyData} (h1 : Dp K H x d) (h2 : Dp K H y d') (s1 : SeqAt.shaped d = true) (s2 : SeqAt.shaped d' = true) (q : Q (.bl (!PyData.eqv d d')) H) : Cl (rNeD K x y) H Q := fun H1 e Q' q' => ⟨d, d', dp_same e h1, dp_same e h2, s1, s2, q' _ H H1 q e⟩

/-! ### arguments, displays -/
theorem c_nil {QL : List V → Hp → Prop} (q : QL [] H) : Cl (tNil σ) H QL := fun H1 e Q' q' => q' _ H H1 q e
theorem c_cons {tr : TA} {QL : List V → Hp → Prop} (h : Cl (ta σ) H fun x H1 => Cl (tr σ) H1 fun xs H2 => QL (x :: xs) H2) : Cl (tCons ta tr σ) H QL := fun H1 e Q' q' =>
  h H1 e _ fun x Hb H2 hb e2 => hb H2 e2 _ fun xs Hc H3 hc e3 => q' _ _ _ hc e3
/-- what is wished of a display -/
def LstW (Q : VK) (H : Hp) (xs : List V) : Prop := xs.length ≤ sizeLine ∧ ∀ p, H p = none → Q (.ref p) (upd H p (.lst xs))
def TupW (Q : VK) (H : Hp) (xs : List V) : Prop := xs.length ≤ sizeLine ∧ ∀ p, H p = none → Q (.ref p) (upd H p (.tup xs))
theorem lst_intro {xs : List V} (h : xs.length ≤ sizeLine) (q : ∀ p, H p = none → Q (.ref p) (upd H p (.lst xs))) : LstW Q H xs := ⟨h, q⟩
theorem tup_intro {xs : List V} (h : xs.length ≤ sizeLine) (q : ∀ p, H p = none → Q (.ref p) (upd H p (.tup xs))) : TupW Q H xs := ⟨h, q⟩
theorem c_lst {ta : TA} (h : Cl (ta σ) H fun xs H1 => LstW Q H1 xs) : Cl (tLst ta σ) H Q := fun H1 e Q' q' =>
  h H1 e _ fun xs Hb H2 hb e2 => ⟨hb.1, cl_new hb.2 e2 q'⟩
theorem c_tup {ta : TA} (h : Cl (ta σ) H fun xs H1 => TupW Q H1 xs) : Cl (tTup ta σ) H Q := fun H1 e Q' q' =>
  h H1 e _ fun xs Hb H2 hb e2 => ⟨hb.1, cl_new hb.2 e2 q'⟩
theorem c_cb {r : List V → Hp → VK → Prop} {ta : TA} (h : Cl (ta σ) H fun vs H1 => Cl (r vs) H1 Q) : Cl (tCB r ta σ) H Q := fun H1 e Q' q' =>
  h H1 e _ fun vs Hb H2 hb e2 => hb H2 e2 Q' q'

/-! ### fields -/
theorem c_fld {f : Str} (h : Cl (ta σ) H fun x H1 => ∃ a C dx fs v, x = .ref a ∧ H1 a = some (.ins C dx fs) ∧ Cls K C ∧ NoAttr K C f ∧ fs.lookup f = some v ∧ Q v H1) : Cl (tFld K ta f σ) H Q := fun H1 e Q' q' =>
  h H1 e _ fun x Hb H2 hb e2 => by
    obtain ⟨a, C, dx, fs, v, ex, ho, hc, hn, hl, q⟩ := hb
    exact ⟨a, C, dx, fs, v, ex, e2 _ _ ho, hc, hn, hl, q' _ _ _ q e2⟩

/-! ### tests -/
theorem t_test (h : Cl (te σ) H fun x H1 => ∃ k, x = .bl k ∧ QB k H1) : Cl (tTest te σ) H QB := fun H1 e Q' q' =>
  h H1 e _ fun x Hb H2 ⟨k, ex, hb⟩ e2 => ⟨k, ex, q' _ _ _ hb e2⟩
theorem t_B (h : Cl (te σ) H fun x H1 => ∃ k, x = .bl k ∧ QB k H1) : Cl (tB te σ) H QB := fun H1 e Q' q' =>
  h H1 e _ fun x Hb H2 ⟨k, ex, hb⟩ e2 => ⟨k, ex, q' _ _ _ hb e2⟩
theorem t_and (h : Cl (tt σ) H fun c H1 => (c = true → Cl (tu σ) H1 QB) ∧ (c = false → QB false H1)) : Cl (tAnd tt tu σ) H QB := fun H1 e Q' q' =>
  h H1 e _ fun c Hb H2 hb e2 => by
    cases c with
    | true => exact hb.1 rfl H2 e2 Q' q'
    | false => exact q' _ _ _ (hb.2 rfl) e2
theorem t_or (h : Cl (tt σ) H fun c H1 => (c = true → QB true H1) ∧ (c = false → Cl (tu σ) H1 QB)) : Cl (tOr tt tu σ) H QB := fun H1 e Q' q' =>
  h H1 e _ fun c Hb H2 hb e2 => by
    cases c with
    | true => exact q' _ _ _ (hb.1 rfl) e2
    | false => exact hb.2 rfl H2 e2 Q' q'
theorem t_not (h : Cl (tt σ) H fun c H1 => QB (!c) H1) : Cl (tNot tt σ) H QB := fun H1 e Q' q' => h H1 e _ fun c Hb H2 hb e2 => q' _ _ _ hb e2
theorem c_if (h : Cl (tt σ) H fun c H1 => (c = true → Cl (ta σ) H1 Q) ∧ (c = false → Cl (tb σ) H1 Q)) : Cl (tIf tt ta tb σ) H Q := fun H1 e Q' q' =>
  h H1 e _ fun c Hb H2 hb e2 => by
    cases c with
    | true => exact hb.1 rfl H2 e2 Q' q'
    | false => exact hb.2 rfl H2 e2 Q' q'
theorem c_andV (h : Cl (ta σ) H fun x H1 => ∃ c, x = .bl c ∧ (c = true → Cl (tb σ) H1 Q) ∧ (c = false → Q (.bl false) H1)) : Cl (tAndV ta tb σ) H Q := fun H1 e Q' q' =>
  h H1 e _ fun x Hb H2 ⟨c, ex, h1, h2⟩ e2 => ⟨c, ex, by
    cases c with
    | true => exact h1 rfl H2 e2 Q' q'
    | false => exact q' _ _ _ (h2 rfl) e2⟩
theorem c_orV (h : Cl (ta σ) H fun x H1 => ∃ c, x = .bl c ∧ (c = true → Q (.bl true) H1) ∧ (c = false → Cl (tb σ) H1 Q)) : Cl (tOrV ta tb σ) H Q := fun H1 e Q' q' =>
  h H1 e _ fun x Hb H2 ⟨c, ex, h1, h2⟩ e2 => ⟨c, ex, by
    cases c with
    | true => exact q' _ _ _ (h1 rfl) e2
    | false => exact h2 rfl H2 e2 Q' q'⟩
theorem c_notV (h : Cl (ta σ) H fun x H1 => ∃ c, x = .bl c ∧ Q (.bl (!c)) H1) : Cl (tNotV ta σ) H Q := fun H1 e Q' q' =>
  h H1 e _ fun x Hb H2 ⟨c, ex, hb⟩ e2 => ⟨c, ex, q' _ _ _ hb e2⟩
theorem c_chain {r r' : R2} {tc : TE} (h : Cl (ta σ) H fun x H1 => Cl (tb σ) H1 fun y H2 => Cl (r x y) H2 fun z H3 => ∃ k, z = .bl k ∧ (k = true → Cl (tc σ) H3 fun w H4 => Cl (r' y w) H4 Q) ∧ (k = false → Q (.bl false) H3)) : Cl (tChain r r' ta tb tc σ) H Q := fun H1 e Q' q' =>
  h H1 e _ fun x Hb H2 hb e2 => hb H2 e2 _ fun y Hc H3 hc e3 => hc H3 e3 _ fun z Hd H4 ⟨k, ez, h1, h2⟩ e4 => ⟨k, ez, by
    cases k with
    | true =>
      exact h1 rfl H4 e4 _ fun w He H5 he e5 => he H5 e5 Q' q'
    | false => exact q' _ _ _ (h2 rfl) e4⟩

/-! ### slices -/
theorem o_none {QO : Option Int → Hp → Prop} (q : QO none H) : Cl (tNoPart σ) H QO := fun H1 e Q' q' => q' _ H H1 q e
theorem o_some {QO : Option Int → Hp → Prop} (h : Cl (te σ) H fun x H1 => ∃ i, x = .int i ∧ QO (some i) H1) : Cl (tPart te σ) H QO := fun H1 e Q' q' =>
  h H1 e _ fun x Hb H2 ⟨i, ex, hb⟩ e2 => ⟨i, ex, q' _ _ _ hb e2⟩
theorem c_sl {r : V → Option Int → Option Int → Hp → VK → Prop} {tl th : TO} (h : Cl (te σ) H fun x H1 => Cl (tl σ) H1 fun lo H2 => Cl (th σ) H2 fun hi H3 => Cl (r x lo hi) H3 Q) : Cl (tSl r te tl th σ) H Q := fun H1 e Q' q' =>
  h H1 e _ fun x Hb H2 hb e2 => hb H2 e2 _ fun lo Hc H3 hc e3 => hc H3 e3 _ fun hi Hd H4 hd e4 => hd H4 e4 Q' q'
theorem r_slL {a : Addr} {xs : List V} {lo hi : Option Int} (hs : SqL K H a xs) (q : ∀ p, H p = none → Q (.ref p) (upd H p (.lst (cutV xs lo hi)))) : Cl (rSlL K (.ref a) lo hi) H Q := fun H1 e Q' q' =>
  ⟨a, xs, rfl, e.seq hs, cl_new q e q'⟩

/-! ### built-in calls -/
def rAbs : List V → Hp → VK → Prop := fun xs H Q => ∃ i, xs = [.int i] ∧ Q (.int (if i < 0 then -i else i)) H
def rMin2 : List V → Hp → VK → Prop := fun xs H Q => ∃ i j, xs = [.int i, .int j] ∧ Q (.int (if j < i then j else i)) H
def rTupOf (K : PySem.W.Frag) : List V → Hp → VK → Prop := fun xs H Q => ∃ p ys, xs = [.ref p] ∧ ((SqL K H p ys ∧ ∀ l, H l = none → Q (.ref l) (upd H l (.tup ys))) ∨ (SqT K H p ys ∧ Q (.ref p) H))
theorem b_len {p : Addr} {xs : List V} (h : SqL K H p xs ∨ SqT K H p xs) (q : Q (.int (xs.length : Int)) H) : Cl (Evl.rLenS K [.ref p]) H Q := fun H1 e Q' q' =>
  ⟨p, xs, rfl, h.elim (fun h => .inl (e.seq h)) (fun h => .inr (seqT e h)), q' _ H H1 q e⟩
theorem b_list {p : Addr} {xs : List V} (h : SqL K H p xs ∨ SqT K H p xs) (q : ∀ l, H l = none → Q (.ref l) (upd H l (.lst xs))) : Cl (Evl.rListS K [.ref p]) H Q := fun H1 e Q' q' =>
  ⟨p, xs, rfl, h.elim (fun h => .inl (e.seq h)) (fun h => .inr (seqT e h)), cl_new q e q'⟩
theorem b_tupL {p : Addr} {xs : List V} (h : SqL K H p xs) (q : ∀ l, H l = none → Q (.ref l) (upd H l (.tup xs))) : Cl (rTupOf K [.ref p]) H Q := fun H1 e Q' q' =>
  ⟨p, xs, rfl, .inl ⟨e.seq h, cl_new q e q'⟩⟩
theorem b_tupT {p : Addr} {xs : List V} (h : SqT K H p xs) (q : Q (.ref p) H) : Cl (rTupOf K [.ref p]) H Q := fun H1 e Q' q' =>
  ⟨p, xs, rfl, .inr ⟨seqT e h, q' _ H H1 q e⟩⟩
theorem b_abs {i : Int} (q : Q (.int (if i < 0 then -i else i)) H) : Cl (rAbs [.int i]) H Q := fun H1 e Q' q' => ⟨i, rfl, q' _ H H1 q e⟩
theorem b_max {i j : Int} (q : Q (.int (if j > i then j else i)) H) : Cl (Evl.rMax2 [.int i, .int j]) H Q := fun H1 e Q' q' => ⟨i, j, rfl, q' _ H H1 q e⟩
theorem b_min {i j : Int} (q : Q (.int (if j < i then j else i)) H) : Cl (rMin2 [.int i, .int j]) H Q := fun H1 e Q' q' => ⟨i, j, rfl, q' _ H H1 q e⟩
theorem b_sorted {a : Addr} {ns : List Int} (h : SqL K H a (ns.map V.int)) (q : ∀ ms : List Int, ms.Perm ns → ms.Pairwise (· ≤ ·) → ∀ p, H p = none → Q (.ref p) (upd H p (.lst (ms.map V.int)))) : Cl (rSortedI K [.ref a]) H Q := fun H1 e Q' q' =>
  ⟨a, ns, rfl, e.seq h, fun ms p hp hs hn => q' _ _ _ (q ms hp hs p (e.free hn)) (sameUpd e)⟩
/-- list(range(..)) -/
theorem c_lrg {te : St → Hp → (Int → Int → Hp → Prop) → Prop} (h : ∀ H1, Same H H1 → ∀ Q' : Int → Int → Hp → Prop, (∀ i j H2, (∃ Hb, Same Hb H2 ∧ RgOk i j ∧ ∀ p, Hb p = none → Q (.ref p) (upd Hb p (.lst (rgV i j)))) → Q' i j H2) → te σ H1 Q') : Cl (tLstRg te σ) H Q := fun H1 e Q' q' =>
  h H1 e _ fun i j H2 ⟨Hb, eb, ho, q⟩ => ⟨ho, cl_new q eb q'⟩
theorem c_lrg1 (h : Cl (ta σ) H fun x H1 => ∃ n, x = .int n ∧ RgOk 0 n ∧ ∀ p, H1 p = none → Q (.ref p) (upd H1 p (.lst (rgV 0 n)))) : Cl (tLstRg (tRg1 ta) σ) H Q := fun H1 e Q' q' =>
  h H1 e _ fun x Hb H2 ⟨n, ex, ho, q⟩ e2 => ⟨n, ex, ho, cl_new q e2 q'⟩

/-! ### methods of lists -/
theorem c_bm {T : String} {r : V → List V → Hp → VK → Prop} {ta : TA} {to : TE} (h : Cl (to σ) H fun x H1 => (∀ H2, Same H1 H2 → tyV K T x H2) ∧ Cl (ta σ) H1 fun vs H2 => Cl (r x vs) H2 Q) : Cl (tBM K T r to ta σ) H Q := fun H1 e Q' q' =>
  h H1 e _ fun x Hb H2 ⟨ht, hb⟩ e2 => ⟨ht H2 e2, hb H2 e2 _ fun vs Hc H3 hc e3 => hc H3 e3 Q' q'⟩
theorem c_bm0 {T : String} {r : V → List V → Hp → VK → Prop} {to : TE} (h : Cl (to σ) H fun x H1 => (∀ H2, Same H1 H2 → tyV K T x H2) ∧ Cl (r x []) H1 Q) : Cl (tBM0 K T r to σ) H Q := fun H1 e Q' q' =>
  h H1 e _ fun x Hb H2 ⟨ht, hb⟩ e2 => ⟨ht H2 e2, hb H2 e2 Q' q'⟩
theorem ty_list {a : Addr} {xs : List V} (h : SqL K H a xs) : ∀ H2, Same H H2 → tyV K "list" (.ref a) H2 := fun H2 e => Or.inl ⟨rfl, xs, e.seq h⟩
theorem m_append {l : Addr} {xs : List V} (h : H l = some (.lst xs)) (hz : xs.length < sizeLine) (q : Q .non (upd H l (.lst (xs ++ [y])))) : Cl (rAppend (.ref l) [y]) H Q := fun H1 e Q' q' => ⟨l, xs, y, rfl, rfl, e _ _ h, hz, q' _ _ _ q (sameUpd e)⟩
theorem m_reverse {l : Addr} {xs : List V} (h : H l = some (.lst xs)) (q : Q .non (upd H l (.lst xs.reverse))) : Cl (rReverse (.ref l) []) H Q := fun H1 e Q' q' => ⟨l, xs, rfl, rfl, e _ _ h, q' _ _ _ q (sameUpd e)⟩
theorem m_clear {l : Addr} {xs : List V} (h : H l = some (.lst xs)) (q : Q .non (upd H l (.lst []))) : Cl (rClear (.ref l) []) H Q := fun H1 e Q' q' => ⟨l, xs, rfl, rfl, e _ _ h, q' _ _ _ q (sameUpd e)⟩
theorem m_popAt {l : Addr} {xs : List V} {i : Int} {k : Nat} (h : H l = some (.lst xs)) (h1 : -(2 ^ 63) ≤ i) (h2 : i < 2 ^ 63) (hk : seqIndex? i xs.length = some k) (hy : xs[k]? = some y) (q : Q y (upd H l (.lst (xs.eraseIdx k)))) : Cl (rPopAt (.ref l) [.int i]) H Q :=
  fun H1 e Q' q' => ⟨l, xs, i, k, y, rfl, rfl, e _ _ h, h1, h2, hk, hy, q' _ _ _ q (sameUpd e)⟩
end

/-! ### statements -/
section
variable {K : PySem.W.Frag} {σ : St} {H H' : Hp} {ta tb te tx : TE} {tt tu : TT} {x y z v : V} {t u : TS} {nx bk ct : St → Hp → Prop} {rt : VK} {g : TG}
theorem s_seq (h : S t (fun σ H => S u nx rt bk ct σ H) rt bk ct σ H) : S (tSeq t u) nx rt bk ct σ H := fun H1 e D d1 d2 d3 d4 =>
  h H1 e { D with nx := u D } (fun σ' Hb H2 q e2 => q H2 e2 D d1 d2 d3 d4) d2 d3 d4
theorem s_next (h : nx σ H) : S tNext nx rt bk ct σ H := fun H1 e D d1 _ _ _ => d1 _ _ _ h e
theorem s_brk (h : bk σ H) : S tBreak nx rt bk ct σ H := fun H1 e D _ _ d3 _ => d3 _ _ _ h e
theorem s_cont (h : ct σ H) : S tCont nx rt bk ct σ H := fun H1 e D _ _ _ d4 => d4 _ _ _ h e
theorem s_asg (h : Cl (te σ) H fun x H1 => ClG g x σ H1 nx) : S (tAsg te g) nx rt bk ct σ H := fun H1 e D d1 _ _ _ =>
  h H1 e _ fun x Hb H2 hb e2 => hb H2 e2 _ d1
theorem s_set {i : Nat} (h : Cl (te σ) H fun x H1 => nx (σ.set i (some x)) H1) : S (tAsg te (gName i)) nx rt bk ct σ H := fun H1 e D d1 _ _ _ =>
  h H1 e _ fun x Hb H2 hb e2 => d1 _ _ _ hb e2
theorem s_drop (h : Cl (te σ) H fun _ H1 => nx σ H1) : S (tDrop te) nx rt bk ct σ H := fun H1 e D d1 _ _ _ => h H1 e _ fun x Hb H2 hb e2 => d1 _ _ _ hb e2
theorem s_ret (h : Cl (te σ) H rt) : S (tRet te) nx rt bk ct σ H := fun H1 e D _ d2 _ _ => h H1 e _ d2
theorem s_retN (h : rt .non H) : S tRetN nx rt bk ct σ H := fun H1 e D _ d2 _ _ => d2 _ _ _ h e
theorem s_if (h : Cl (tt σ) H fun b H1 => (b = true → S t nx rt bk ct σ H1) ∧ (b = false → S u nx rt bk ct σ H1)) : S (tIfS tt t u) nx rt bk ct σ H := fun H1 e D d1 d2 d3 d4 =>
  h H1 e _ fun b Hb H2 hb e2 => by
    cases b with
    | true => exact hb.1 rfl H2 e2 D d1 d2 d3 d4
    | false => exact hb.2 rfl H2 e2 D d1 d2 d3 d4
theorem g_name {i : Nat} {Qs : St → Hp → Prop} (h : Qs (σ.set i (some v)) H) : ClG (gName i) v σ H Qs := fun H1 e Q' q' => q' _ _ _ h e
theorem g_sub {ti to : TE} {Qs : St → Hp → Prop} {s : TSet} (h : Cl (to σ) H fun o H1 => Cl (ti σ) H1 fun i H2 => ∀ H3, Same H2 H3 → ∀ Q' : Hp → Prop, (∀ Hb H4, Qs σ Hb → Same Hb H4 → Q' H4) → s o i v H3 Q') : ClG (gSub to ti s) v σ H Qs := fun H1 e Q' q' =>
  h H1 e _ fun o Hb H2 hb e2 => hb H2 e2 _ fun i Hc H3 hc e3 => hc H3 e3 _ fun Hd H4 hd e4 => q' _ _ _ hd e4
theorem g_setL {ti to : TE} {Qs : St → Hp → Prop} (h : Cl (to σ) H fun o H1 => Cl (ti σ) H1 fun i H2 => ∃ p xs k j, o = .ref p ∧ i = .int k ∧ H2 p = some (.lst xs) ∧ ixN xs.length k = some j ∧ Qs σ (upd H2 p (.lst (xs.set j v)))) : ClG (gSub to ti rSetL) v σ H Qs :=
  g_sub (cl_mono h fun o Hb hb => cl_mono hb fun i Hc ⟨p, xs, k, j, eo, ei, hp, hj, q⟩ H3 e3 Q' q' => ⟨p, xs, k, j, eo, ei, e3 _ _ hp, hj, q' _ _ q (sameUpd e3)⟩)
theorem g_tup {n : Nat} {t : TGs} {Qs : St → Hp → Prop} {a : Addr} {xs : List V} (hs : SqT K H a xs) (hn : xs.length = n) (h : ∀ H1, Same H H1 → ∀ Q' : St → Hp → Prop, (∀ σ' Hb H2, Qs σ' Hb → Same Hb H2 → Q' σ' H2) → t xs σ H1 Q') : ClG (gTup K n t) (.ref a) σ H Qs := fun H1 e Q' q' =>
  ⟨a, xs, rfl, seqT e hs, hn, h H1 e Q' q'⟩
theorem g_tup2 {Qs : St → Hp → Prop} {a : Addr} {x y : V} {i j : Nat} (hs : SqT K H a [x, y]) (h : Qs ((σ.set i (some x)).set j (some y)) H) : ClG (gTup K 2 (gCons (gName i) (gCons (gName j) gNil))) (.ref a) σ H Qs :=
  g_tup hs rfl fun H1 e Q' q' => ⟨x, [y], rfl, y, [], rfl, rfl, q' _ _ _ h e⟩
theorem s_fld {tv : TE} {f : Str} (h : Cl (tv σ) H fun y H1 => Cl (ta σ) H1 fun x H2 => ∃ a C dx fs, x = .ref a ∧ H2 a = some (.ins C dx fs) ∧ Cls K C ∧ NoAttr K C f ∧ fs.length < 1000 ∧ nx σ (upd H2 a (.ins C dx (putF f y fs)))) : S (sFld K ta tv f) nx rt bk ct σ H := fun H1 e D d1 _ _ _ =>
  h H1 e _ fun y Hb H2 hb e2 => hb H2 e2 _ fun x Hc H3 ⟨a, C, dx, fs, ex, ho, hc, hn, hl, q⟩ e3 => ⟨a, C, dx, fs, ex, e3 _ _ ho, hc, hn, hl, d1 _ _ _ q (sameUpd e3)⟩

/-- a loop's word at a base heap -/
def Up (P : St → Hp → Prop) : St → Hp → Prop := fun σ H => ∃ Hb, Same Hb H ∧ P σ Hb
theorem s_forL {tl : TE} (h : Cl (tl σ) H fun x Hb => ∃ a xs, x = .ref a ∧ SqL K Hb a xs ∧ ∃ Pv : Nat → St → Hp → Prop, Pv 0 σ Hb ∧ (∀ i σ' Hc, i ≤ xs.length → Pv i σ' Hc → SqL K Hc a xs) ∧
      (∀ i x σ' Hc, xs[i]? = some x → Pv i σ' Hc → ClG g x σ' Hc fun σ2 H2 => S t (Pv (i + 1)) rt nx (Pv (i + 1)) σ2 H2) ∧ ∀ σ' Hc, Pv xs.length σ' Hc → nx σ' Hc) : S (tFor (iList K tl) g t) nx rt bk ct σ H := fun H1 e D d1 d2 d3 d4 =>
  h H1 e _ fun x Hb H2 ⟨a, xs, ex, hs, Pv, h0, hl, hst, hd⟩ e2 => ⟨a, ex, ⟨xs, e2.seq hs⟩, for_list (fun i => Up (Pv i)) ⟨Hb, e2, h0⟩ (fun i σ' H' hi ⟨Hc, ec, p⟩ => ec.seq (hl i σ' Hc hi p))
    (fun i x σ' H' hx ⟨Hc, ec, p⟩ => hst i x σ' Hc hx p H' ec _ fun σ2 Hd H3 hS e3 => hS H3 e3 { D with nx := Up (Pv (i + 1)), ct := Up (Pv (i + 1)), bk := D.nx } (fun _ Hb _ q e => ⟨Hb, e, q⟩) d2 d1 (fun _ Hb _ q e => ⟨Hb, e, q⟩))
    (fun σ' H' ⟨Hc, ec, p⟩ => d1 _ _ _ (hd _ _ p) ec)⟩
theorem s_forT {tl : TE} (h : Cl (tl σ) H fun x Hb => ∃ a xs, x = .ref a ∧ SqT K Hb a xs ∧ ∃ Pv : Nat → St → Hp → Prop, Pv 0 σ Hb ∧ (∀ i σ' Hc, i ≤ xs.length → Pv i σ' Hc → SqT K Hc a xs) ∧
      (∀ i x σ' Hc, xs[i]? = some x → Pv i σ' Hc → ClG g x σ' Hc fun σ2 H2 => S t (Pv (i + 1)) rt nx (Pv (i + 1)) σ2 H2) ∧ ∀ σ' Hc, Pv xs.length σ' Hc → nx σ' Hc) : S (tFor (iTup K tl) g t) nx rt bk ct σ H := fun H1 e D d1 d2 d3 d4 =>
  h H1 e _ fun x Hb H2 ⟨a, xs, ex, hs, Pv, h0, hl, hst, hd⟩ e2 => ⟨a, ex, ⟨xs, seqT e2 hs⟩, for_tup (fun i => Up (Pv i)) ⟨Hb, e2, h0⟩ (fun i σ' H' hi ⟨Hc, ec, p⟩ => seqT ec (hl i σ' Hc hi p))
    (fun i x σ' H' hx ⟨Hc, ec, p⟩ => hst i x σ' Hc hx p H' ec _ fun σ2 Hd H3 hS e3 => hS H3 e3 { D with nx := Up (Pv (i + 1)), ct := Up (Pv (i + 1)), bk := D.nx } (fun _ Hb _ q e => ⟨Hb, e, q⟩) d2 d1 (fun _ Hb _ q e => ⟨Hb, e, q⟩))
    (fun σ' H' ⟨Hc, ec, p⟩ => d1 _ _ _ (hd _ _ p) ec)⟩
theorem s_forR1 {ta : TA} {k : Nat} (h : Cl (ta σ) H fun vs Hb => ∃ n : Int, vs = [.int n] ∧ -(2 ^ 62) ≤ n ∧ n < 2 ^ 62 ∧ ∃ Pv : Nat → St → Hp → Prop, Pv 0 σ Hb ∧
      (∀ (i : Nat) σ' Hc, (i : Int) < n → Pv i σ' Hc → S t (Pv (i + 1)) rt nx (Pv (i + 1)) (σ'.set k (some (.int (i : Int)))) Hc) ∧ ∀ σ' Hc, Pv n.toNat σ' Hc → nx σ' Hc) : S (tFor (iRng1 ta) (gName k) t) nx rt bk ct σ H := fun H1 e D d1 d2 d3 d4 =>
  h H1 e _ fun vs Hb H2 ⟨n, ex, l1, l2, Pv, h0, hst, hd⟩ e2 => ⟨n, ex, l1, l2, for_range (lo := 0) (n := n.toNat) (fun i => Up (Pv i)) ⟨Hb, e2, h0⟩
    (fun i σ' H' hi ⟨Hc, ec, p⟩ => by
      have e0 : (0 : Int) + (i : Int) = (i : Int) := Int.zero_add _
      show t _ (σ'.set k (some (.int ((0 : Int) + (i : Int))))) H'
      rw [e0]
      exact hst i σ' Hc (by omega) p H' ec { D with nx := Up (Pv (i + 1)), ct := Up (Pv (i + 1)), bk := D.nx } (fun _ Hb _ q e => ⟨Hb, e, q⟩) d2 d1 (fun _ Hb _ q e => ⟨Hb, e, q⟩))
    (fun σ' H' ⟨Hc, ec, p⟩ => d1 _ _ _ (hd _ _ p) ec)⟩
theorem s_forR2 {ta : TA} {k : Nat} (h : Cl (ta σ) H fun vs Hb => ∃ lo n : Int, vs = [.int lo, .int n] ∧ (-(2 ^ 62) ≤ lo ∧ lo < 2 ^ 62 ∧ -(2 ^ 62) ≤ n ∧ n < 2 ^ 62) ∧ ∃ Pv : Nat → St → Hp → Prop, Pv 0 σ Hb ∧
      (∀ (i : Nat) σ' Hc, lo + (i : Int) < n → Pv i σ' Hc → S t (Pv (i + 1)) rt nx (Pv (i + 1)) (σ'.set k (some (.int (lo + (i : Int))))) Hc) ∧ ∀ σ' Hc, Pv (n - lo).toNat σ' Hc → nx σ' Hc) : S (tFor (iRng2 ta) (gName k) t) nx rt bk ct σ H := fun H1 e D d1 d2 d3 d4 =>
  h H1 e _ fun vs Hb H2 ⟨lo, n, ex, l1, Pv, h0, hst, hd⟩ e2 => ⟨lo, n, ex, l1, for_range (lo := lo) (n := (n - lo).toNat) (fun i => Up (Pv i)) ⟨Hb, e2, h0⟩
    (fun i σ' H' hi ⟨Hc, ec, p⟩ => hst i σ' Hc (by omega) p H' ec { D with nx := Up (Pv (i + 1)), ct := Up (Pv (i + 1)), bk := D.nx } (fun _ Hb _ q e => ⟨Hb, e, q⟩) d2 d1 (fun _ Hb _ q e => ⟨Hb, e, q⟩))
    (fun σ' H' ⟨Hc, ec, p⟩ => d1 _ _ _ (hd _ _ p) ec)⟩
theorem s_while (W : Nat → St → Hp → Prop) (m0 : Nat) (h0 : W m0 σ H) (hs : ∀ m σ' Hc, W m σ' Hc → Cl (tt σ') Hc fun b Hb => (b = true → S t (fun σ2 H2 => ∃ m', m' < m ∧ W m' σ2 H2) rt nx (fun σ2 H2 => ∃ m', m' < m ∧ W m' σ2 H2) σ' Hb) ∧ (b = false → nx σ' Hb)) :
    S (tWhile tt t) nx rt bk ct σ H := fun H1 e D d1 d2 d3 d4 =>
  ⟨fun m => Up (W m), ⟨m0, H, e, h0⟩, fun m σ' H' ⟨Hc, ec, w⟩ => hs m σ' Hc w H' ec _ fun b Hb H2 hb e2 => by
    cases b with
    | true => exact ⟨fun σ2 H2 => ∃ m', m' < m ∧ Up (W m') σ2 H2, fun _ _ q => q, hb.1 rfl H2 e2 { D with nx := fun σ2 H2 => ∃ m', m' < m ∧ Up (W m') σ2 H2, ct := fun σ2 H2 => ∃ m', m' < m ∧ Up (W m') σ2 H2, bk := D.nx }
        (fun _ Hb _ ⟨m', l, q⟩ e => ⟨m', l, Hb, e, q⟩) d2 d1 (fun _ Hb _ ⟨m', l, q⟩ e => ⟨m', l, Hb, e, q⟩)⟩
    | false => exact d1 _ _ _ (hb.2 rfl) e2⟩
end
end La

/-! List comprehensions and enumerate at a base heap. -/
namespace La
open PySem L2
/-- what is walked: n items, it i the i-th, as long as G stands -/
structure Src (J : It) (n : Nat) (it : Nat → V) (G : Hp → Prop) : Prop where
  go : ∀ i H, i < n → G H → J.go i H
  stop : ∀ H, G H → J.stop n H
  yld : ∀ i H x H', i < n → G H → J.yld i H x H' → H' = H ∧ x = it i
  up : ∀ H H', Same H H' → G H → G H'
theorem src_list {K : PySem.W.Frag} {a : Addr} (xs : List V) : Src (Itl K a) xs.length (fun i => xs.getD i .non) (fun H => SqL K H a xs) where
  go := fun i H hi q => ⟨xs, xs[i], q, by simp [hi]⟩
  stop := fun H q => ⟨xs, q, Nat.le_refl _⟩
  yld := fun i H x H' hi q y => by
    obtain ⟨e, y⟩ := y
    have := y xs q
    exact ⟨e, by rw [List.getD_eq_getElem?_getD, this]; rfl⟩
  up := fun H H' e q => e.seq q
theorem src_tup {K : PySem.W.Frag} {a : Addr} (xs : List V) : Src (Itt K a) xs.length (fun i => xs.getD i .non) (fun H => SqT K H a xs) where
  go := fun i H hi q => ⟨xs, xs[i], q, by simp [hi]⟩
  stop := fun H q => ⟨xs, q, Nat.le_refl _⟩
  yld := fun i H x H' hi q y => by
    obtain ⟨e, y⟩ := y
    have := y xs q
    exact ⟨e, by rw [List.getD_eq_getElem?_getD, this]; rfl⟩
  up := fun H H' e q => seqT e q
theorem src_rng (lo : Int) (n : Nat) : Src (Itr lo n) n (fun i => .int (lo + i)) (fun _ => True) where
  go := fun i H hi q => hi
  stop := fun H q => Nat.le_refl _
  yld := fun i H x H' hi q y => y
  up := fun _ _ _ q => q

section
variable {K : PySem.W.Frag} {σ : St} {H H' : Hp} {te : TE} {tt : TT} {g : TG} {Q : VK} {vs : List Nat}
/-- the core -/
theorem lc_src {J : It} {n : Nat} {it : Nat → V} {G : Hp → Prop} (s : Src J n it G) {Hb H1 : Hp} (e : Same Hb H1) (g0 : G Hb) (hn : n ≤ sizeLine) {D : Addr} (hD : H1 D = none) (Pv : Nat → List V → Hp → Prop) {Qd : Hp → Prop} (h0 : Pv 0 [] (upd Hb D (.lst [])))
    (hl : ∀ i acc Hc, i ≤ n → Pv i acc Hc → G Hc ∧ acc.length ≤ i ∧ Hc D = some (.lst acc))
    (hs : ∀ i acc Hc, i < n → Pv i acc Hc → ClG g (it i) (wipe σ vs) Hc fun σ2 H2 => wipe σ2 vs = wipe σ vs ∧ Cl (tt σ2) H2 fun b H3 => (b = true → Cl (te σ2) H3 fun y H4 => H4 D = some (.lst acc) ∧ Pv (i + 1) (acc ++ [y]) (upd H4 D (.lst (acc ++ [y])))) ∧ (b = false → Pv (i + 1) acc H3))
    (hd : ∀ acc Hc H2, Pv n acc Hc → Same Hc H2 → Qd H2) :
    ∃ W : Nat → Nat → Hp → Prop, (∃ m, W 0 m (upd H1 D (.lst []))) ∧ ∀ i m H, W i m H →
      (J.stop i H ∧ Qd H) ∨ (J.go i H ∧ ∃ Nx : Hp → Prop, (∀ H', Nx H' → ∃ m', m' < m ∧ W (i + 1) m' H') ∧ ∀ x H', J.yld i H x H' → g x (wipe σ vs) H' fun σ2 H2 => wipe σ2 vs = wipe σ vs ∧ tt σ2 H2 fun b H3 =>
        if b = true then te σ2 H3 fun y H4 => ∃ acc, H4 D = some (.lst acc) ∧ acc.length < sizeLine ∧ Nx (upd H4 D (.lst (acc ++ [y]))) else Nx H3) := by
  refine ⟨fun i m H => m = n - i ∧ i ≤ n ∧ ∃ acc Hc, Same Hc H ∧ Pv i acc Hc, ⟨n, by simp, Nat.zero_le _, [], _, sameUpd e, h0⟩, ?_⟩
  rintro i m H ⟨rfl, hi, acc, Hc, ec, p⟩
  obtain ⟨gc, la, hDc⟩ := hl i acc Hc hi p
  have gH := s.up _ _ ec gc
  by_cases hlt : i < n
  · refine .inr ⟨s.go i H hlt gH, fun H' => ∃ acc Hc, Same Hc H' ∧ Pv (i + 1) acc Hc, fun H' p' => ⟨n - (i + 1), by omega, rfl, hlt, p'⟩, fun x H' y => ?_⟩
    obtain ⟨e1, e2⟩ := s.yld i H x H' hlt gH y
    subst e1 e2
    refine hs i acc Hc hlt p _ ec _ ?_
    rintro σ2 Hd H2 ⟨hw, ht⟩ ed
    refine ⟨hw, ht H2 ed _ ?_⟩
    intro b He H3 hb ee
    cases b with
    | true =>
      show te σ2 H3 _
      refine hb.1 rfl H3 ee _ ?_
      rintro y Hf H4 ⟨hDf, pf⟩ ef
      exact ⟨acc, ef _ _ hDf, by omega, acc ++ [y], _, sameUpd ef, pf⟩
    | false => exact ⟨acc, He, ee, hb.2 rfl⟩
  · have en : i = n := by omega
    subst en
    exact .inl ⟨s.stop H gH, hd acc Hc H p ec⟩
/-- a turn's reading keeps the frame -/
theorem cl_keep {α : Type} {f : Hp → (α → Hp → Prop) → Prop} {Hc : Hp} {R : α → Prop} {Q : α → Hp → Prop} (h : ∀ H1, Same Hc H1 → Cl f H1 fun a H2 => R a ∧ Same H1 H2) (q : ∀ a H2, R a → Same Hc H2 → Q a H2) : Cl f Hc Q := cl_frame h q
/-- simple turns: nothing that is made is kept; p and f tell what each item gives -/
theorem lc_pure {J : It} {n : Nat} {it : Nat → V} {G : Hp → Prop} (s : Src J n it G) {j : Nat} {Hb H1 : Hp} (e : Same Hb H1) (g0 : G Hb) (hn : n ≤ sizeLine) (hw : ∀ x, wipe ((wipe σ vs).set j (some x)) vs = wipe σ vs) (p : V → Bool) (f : V → V)
    (ht : ∀ i, i < n → ∀ Hc, Same Hb Hc → Cl (tt ((wipe σ vs).set j (some (it i)))) Hc fun b H2 => b = p (it i) ∧ Same Hc H2)
    (he : ∀ i, i < n → p (it i) = true → ∀ Hc, Same Hb Hc → Cl (te ((wipe σ vs).set j (some (it i)))) Hc fun y H2 => y = f (it i) ∧ Same Hc H2)
    {Q' : VK} (q : ∀ D, Hb D = none → Q (.ref D) (upd Hb D (.lst ((((List.range n).map it).filter p).map f)))) (q' : ∀ a Hb H2, Q a Hb → Same Hb H2 → Q' a H2) :
    ∀ D, H1 D = none → ∃ W : Nat → Nat → Hp → Prop, (∃ m, W 0 m (upd H1 D (.lst []))) ∧ ∀ i m H, W i m H →
      (J.stop i H ∧ Q' (.ref D) H) ∨ (J.go i H ∧ ∃ Nx : Hp → Prop, (∀ H', Nx H' → ∃ m', m' < m ∧ W (i + 1) m' H') ∧ ∀ x H', J.yld i H x H' → gName j x (wipe σ vs) H' fun σ2 H2 => wipe σ2 vs = wipe σ vs ∧ tt σ2 H2 fun b H3 =>
        if b = true then te σ2 H3 fun y H4 => ∃ acc, H4 D = some (.lst acc) ∧ acc.length < sizeLine ∧ Nx (upd H4 D (.lst (acc ++ [y]))) else Nx H3) := by
  intro D hD
  have hDb : Hb D = none := e.free hD
  have keep : ∀ {Hc : Hp} {o : HO}, Same Hb Hc → Same Hb (upd Hc D o) := fun {Hc o} k b u z => by
    rw [upd_ne (ne_of_none z hDb)]
    exact k b u z
  refine lc_src (g := gName j) s e g0 hn hD (fun i acc Hc => acc = (((List.range i).map it).filter p).map f ∧ Same Hb Hc ∧ Hc D = some (.lst acc)) ⟨rfl, same_new hDb, upd_same⟩ ?_ ?_ ?_
  · rintro i acc Hc hi ⟨rfl, k, hc⟩
    refine ⟨s.up _ _ k g0, ?_, hc⟩
    rw [List.length_map]
    refine Nat.le_trans (List.length_filter_le _ _) ?_
    rw [List.length_map, List.length_range]
    exact Nat.le_refl _
  · rintro i acc Hc hi ⟨ea, k, hc⟩
    have step : (((List.range (i + 1)).map it).filter p).map f = acc ++ (if p (it i) = true then [f (it i)] else []) := by
      rw [List.range_succ, List.map_append, List.filter_append, List.map_append, ← ea]
      congr 1
      show List.map f (List.filter p [it i]) = _
      rw [List.filter_cons]
      split <;> rfl
    refine g_name ⟨hw _, cl_keep (fun Hd kd => ht i hi Hd (k.trans kd)) fun b H2 eb k2 => ⟨fun hb => cl_keep (fun Hd kd => he i hi (eb ▸ hb) Hd ((k.trans k2).trans kd)) fun y H3 ey k3 => ?_, fun hb => ?_⟩⟩
    · refine ⟨k3 _ _ (k2 _ _ hc), ?_, keep ((k.trans k2).trans k3), upd_same⟩
      rw [step, if_pos (eb ▸ hb), ey]
    · refine ⟨?_, k.trans k2, k2 _ _ hc⟩
      rw [step, if_neg (by rw [← eb, hb]; decide), List.append_nil]
  · rintro acc Hc H2 ⟨rfl, k, hc⟩ e2
    refine q' _ _ _ (q D hDb) ?_
    intro b o hb
    by_cases z : b = D
    · subst z
      rw [upd_same] at hb
      cases hb
      exact e2 _ _ hc
    · rw [upd_ne z] at hb
      exact e2 _ _ (k _ _ hb)
/-- what is new in H' -/
def np (H H' : Hp) : Hp := fun b => match H b with
  | none => H' b
  | some _ => none
theorem np_new {H H' : Hp} {p : Addr} {o : HO} (h : H p = none) (h' : H' p = some o) : np H H' p = some o := by
  unfold np
  rw [h]
  exact h'
theorem np_of {H H' : Hp} {p : Addr} {o : HO} (h : np H H' p = some o) : H p = none ∧ H' p = some o := by
  unfold np at h
  split at h
  · rename_i e
    exact ⟨e, h⟩
  · cases h
theorem dpAll_snoc {K : PySem.W.Frag} {H : Hp} {y : V} {d : PyData} : ∀ {vs : List V} {ds : List PyData}, DpAll K H vs ds → Dp K H y d → DpAll K H (vs ++ [y]) (ds ++ [d])
  | _, _, .nil, h => .cons h .nil
  | _, _, .cons a b, h => .cons a (dpAll_snoc b h)
theorem dpAll_length {K : PySem.W.Frag} {H : Hp} : ∀ {vs : List V} {ds : List PyData}, DpAll K H vs ds → vs.length = ds.length
  | _, _, .nil => rfl
  | _, _, .cons _ b => congrArg (· + 1) (dpAll_length b)
/-- the turns make things that stay: what is made is told as data -/
theorem lc_dat {J : It} {n : Nat} {it : Nat → V} {G : Hp → Prop} (s : Src J n it G) {Hb H1 : Hp} (e : Same Hb H1) (g0 : G Hb) (hn : n ≤ sizeLine) (p : V → Bool) (f : V → PyData)
    (ht : ∀ i, i < n → ∀ Hc, Same Hb Hc → ClG g (it i) (wipe σ vs) Hc fun σ2 H2 => wipe σ2 vs = wipe σ vs ∧ Cl (tt σ2) H2 fun b H3 => b = p (it i) ∧ Same Hc H3 ∧ (p (it i) = true → Cl (te σ2) H3 fun y H4 => Dp K (np Hc H4) y (f (it i)) ∧ Same Hc H4))
    {Q' : VK} (q : ∀ D ys Hc He, Hb D = none → Same Hb Hc → Hc D = some (.lst ys) → Same He Hc → (∀ b o, Hb b = some o → He b = none) → DpAll K He ys ((((List.range n).map it).filter p).map f) → Q (.ref D) Hc) (q' : ∀ a Hb H2, Q a Hb → Same Hb H2 → Q' a H2) :
    ∀ D, H1 D = none → ∃ W : Nat → Nat → Hp → Prop, (∃ m, W 0 m (upd H1 D (.lst []))) ∧ ∀ i m H, W i m H →
      (J.stop i H ∧ Q' (.ref D) H) ∨ (J.go i H ∧ ∃ Nx : Hp → Prop, (∀ H', Nx H' → ∃ m', m' < m ∧ W (i + 1) m' H') ∧ ∀ x H', J.yld i H x H' → g x (wipe σ vs) H' fun σ2 H2 => wipe σ2 vs = wipe σ vs ∧ tt σ2 H2 fun b H3 =>
        if b = true then te σ2 H3 fun y H4 => ∃ acc, H4 D = some (.lst acc) ∧ acc.length < sizeLine ∧ Nx (upd H4 D (.lst (acc ++ [y]))) else Nx H3) := by
  intro D hD
  have hDb : Hb D = none := e.free hD
  have keep : ∀ {Hc : Hp} {o : HO}, Same Hb Hc → Same Hb (upd Hc D o) := fun {Hc o} k b u z => by
    rw [upd_ne (ne_of_none z hDb)]
    exact k b u z
  refine lc_src s e g0 hn hD (fun i acc Hc => Same Hb Hc ∧ Hc D = some (.lst acc) ∧ ∃ He : Hp, He D = none ∧ Same He Hc ∧ (∀ b o, Hb b = some o → He b = none) ∧ DpAll K He acc ((((List.range i).map it).filter p).map f)) ⟨same_new hDb, upd_same, (fun _ => none), rfl, (by intro b o z; cases z), (fun _ _ _ => rfl), DpAll.nil⟩ ?_ ?_ ?_
  · rintro i acc Hc hi ⟨k, hc, He, h1, h2, h0, h3⟩
    refine ⟨s.up _ _ k g0, ?_, hc⟩
    rw [dpAll_length h3, List.length_map]
    refine Nat.le_trans (List.length_filter_le _ _) ?_
    rw [List.length_map, List.length_range]
    exact Nat.le_refl _
  · rintro i acc Hc hi ⟨k, hc, He, h1, h2, h0, h3⟩
    have step : (((List.range (i + 1)).map it).filter p).map f = (((List.range i).map it).filter p).map f ++ (if p (it i) = true then [f (it i)] else []) := by
      rw [List.range_succ, List.map_append, List.filter_append, List.map_append]
      congr 1
      show List.map f (List.filter p [it i]) = _
      rw [List.filter_cons]
      split <;> rfl
    intro Hq eq Q1 q1
    refine ht i hi Hq (k.trans eq) Hq (Same.refl _) Q1 ?_
    rintro σ2 H2 H3 ⟨hw, ht2⟩ e3
    refine q1 σ2 H2 H3 ⟨hw, cl_mono ht2 ?_⟩ e3
    rintro b Hd ⟨eb, kd, he⟩
    refine ⟨fun hb => cl_mono (he (eb ▸ hb)) ?_, fun hb => ?_⟩
    · rintro y Hf ⟨hy, kf⟩
      have hDf : Hf D = some (.lst acc) := kf _ _ (eq _ _ hc)
      refine ⟨hDf, keep ((k.trans eq).trans kf), upd_same, (fun b => if b = D then none else np Hb Hf b), if_pos rfl, fun b o z => ?_, fun b o z => ?_, ?_⟩
      · by_cases zb : b = D
        · have z' : (if b = D then none else np Hb Hf b) = some o := z
          rw [if_pos zb] at z'
          cases z'
        · have z' : (if b = D then none else np Hb Hf b) = some o := z
          rw [if_neg zb] at z'
          rw [upd_ne zb]
          exact (np_of z').2
      · show (if b = D then none else np Hb Hf b) = none
        split
        · rfl
        · unfold np
          rw [z]
      · rw [step, if_pos (eb ▸ hb)]
        refine dpAll_snoc (dpAll_same (fun b o z => ?_) h3) (dp_same (fun b o z => ?_) hy)
        · have zb : b ≠ D := ne_of_none z h1
          show (if b = D then none else np Hb Hf b) = some o
          rw [if_neg zb]
          refine np_new ?_ (kf _ _ (eq _ _ (h2 _ _ z)))
          cases hbb : Hb b with
          | none => rfl
          | some u =>
            rw [h0 b u hbb] at z
            cases z
        · obtain ⟨z1, z2⟩ := np_of z
          have zb : b ≠ D := fun w => by
            rw [w, eq _ _ hc] at z1
            cases z1
          show (if b = D then none else np Hb Hf b) = some o
          rw [if_neg zb]
          exact np_new ((k.trans eq).free z1) z2
    · refine ⟨(k.trans eq).trans kd, kd _ _ (eq _ _ hc), He, h1, (h2.trans eq).trans kd, h0, ?_⟩
      rw [step, if_neg (by rw [← eb, hb]; decide), List.append_nil]
      exact h3
  · rintro acc Hc H2 ⟨k, hc, He, h1, h2, h0, h3⟩ e2
    exact q' _ _ _ (q D acc Hc He hDb k hc h2 h0 h3) e2

theorem range_getD (xs : List V) : (List.range xs.length).map (fun i => xs.getD i .non) = xs := by
  refine List.ext_getElem (by simp) fun i h1 h2 => ?_
  rw [List.getElem_map, List.getElem_range, List.getD_eq_getElem?_getD, List.getElem?_eq_getElem h2]
  rfl
theorem getD_mem {xs : List V} {i : Nat} (h : i < xs.length) : xs.getD i .non ∈ xs := by
  rw [List.getD_eq_getElem?_getD, List.getElem?_eq_getElem h]
  exact List.getElem_mem h
/-! ### the forms one uses: over a list, a tuple, a range -/
theorem c_lcL {tl : TE} {j : Nat} (hw : ∀ x, wipe ((wipe σ vs).set j (some x)) vs = wipe σ vs) (p : V → Bool) (f : V → V) (h : Cl (tl σ) H fun x Hb => ∃ a xs, x = .ref a ∧ SqL K Hb a xs ∧ xs.length ≤ sizeLine ∧
      (∀ x ∈ xs, ∀ Hc, Same Hb Hc → Cl (tt ((wipe σ vs).set j (some x))) Hc fun b H2 => b = p x ∧ Same Hc H2) ∧
      (∀ x ∈ xs, p x = true → ∀ Hc, Same Hb Hc → Cl (te ((wipe σ vs).set j (some x))) Hc fun y H2 => y = f x ∧ Same Hc H2) ∧
      ∀ D, Hb D = none → Q (.ref D) (upd Hb D (.lst ((xs.filter p).map f)))) : Cl (tLc (iList K tl) (gName j) tt te vs σ) H Q := fun H1 e Q' q' =>
  h H1 e _ fun x Hb H2 ⟨a, xs, ex, hs, hn, ht, he, q⟩ e2 => ⟨a, ex, ⟨xs, e2.seq hs⟩, lc_pure (src_list xs) e2 hs hn hw p f (fun i hi => ht _ (getD_mem hi)) (fun i hi => he _ (getD_mem hi)) (by rw [range_getD]; exact q) q'⟩
theorem c_lcT {tl : TE} {j : Nat} (hw : ∀ x, wipe ((wipe σ vs).set j (some x)) vs = wipe σ vs) (p : V → Bool) (f : V → V) (h : Cl (tl σ) H fun x Hb => ∃ a xs, x = .ref a ∧ SqT K Hb a xs ∧ xs.length ≤ sizeLine ∧
      (∀ x ∈ xs, ∀ Hc, Same Hb Hc → Cl (tt ((wipe σ vs).set j (some x))) Hc fun b H2 => b = p x ∧ Same Hc H2) ∧
      (∀ x ∈ xs, p x = true → ∀ Hc, Same Hb Hc → Cl (te ((wipe σ vs).set j (some x))) Hc fun y H2 => y = f x ∧ Same Hc H2) ∧
      ∀ D, Hb D = none → Q (.ref D) (upd Hb D (.lst ((xs.filter p).map f)))) : Cl (tLc (iTup K tl) (gName j) tt te vs σ) H Q := fun H1 e Q' q' =>
  h H1 e _ fun x Hb H2 ⟨a, xs, ex, hs, hn, ht, he, q⟩ e2 => ⟨a, ex, ⟨xs, seqT e2 hs⟩, lc_pure (src_tup xs) e2 hs hn hw p f (fun i hi => ht _ (getD_mem hi)) (fun i hi => he _ (getD_mem hi)) (by rw [range_getD]; exact q) q'⟩
theorem c_lcR1 {ta : TA} {j : Nat} (hw : ∀ x, wipe ((wipe σ vs).set j (some x)) vs = wipe σ vs) (p : V → Bool) (f : V → V) (h : Cl (ta σ) H fun ws Hb => ∃ n : Nat, ws = [.int (n : Int)] ∧ n ≤ sizeLine ∧
      (∀ i : Nat, i < n → ∀ Hc, Same Hb Hc → Cl (tt ((wipe σ vs).set j (some (.int (i : Int))))) Hc fun b H2 => b = p (.int (i : Int)) ∧ Same Hc H2) ∧
      (∀ i : Nat, i < n → p (.int (i : Int)) = true → ∀ Hc, Same Hb Hc → Cl (te ((wipe σ vs).set j (some (.int (i : Int))))) Hc fun y H2 => y = f (.int (i : Int)) ∧ Same Hc H2) ∧
      ∀ D, Hb D = none → Q (.ref D) (upd Hb D (.lst ((((List.range n).map fun i : Nat => V.int (i : Int)).filter p).map f)))) : Cl (tLc (iRng1 ta) (gName j) tt te vs σ) H Q := fun H1 e Q' q' =>
  h H1 e _ fun ws Hb H2 ⟨n, ex, hn, ht, he, q⟩ e2 => ⟨(n : Int), ex, by omega, by have := sizeLine_eq; omega, by
    have z : ∀ i : Nat, (0 : Int) + (i : Int) = (i : Int) := fun i => Int.zero_add _
    have g : ((List.range n).map fun i : Nat => V.int ((0 : Int) + (i : Int))) = (List.range n).map fun i : Nat => V.int (i : Int) := by
      congr 1
      funext i
      rw [z]
    have w : ((n : Int)).toNat = n := Int.toNat_natCast n
    rw [w]
    exact lc_pure (src_rng 0 n) e2 trivial hn hw p f (fun i hi => by rw [z]; exact ht i hi) (fun i hi => by rw [z]; exact he i hi) (by rw [g]; exact q) q'⟩
theorem c_lcR2 {ta : TA} {j : Nat} (hw : ∀ x, wipe ((wipe σ vs).set j (some x)) vs = wipe σ vs) (p : V → Bool) (f : V → V) (h : Cl (ta σ) H fun ws Hb => ∃ lo hi : Int, ws = [.int lo, .int hi] ∧ (-(2 ^ 62) ≤ lo ∧ lo < 2 ^ 62 ∧ -(2 ^ 62) ≤ hi ∧ hi < 2 ^ 62) ∧ (hi - lo).toNat ≤ sizeLine ∧
      (∀ i : Nat, i < (hi - lo).toNat → ∀ Hc, Same Hb Hc → Cl (tt ((wipe σ vs).set j (some (.int (lo + (i : Int)))))) Hc fun b H2 => b = p (.int (lo + (i : Int))) ∧ Same Hc H2) ∧
      (∀ i : Nat, i < (hi - lo).toNat → p (.int (lo + (i : Int))) = true → ∀ Hc, Same Hb Hc → Cl (te ((wipe σ vs).set j (some (.int (lo + (i : Int)))))) Hc fun y H2 => y = f (.int (lo + (i : Int))) ∧ Same Hc H2) ∧
      ∀ D, Hb D = none → Q (.ref D) (upd Hb D (.lst ((((List.range (hi - lo).toNat).map fun i : Nat => V.int (lo + (i : Int))).filter p).map f)))) : Cl (tLc (iRng2 ta) (gName j) tt te vs σ) H Q := fun H1 e Q' q' =>
  h H1 e _ fun ws Hb H2 ⟨lo, hi, ex, hb, hn, ht, he, q⟩ e2 => ⟨lo, hi, ex, hb, lc_pure (src_rng lo _) e2 trivial hn hw p f (fun i h => ht i h) (fun i h => he i h) q q'⟩
/-- no test -/
theorem t_yes {QB : Bool → Hp → Prop} (q : QB true H) : Cl (tYes σ) H QB := fun H1 e Q' q' => q' _ H H1 q e
end

/-! ### enumerate -/
section
variable {K : PySem.W.Frag} {σ : St} {H H' : Hp} {t : TS} {nx bk ct : St → Hp → Prop} {rt : VK} {g : TG}
theorem s_forEnum {ta : TA} (h : Cl (ta σ) H fun vs Hb => ∃ a xs, vs = [.ref a] ∧ SqL K Hb a xs ∧ ∃ Pv : Nat → St → Hp → Prop, Pv 0 σ Hb ∧ (∀ i σ' Hc, i ≤ xs.length → Pv i σ' Hc → SqL K Hc a xs) ∧
      (∀ (i : Nat) x σ' Hc T, xs[i]? = some x → Pv i σ' Hc → Hc T = none → ClG g (.ref T) σ' (upd Hc T (.tup [.int (i : Int), x])) fun σ2 H2 => S t (Pv (i + 1)) rt nx (Pv (i + 1)) σ2 H2) ∧ ∀ σ' Hc, Pv xs.length σ' Hc → nx σ' Hc) : S (tFor (iEnum K ta) g t) nx rt bk ct σ H := fun H1 e D d1 d2 d3 d4 =>
  h H1 e _ fun vs Hb H2 ⟨a, xs, ex, hs, Pv, h0, hl, hst, hd⟩ e2 => ⟨a, xs, ex, e2.seq hs, fun i m σ' H' => m = xs.length - i ∧ i ≤ xs.length ∧ Up (Pv i) σ' H', ⟨xs.length, by simp, Nat.zero_le _, Hb, e2, h0⟩, by
    rintro i m σ' H' ⟨rfl, hi, Hc, ec, p⟩
    have q := ec.seq (hl i σ' Hc hi p)
    by_cases hlt : i < xs.length
    · refine .inr ⟨⟨xs, xs[i], q, by simp [hlt]⟩, Up (Pv (i + 1)), fun σ2 H2 p' => ⟨xs.length - (i + 1), by omega, rfl, hlt, p'⟩, fun x H3 y => ?_⟩
      obtain ⟨T, v, rfl, hT, rfl, hv⟩ := y
      exact hst i v σ' Hc T (hv xs q) p (ec.free hT) _ (sameUpd ec) _ fun σ2 Hd H4 hS e4 => hS H4 e4 { D with nx := Up (Pv (i + 1)), ct := Up (Pv (i + 1)), bk := D.nx } (fun _ Hb _ q e => ⟨Hb, e, q⟩) d2 d1 (fun _ Hb _ q e => ⟨Hb, e, q⟩)
    · have ei : i = xs.length := by omega
      subst ei
      exact .inl ⟨⟨xs, q, Nat.le_refl _⟩, d1 _ _ _ (hd _ _ p) ec⟩⟩
end
end La

/-! Promises at a base heap; calls, methods, instances; raise, try; isinstance. -/
namespace La
open PySem L2 PySem.Spec PyProof.Rows

/-- a promise at a base heap -/
def spc (P : List V → Hp → VK → XK → Prop) : Sp := fun vs H Q' E' => ∃ (Hb : Hp) (Q : VK) (E : XK), Same Hb H ∧ (∀ v H1 H2, Q v H1 → Same H1 H2 → Q' v H2) ∧ (∀ c d H1 H2, E c d H1 → Same H1 H2 → E' c d H2) ∧ P vs Hb Q E
/-- what is wished at a smaller base serves -/
def UpV (Q : VK) : VK := fun v H => ∃ H0, Same H0 H ∧ Q v H0
abbrev PK' := List V → Hp → VK → XK → Prop
section
variable {P : PK'} {σ : L2.St} {H : Hp} {ta : TA} {to : TE} {Q : VK} {E : XK} {Es : L2.St → XK} {dvs : List V} {C : Addr} {m : Str}
def LeX (E0 E : XK) : Prop := ∀ c d H1 H2, E0 c d H1 → Same H1 H2 → E c d H2
theorem leX0 {E : XK} : LeX L2.E0 E := fun _ _ _ _ h _ => h.elim
theorem c_callE (h : Cl (ta σ) H fun vs H1 => ∃ E1, LeX E1 E ∧ P (vs ++ dvs) H1 Q E1) : Cl (tCall (spc P) dvs E ta σ) H Q := fun H1 e Q' q' =>
  h H1 e _ fun vs Hb H2 ⟨E1, hE, hp⟩ e2 => ⟨Hb, Q, E1, e2, q', hE, hp⟩
theorem c_call (h : Cl (ta σ) H fun vs H1 => P (vs ++ dvs) H1 Q L2.E0) : Cl (tCall (spc P) dvs E ta σ) H Q := c_callE (cl_mono h fun _ _ z => ⟨L2.E0, leX0, z⟩)
theorem c_callS (h : Cl (ta σ) H fun vs H1 => ∃ E1, LeX E1 (Es σ) ∧ P vs H1 Q E1) : Cl (tCallS (spc P) Es ta σ) H Q := fun H1 e Q' q' =>
  h H1 e _ fun vs Hb H2 ⟨E1, hE, hp⟩ e2 => ⟨Hb, Q, E1, e2, q', hE, hp⟩
theorem c_meth (h : Cl (to σ) H fun x H1 => ∃ a dx fs, x = .ref a ∧ H1 a = some (.ins C dx fs) ∧ fs.lookup m = none ∧ Cl (ta σ) H1 fun vs H2 => P (.ref a :: (vs ++ dvs)) H2 Q L2.E0) : Cl (tMeth C m (spc P) dvs E to ta σ) H Q := fun H1 e Q' q' =>
  h H1 e _ fun x Hb H2 ⟨a, dx, fs, ex, ho, hl, hh⟩ e2 => ⟨a, dx, fs, ex, e2 _ _ ho, hl, hh H2 e2 _ fun vs Hc H3 hp e3 => by
    subst ex
    exact ⟨Hc, Q, L2.E0, e3, q', leX0, hp⟩⟩
/-- o.m(..) where what is raised is wished for at the slots -/
def tMethS (C : Addr) (m : Str) (sp : Sp) (dvs : List V) (E : L2.St → XK) (ta : TE) (t : TA) : TE := fun σ H Q => ta σ H fun x H1 => ∃ a dx fs, x = .ref a ∧ H1 a = some (.ins C dx fs) ∧ fs.lookup m = none ∧
  t σ H1 fun vs H2 => sp (x :: (vs ++ dvs)) H2 Q (E σ)
theorem c_methS (h : Cl (to σ) H fun x H1 => ∃ a dx fs, x = .ref a ∧ H1 a = some (.ins C dx fs) ∧ fs.lookup m = none ∧ Cl (ta σ) H1 fun vs H2 => ∃ E1, LeX E1 (Es σ) ∧ P (.ref a :: (vs ++ dvs)) H2 Q E1) : Cl (tMethS C m (spc P) dvs Es to ta σ) H Q := fun H1 e Q' q' =>
  h H1 e _ fun x Hb H2 ⟨a, dx, fs, ex, ho, hl, hh⟩ e2 => ⟨a, dx, fs, ex, e2 _ _ ho, hl, hh H2 e2 _ fun vs Hc H3 ⟨E1, hE, hp⟩ e3 => by
    subst ex
    exact ⟨Hc, Q, E1, e3, q', hE, hp⟩⟩
theorem c_make (h : Cl (ta σ) H fun vs H1 => ∀ x dx, H1 x = none → H1 dx = none → dx ≠ x → P (.ref x :: (vs ++ dvs)) (upd (upd H1 dx (.own x)) x (.ins C dx [])) (fun v H2 => v = .non ∧ Q (.ref x) H2) L2.E0) : Cl (tMake C (spc P) dvs E ta σ) H Q := fun H1 e Q' q' =>
  h H1 e _ fun vs Hb H2 hh e2 x dx hx hdx ne => ⟨_, _, L2.E0, sameUpd (sameUpd e2), fun v Ha Hc ⟨ev, q⟩ ec => ⟨ev, q' _ _ _ q ec⟩, leX0, hh x dx (e2.free hx) (e2.free hdx) ne⟩
/-- C(..) where what is raised is wished for at the slots -/
def tMakeS (C : Addr) (sp : Sp) (dvs : List V) (E : L2.St → XK) (t : TA) : TE := fun σ H Q => t σ H fun vs H1 => ∀ x dx, H1 x = none → H1 dx = none → dx ≠ x →
  sp (.ref x :: (vs ++ dvs)) (upd (upd H1 dx (.own x)) x (.ins C dx [])) (fun v H2 => v = .non ∧ Q (.ref x) H2) (E σ)
theorem c_makeS (h : Cl (ta σ) H fun vs H1 => ∀ x dx, H1 x = none → H1 dx = none → dx ≠ x → ∃ E1, LeX E1 (Es σ) ∧ P (.ref x :: (vs ++ dvs)) (upd (upd H1 dx (.own x)) x (.ins C dx [])) (fun v H2 => v = .non ∧ Q (.ref x) H2) E1) : Cl (tMakeS C (spc P) dvs Es ta σ) H Q := fun H1 e Q' q' =>
  h H1 e _ fun vs Hb H2 hh e2 x dx hx hdx ne => by
    obtain ⟨E1, hE, hp⟩ := hh x dx (e2.free hx) (e2.free hdx) ne
    exact ⟨_, _, E1, sameUpd (sameUpd e2), fun v Ha Hc ⟨ev, q⟩ ec => ⟨ev, q' _ _ _ q ec⟩, hE, hp⟩
end

/-! ### the rules of the machine for tMakeS, tMethS -/
section
variable {X : Cx} {CX : CXT} {k : Nat} {f C : Addr} {fd : FuncData} {ps : List Str} {sp : Sp} {dvs : List V} {ds : List Value} {E : L2.St → XK} {x m : Str} {p pos apos : Pos} {e o : Expr} {es : List Expr} {ta : TE} {t : TA}
theorem run_makeS {pins : List (Addr × Obj)} {σ : L2.St} {H : Hp} {s : Shared} {Q : VK} {us : List Value} {vs : List V} (M : Mk X.K C f) (F : FnOk X.prog X.w X.K X.mg X.base CX k f fd ps sp) (hr : Room (k + 1) X.A) (hb : Binds X.K fd ps ds) (hd : Vals dvs ds)
    (hx : PassesAt CX X σ (E σ)) (I : Inv X pins σ H s) (r : Vals vs us)
    (h : ∀ x dx, H x = none → H dx = none → dx ≠ x → sp (.ref x :: (vs ++ dvs)) (upd (upd H dx (.own x)) x (.ins C dx [])) (fun v H2 => v = .non ∧ Q (.ref x) H2) (E σ)) :
    wpAny (model X.prog X.w) X.A (call (.ref C) us) (EP X pins σ Q) X.xe s := by
  have hq := h (s.heap.objs.size + 1) s.heap.objs.size (I.hok.fresh (Nat.le_succ _)) (I.hok.fresh (Nat.le_refl _)) (Nat.ne_of_lt (Nat.lt_succ_self _))
  have I2 := Inv.made (C := C) I
  have r2 : Vals (V.ref (s.heap.objs.size + 1) :: (vs ++ dvs)) (Value.ref (s.heap.objs.size + 1) :: (us ++ ds)) := .cons rfl (r.append hd)
  have hl : (Value.ref (s.heap.objs.size + 1) :: us ++ ds).length = ps.length := by
    have e := r2.length
    rw [F.len _ _ _ _ hq] at e
    exact e.symm
  refine wpAny_call (make_map (f := f) I.kIn M.makes M.init (beq_iff_eq.mp M.fn) (codeAny_mono (F.run _ X.stack _ _ ⟨Value.ref (s.heap.objs.size + 1) :: us, []⟩ (Value.ref (s.heap.objs.size + 1) :: (us ++ ds)) _ _ (E σ) (hr.make C us [])
    (I2.env0.make C us []) (hb _ (Value.ref (s.heap.objs.size + 1) :: us) I2.kIn hl) r2 hq) fun r s' hq' => ?_))
  cases r with
  | error e => exact hx pins _ _ e s' I2 hq'
  | ok fl =>
    cases fl with
    | ret u =>
      obtain ⟨v, H', I3, rv, ev, q3⟩ := I2.after hq'
      subst ev
      exact ⟨rv, ⟨V.ref (s.heap.objs.size + 1), H', I3, rfl, q3⟩⟩
    | next => exact False.elim hq'
    | brk => exact False.elim hq'
    | cont => exact False.elim hq'
theorem pe_makeS (M : Mk X.K C f) (F : FnOk X.prog X.w X.K X.mg X.base CX k f fd ps sp) (hr : Room (k + 1) X.A) (hg : Gl X x) (hm : X.mg x = some (.ref C)) (hb : Binds X.K fd ps ds) (hd : Vals dvs ds) (hx : ∀ σ, PassesAt CX X σ (E σ))
    (ha : PA X (e :: es) t) (hdb : (x == ("__debug__" : Str)) = false := by decide) (he : starEach (e :: es) X.env = (false, eval e X.env) :: starEach es X.env := by rfl) (hpl : (backTo pos (starEach es X.env)).any (·.1) = false := by rfl) :
    PE X (.Call (.Name x p) (e :: es) [] pos) (tMakeS C sp dvs E t) := by
  refine ⟨fun pins s σ H Q I h => ?_⟩
  refine wpAny_Call_Name_kw (ld_glob I hg hm ?_ hdb)
  refine PySem.W.callWith_K (h₀ := X.base) I.ok.mod.kin M.kp (thn (ha.run pos pins s σ H _ I h) fun us s1 ⟨vs, H1, I1, r, q⟩ => ⟨I1.kIn, ?_⟩) he hpl
  exact run_makeS M F hr hb hd (hx σ) I1 r q
theorem pe_methS {pl : Sem Bool} (he : PE X o ta) (c : Cls X.K C) (hm : Meth X.K C m f) (F : FnOk X.prog X.w X.K X.mg X.base CX k f fd ps sp) (hr : Room k X.A) (hb : Binds X.K fd ps ds) (hd : Vals dvs ds) (hx : ∀ σ, PassesAt CX X σ (E σ)) (ha : PA X (e :: es) t)
    (hst : starEach (e :: es) X.env = (false, eval e X.env) :: starEach es X.env := by rfl) (hpl : (backTo pos (starEach es X.env)).any (·.1) = false := by rfl)
    (ht : eval (.Call (.Attribute o m apos) (e :: es) [] pos) X.env = (do
      let ov ← eval o X.env
      standAt apos.atName
      let (f, first) ← holding [ov] (getMethod ov m pl)
      callWith pos f first (backTo pos (starEach (e :: es) X.env)) (backToKw pos (keywordEach [] X.env))) := by rfl) :
    PE X (.Call (.Attribute o m apos) (e :: es) [] pos) (tMethS C m sp dvs E ta t) := by
  refine ⟨fun pins s σ H Q I h => ?_⟩
  refine PySem.W.methodCall_KW (pl := pl) (thn (he.run pins s σ H _ I h) fun u s1 ⟨x, H1, I1, rx, a, dx, fs, ex, ea, l, q⟩ => ?_) ht
  subst ex
  obtain rfl : u = Value.ref a := rx
  refine getmeth_ok I1 ea c hm l ?_
  refine PySem.W.callWith_K (first := [.ref a]) (h₀ := X.base) I.ok.mod.kin hm.kp (thn (ha.run pos pins s1 σ H1 _ I1 q) fun us s2 ⟨vs, H2, I2, r, q2⟩ => ⟨I2.kIn, ?_⟩) hst hpl
  exact run_fnSD (us := .ref a :: us) (vs := .ref a :: vs) F hr hb hd (hx σ) I2 (.cons rfl r) q2
end

/-! ### defs -/
section
variable {Pg : Program} {w : World} {K : PySem.W.Frag} {mg : Str → Option Value} {base : Heap}
theorem ok_of {x qual : Str} {st : Stmt} {f : Addr} {fd : FuncData} {N ps : List Str} {k : Nat} {P : PK'} (F : Fun K x qual st f fd) (Sc : FnScope N ps (defScope st)) (len : ∀ vs H Q E, P vs H Q E → vs.length = ps.length)
    (body : ∀ (cdv : Value) (A : Around) (outer : List Env) (s : Shared) (H' : Hp) (E' : XK) (vs : List V) (H : Hp) (Q : VK) (E : XK), Room k (A.deeper (envOfC qual (defScope st) s.heap.objs.size f cdv)) → P vs H Q E →
      ∃ t, PSs (cxOf CX0 Pg w K mg base N qual (defScope st) f cdv A outer s H' E').nox (defBody st) t ∧ S t (fun _ H => UpV Q .non H) (UpV Q) (fun _ _ => False) (fun _ _ => False) (start N vs) H) : FnOk Pg w K mg base CX0 (k + 1) f fd ps (spc P) :=
  F.ok Sc (fun vs H Q E ⟨_, _, _, _, _, _, hp⟩ => len _ _ _ _ hp) fun cdv A outer s H' vs Q' E' hr ⟨Hb, Q, E, e, q, x, hp⟩ => by
    obtain ⟨t, ht, hs⟩ := body cdv A outer s H' E' vs Hb Q E hr hp
    exact ⟨t, ht, hs H' e _ (fun _ _ _ ⟨_, e1, z⟩ e2 => q _ _ _ z (e1.trans e2)) (fun _ _ _ ⟨_, e1, z⟩ e2 => q _ _ _ z (e1.trans e2)) (fun _ _ _ z _ => z.elim) (fun _ _ _ z _ => z.elim)⟩
theorem okX_of {x qual : Str} {st : Stmt} {f : Addr} {fd : FuncData} {N ps : List Str} {k : Nat} {P : PK'} (F : Fun K x qual st f fd) (Sc : FnScope N ps (defScope st)) (len : ∀ vs H Q E, P vs H Q E → vs.length = ps.length)
    (body : ∀ (cdv : Value) (A : Around) (outer : List Env) (s : Shared) (H' : Hp) (E' : XK) (vs : List V) (H : Hp) (Q : VK) (E : XK), Room k (A.deeper (envOfC qual (defScope st) s.heap.objs.size f cdv)) → LeX E E' → P vs H Q E →
      ∃ t, PSs (cxOf (L2.CX Pg w) Pg w K mg base N qual (defScope st) f cdv A outer s H' E') (defBody st) t ∧ S t (fun _ H => UpV Q .non H) (UpV Q) (fun _ _ => False) (fun _ _ => False) (start N vs) H) : FnOk Pg w K mg base (L2.CX Pg w) (k + 1) f fd ps (spc P) :=
  F.okX Sc (fun vs H Q E ⟨_, _, _, _, _, _, hp⟩ => len _ _ _ _ hp) fun cdv A outer s H' vs Q' E' hr ⟨Hb, Q, E, e, q, x, hp⟩ => by
    obtain ⟨t, ht, hs⟩ := body cdv A outer s H' E' vs Hb Q E hr x hp
    exact ⟨t, ht, hs H' e _ (fun _ _ _ ⟨_, e1, z⟩ e2 => q _ _ _ z (e1.trans e2)) (fun _ _ _ ⟨_, e1, z⟩ e2 => q _ _ _ z (e1.trans e2)) (fun _ _ _ z _ => z.elim) (fun _ _ _ z _ => z.elim)⟩
end

/-! ### raise, try -/
def tRaise0 (C : Addr) (W : WX) : TS := fun _ σ H => W (.ref C) none σ H
section
variable {X : Cx} {C : Addr} {bmB : List Value} {B newId initId : String}
theorem ps_raise0 {W : WX} {x m : Str} {j : Nat} {p p2 pos pos2 : Pos} (hc : X.calm = true) (tk : Takes X W) (F : ExcBaseFacts B newId initId bmB) (q : PySem.W.excIn X.K C bmB newId = true) (gC : X.mg x = some (.ref C)) (kC : PySem.W.keepIn X.K (.ref C) = true) (r : Raises X (.ref C)) (hg : Gl X x := by rfl)
    (hdb : (x == ("__debug__" : Str)) = false := by decide) : PS X (.Raise (some (.Call (.Name x p) [.Constant (.str m) j p2] [] pos)) none pos2) (tRaise0 C W) := ps_raise hc tk (pmk_own F q gC kC r hg hdb)
end
def tTryAs (K : PySem.W.Frag) (c : Value) (i : Nat) (ts : Addr → Value → Option Addr → TS) (tb : WX → TS) : TS := fun D σ H => tb (wAs K c i ts (fun _ _ _ _ => False) D) D σ H
def tTryOnly (K : PySem.W.Frag) (c : Value) (ts : Addr → Value → Option Addr → TS) (tb : WX → TS) : TS := fun D σ H => tb (wOnly K c ts (fun _ _ _ _ => False) D) D σ H
section
variable {X : Cx} {x n : Str} {c : Value} {i : Nat} {body suite : List Stmt} {b₀ : Stmt} {np pos pos' : Pos} {tb : WX → TS} {ts : Addr → Value → Option Addr → TS}
theorem ps_tryAs (hs : X.stack = X.env :: X.outer) (hf : X.env.frame = some X.env.locals) (hN : X.N.Nodup) (hi : X.N[i]? = some n) (hln : X.env.kindOf n = some .local) (hc : Names X x c)
    (hb : ∀ (W : WX) (pn : List (Addr × Obj)) (xe : Value → Shared → Prop), Takes (X.tr pn xe) W → PassesOwn (model X.prog X.w) X.A X.env xe → PSs (X.tr pn xe) body (tb W))
    (hsu : ∀ (a : Addr) (oe : Obj) (cls : Value) (d : Option Addr) (pn : List (Addr × Obj)), Zc cls d oe → (∃ vs, oe.data = .fields vs) → PSs (X.suite a ((a, oe) :: pn)) (b₀ :: suite) (ts a cls d)) :
    PS X (.Try body [.ExceptHandler (some (.Name x np)) (some n) (b₀ :: suite) pos'] [] [] pos) (tTryAs X.K c i ts tb) := ps_try_as hs hf hN hi hln hc L2.takes0 hb hsu
theorem ps_tryOnly (hs : X.stack = X.env :: X.outer) (hf : X.env.frame = some X.env.locals) (hc : Names X x c)
    (hb : ∀ (W : WX) (pn : List (Addr × Obj)) (xe : Value → Shared → Prop), Takes (X.tr pn xe) W → PassesOwn (model X.prog X.w) X.A X.env xe → PSs (X.tr pn xe) body (tb W))
    (hsu : ∀ (a : Addr) (oe : Obj) (cls : Value) (d : Option Addr) (pn : List (Addr × Obj)), Zc cls d oe → (∃ vs, oe.data = .fields vs) → PSs (X.suite a ((a, oe) :: pn)) (b₀ :: suite) (ts a cls d)) :
    PS X (.Try body [.ExceptHandler (some (.Name x np)) none (b₀ :: suite) pos'] [] [] pos) (tTryOnly X.K c ts tb) := ps_try_only hs hf hc L2.takes0 hb hsu
end
section
variable {K : PySem.W.Frag} {σ : L2.St} {H H' : Hp} {nx bk ct : L2.St → Hp → Prop} {rt : VK} {c : Value} {i : Nat} {ts : Addr → Value → Option Addr → TS} {tb : WX → TS}
theorem s_raise0 {C : Addr} {W : WX} (h : ∀ H1, Same H H1 → W (.ref C) none σ H1) : S (tRaise0 C W) nx rt bk ct σ H := fun H1 e D _ _ _ _ => h H1 e
/-- what the clause does with an exception of the class cls, at a base heap -/
def HasAs (K : PySem.W.Frag) (c : Value) (i : Nat) (ts : Addr → Value → Option Addr → TS) (nx : L2.St → Hp → Prop) (rt : VK) (bk ct : L2.St → Hp → Prop) (cls : Value) (d : Option Addr) (σ : L2.St) (H : Hp) : Prop :=
  PySem.W.exmOne K cls c = some true ∧ ∀ a, H a = none → S (ts a cls d) (fun σ' H' => nx (σ'.set i none) H') rt (fun σ' H' => bk (σ'.set i none) H') (fun σ' H' => ct (σ'.set i none) H') (σ.set i (some (.ref a))) H
theorem s_tryAs (h : ∀ W : WX, (∀ cls d σ' Hb H2, HasAs K c i ts nx rt bk ct cls d σ' Hb → Same Hb H2 → W cls d σ' H2) → S (tb W) nx rt bk ct σ H) : S (tTryAs K c i ts tb) nx rt bk ct σ H := fun H1 e D d1 d2 d3 d4 =>
  h _ (fun cls d σ' Hb H2 ⟨hm, hs⟩ e2 => ⟨true, hm, fun _ a ha => hs a (e2.free ha) H2 e2 _ (fun _ _ _ q e => d1 _ _ _ q e) d2 (fun _ _ _ q e => d3 _ _ _ q e) (fun _ _ _ q e => d4 _ _ _ q e), fun z => nomatch z⟩) H1 e D d1 d2 d3 d4
def HasOnly (K : PySem.W.Frag) (c : Value) (ts : Addr → Value → Option Addr → TS) (nx : L2.St → Hp → Prop) (rt : VK) (bk ct : L2.St → Hp → Prop) (cls : Value) (d : Option Addr) (σ : L2.St) (H : Hp) : Prop :=
  PySem.W.exmOne K cls c = some true ∧ ∀ a, H a = none → S (ts a cls d) nx rt bk ct σ H
theorem s_tryOnly (h : ∀ W : WX, (∀ cls d σ' Hb H2, HasOnly K c ts nx rt bk ct cls d σ' Hb → Same Hb H2 → W cls d σ' H2) → S (tb W) nx rt bk ct σ H) : S (tTryOnly K c ts tb) nx rt bk ct σ H := fun H1 e D d1 d2 d3 d4 =>
  h _ (fun cls d σ' Hb H2 ⟨hm, hs⟩ e2 => ⟨true, hm, fun _ a ha => hs a (e2.free ha) H2 e2 _ d1 d2 d3 d4, fun z => nomatch z⟩) H1 e D d1 d2 d3 d4
end

/-! ### isinstance -/
theorem tyOf_same {K : PySem.W.Frag} {H H' : Hp} {x : V} {t : Value} (e : Same H H') (h : TyOf K H x t) : TyOf K H' x t := by
  cases h with
  | non => exact .non
  | bl b => exact .bl b
  | int i => exact .int i
  | str y => exact .str y
  | flt y => exact .flt y
  | lst ea => exact .lst (e _ _ ea)
  | frz ea => exact .frz (e _ _ ea)
  | tup ea => exact .tup (e _ _ ea)
  | dK ea => exact .dK (e _ _ ea)
  | dT ea => exact .dT (e _ _ ea)
  | ins ea cl ha hn htk hm => exact .ins (e _ _ ea) cl ha hn htk hm
section
variable {K : PySem.W.Frag} {H : Hp} {Q : VK}
theorem b_isi {x c : V} {t u : Value} {b : Bool} (k : ClsV c u) (ty : TyOf K H x t) (hk : PySem.W.kitOne K t u = some b) (q : Q (.bl b) H) : Cl (rIsi K [x, c]) H Q := fun H1 e Q' q' => ⟨x, c, t, u, b, rfl, k, .base (tyOf_same e ty), hk, q' _ _ _ q e⟩
/-- of the exception that a suite holds, whatever its class -/
def rIsX (K : PySem.W.Frag) (a : Addr) (cls : Value) (d : Option Addr) : List V → Hp → VK → Prop := fun xs H Q => ∃ (D : Addr) (c : V) (cv : Value) (b : Bool), cls = .ref D ∧ d = none ∧ ExcC K D ∧ xs = [.ref a, c] ∧ ClsV c cv ∧ PySem.W.kitOne K (.ref D) cv = some b ∧ Q (.bl b) H
theorem call_isX {X : Cx} {a : Addr} {cls : Value} {d : Option Addr} {oe : Obj} {pn : List (Addr × Obj)} (hz : Zc cls d oe) (hf : ∃ vs, oe.data = .fields vs) : CallR (X.suite a ((a, oe) :: pn)) (.builtin "isinstance") (rIsX X.K a cls d) := by
  intro pins s σ H xs us Q I r h
  obtain ⟨D, c, cv, b, rfl, rfl, hC, rfl, k, e, q⟩ := h
  exact call_isE hC hz hf pins s σ H _ us Q I r ⟨c, cv, b, rfl, fun u ru => k.eq ru, e, q⟩
theorem b_isX {a D : Addr} {c : V} {cv : Value} {b : Bool} (hC : ExcC K D) (k : ClsV c cv) (hk : PySem.W.kitOne K (.ref D) cv = some b) (q : Q (.bl b) H) : Cl (rIsX K a (.ref D) none [.ref a, c]) H Q := fun H1 e Q' q' => ⟨D, c, cv, b, rfl, rfl, hC, rfl, k, hk, q' _ _ _ q e⟩
end

/-! ### names for the rules of built-in calls -/
section
variable {X : Cx}
theorem call_lenN : CallR X (.builtin "len") (Evl.rLenS X.K) := call_len_seq
theorem call_listN : CallR X (.type "list") (Evl.rListS X.K) := call_list_of
theorem call_tupN : CallR X (.type "tuple") (rTupOf X.K) := call_tuple_of
theorem call_max2N (hc : X.calm = true) : CallR X (.builtin "max") Evl.rMax2 := call_max2 hc
theorem call_min2N (hc : X.calm = true) : CallR X (.builtin "min") rMin2 := call_min2 hc
theorem call_absN : CallR X (.builtin "abs") rAbs := call_abs
theorem op_eqDK {K : PySem.W.Frag} (hK : X.K = K) (hu : X.A.units + 64 < cLine) : OpR X (compareOp .Eq) (rEqD K) := hK ▸ op_eqD hu
theorem op_neDK {K : PySem.W.Frag} (hK : X.K = K) (hu : X.A.units + 64 < cLine) : OpR X (compareOp .NotEq) (rNeD K) := hK ▸ op_neD hu
theorem pe_globI {x : Str} {i : Int} {pos : Pos} (hg : Gl X x) (hm : ∃ t, X.mg x = some (.int i t)) (hd : (x == ("__debug__" : Str)) = false := by decide) : PE X (.Name x pos) (tC (.int i)) := by
  obtain ⟨t, hm⟩ := hm
  exact pe_glob hg hm ⟨t, rfl⟩ hd
end
section
variable {Pg : Program} {w : World} {K : PySem.W.Frag} {mg : Str → Option Value} {base : Heap}
theorem okDX_of {x qual : Str} {st : Stmt} {dvs : List V} {kws : List (Str × V)} {f : Addr} {fd : FuncData} {N ps : List Str} {k : Nat} {P : PK'} (F : FunD K x qual (defArgs st) (defBody st) (defScope st) dvs kws f fd) (Sc : FnScope N ps (defScope st)) (len : ∀ vs H Q E, P vs H Q E → vs.length = ps.length)
    (body : ∀ (cdv : Value) (A : Around) (outer : List Env) (s : Shared) (H' : Hp) (E' : XK) (vs : List V) (H : Hp) (Q : VK) (E : XK), Room k (A.deeper (envOfC qual (defScope st) s.heap.objs.size f cdv)) → LeX E E' → P vs H Q E →
      ∃ t, PSs (cxOf (L2.CX Pg w) Pg w K mg base N qual (defScope st) f cdv A outer s H' E') (defBody st) t ∧ S t (fun _ H => UpV Q .non H) (UpV Q) (fun _ _ => False) (fun _ _ => False) (start N vs) H) : FnOk Pg w K mg base (L2.CX Pg w) (k + 1) f fd ps (spc P) :=
  F.ok Sc (fun vs H Q E ⟨_, _, _, _, _, _, hp⟩ => len _ _ _ _ hp) fun cdv A outer s H' vs Q' E' hr ⟨Hb, Q, E, e, q, x, hp⟩ => by
    obtain ⟨t, ht, hs⟩ := body cdv A outer s H' E' vs Hb Q E hr x hp
    exact ⟨t, ht, hs H' e _ (fun _ _ _ ⟨_, e1, z⟩ e2 => q _ _ _ z (e1.trans e2)) (fun _ _ _ ⟨_, e1, z⟩ e2 => q _ _ _ z (e1.trans e2)) (fun _ _ _ z _ => z.elim) (fun _ _ _ z _ => z.elim)⟩
end

/-! ### the ladder: an instance with two fields -/
def lf (n : Int) (t : Addr) : List (Str × V) := [("posts", V.int n), ("rungs", V.ref t)]
theorem pr_ne : ¬ (("posts" : Str) = "rungs") := by decide +kernel
theorem lf_make (n : Int) (t : Addr) : putF "rungs" (.ref t) (putF "posts" (.int n) []) = lf n t := by
  show (if ("posts" : Str) = "rungs" then [(("posts" : Str), V.ref t)] else (("posts" : Str), V.int n) :: putF "rungs" (V.ref t) []) = lf n t
  rw [if_neg pr_ne] <;> rfl
theorem lf_posts (n : Int) (t : Addr) : (lf n t).lookup ("posts" : Str) = some (.int n) := by
  unfold lf
  simp [List.lookup]
theorem lf_rungs (n : Int) (t : Addr) : (lf n t).lookup ("rungs" : Str) = some (.ref t) := by
  have h : (("rungs" : Str) == "posts") = false := by decide +kernel
  unfold lf
  simp [List.lookup, h]
theorem lf_no (n : Int) (t : Addr) {m : Str} (h : (m == "posts") = false) (h2 : (m == "rungs") = false) : (lf n t).lookup m = none := by
  unfold lf
  simp [List.lookup, h, h2]
/-- at p stands a ladder of n posts with the rungs rs -/
def Lad (K : PySem.W.Frag) (C : Addr) (H : Hp) (p : Addr) (n : Int) (rs : List Int) : Prop := ∃ dx t, H p = some (.ins C dx (lf n t)) ∧ H t = some (.tup (rs.map V.int))
theorem Lad.same {K : PySem.W.Frag} {C : Addr} {H H' : Hp} {p : Addr} {n : Int} {rs : List Int} (e : Same H H') (h : Lad K C H p n rs) : Lad K C H' p n rs := by
  obtain ⟨dx, t, h1, h2⟩ := h
  exact ⟨dx, t, e _ _ h1, e _ _ h2⟩
section
variable {K : PySem.W.Frag} {C : Addr} {σ : L2.St} {H : Hp} {ta : TE} {Q : VK}
/-- what is wished of a ladder's posts, of its rungs -/
def FP (K : PySem.W.Frag) (C : Addr) (H : Hp) (Q : VK) (x : V) : Prop := ∃ p n rs, x = .ref p ∧ Lad K C H p n rs ∧ Q (.int n) H
def FR (K : PySem.W.Frag) (C : Addr) (H : Hp) (Q : VK) (x : V) : Prop := ∃ p n rs, x = .ref p ∧ Lad K C H p n rs ∧ ∀ t, H t = some (.tup (rs.map V.int)) → Q (.ref t) H
theorem c_posts (hc : Cls K C) (hn : NoAttr K C "posts") (h : Cl (ta σ) H fun x H1 => FP K C H1 Q x) : Cl (tFld K ta "posts" σ) H Q :=
  c_fld (cl_mono h fun x Hb ⟨p, n, rs, ex, ⟨dx, t, h1, h2⟩, q⟩ => ⟨p, C, dx, lf n t, .int n, ex, h1, hc, hn, lf_posts n t, q⟩)
theorem c_rungs (hc : Cls K C) (hn : NoAttr K C "rungs") (h : Cl (ta σ) H fun x H1 => FR K C H1 Q x) : Cl (tFld K ta "rungs" σ) H Q :=
  c_fld (cl_mono h fun x Hb ⟨p, n, rs, ex, ⟨dx, t, h1, h2⟩, q⟩ => ⟨p, C, dx, lf n t, .ref t, ex, h1, hc, hn, lf_rungs n t, q t h2⟩)
theorem fp_intro {p : Addr} {n : Int} {rs : List Int} (h : Lad K C H p n rs) (q : Q (.int n) H) : FP K C H Q (.ref p) := ⟨p, n, rs, rfl, h, q⟩
theorem fr_intro {p : Addr} {n : Int} {rs : List Int} (h : Lad K C H p n rs) (q : ∀ t, H t = some (.tup (rs.map V.int)) → Q (.ref t) H) : FR K C H Q (.ref p) := ⟨p, n, rs, rfl, h, q⟩
end

/-! ### facts of the written part -/
section
variable {K : PySem.W.Frag}
theorem kit_self {C : Addr} : PySem.W.kitOne K (.ref C) (.ref C) = some true := by
  unfold PySem.W.kitOne
  rw [if_pos (by simp)]
theorem kit_sub {C D : Addr} {b : Bool} (hi : PySem.W.isClsIn K C = true) (ht : PySem.W.typeIn K (.ref C) = some (.type "type")) (hs : PySem.W.subIn K (.ref D) (.ref C) = some b) (hb : D = C → b = true) : PySem.W.kitOne K (.ref D) (.ref C) = some b := by
  unfold PySem.W.kitOne
  by_cases e : D = C
  · subst e
    rw [if_pos (by simp), hb rfl]
  · have hne : ¬ ((Value.ref D == Value.ref C) = true) := by simpa using e
    rw [if_neg hne]
    have h2 : ((PySem.W.clsIn K C).isSome && PySem.W.typeIn K (.ref C) == some (.type "type")) = true := by
      have h2' : (PySem.W.clsIn K C).isSome = true := hi
      rw [h2', ht] <;> rfl
    show (if ((PySem.W.clsIn K C).isSome && PySem.W.typeIn K (.ref C) == some (.type "type")) = true then PySem.W.subIn K (.ref D) (.ref C) else none) = some b
    rw [if_pos h2]
    exact hs
theorem kit_ve {D : Addr} (hs : PySem.W.subIn K (.ref D) (.type "ValueError") = some true) : PySem.W.kitOne K (.ref D) (.type "ValueError") = some true := by
  unfold PySem.W.kitOne
  have hne : ¬ ((Value.ref D == Value.type "ValueError") = true) := by simp
  rw [if_neg hne]
  show (if PySem.W.kitMeta "ValueError" = true then PySem.W.subIn K (.ref D) (.type "ValueError") else none) = some true
  rw [if_pos (by decide +kernel)]
  exact hs
theorem binds3 {x qual : Str} {params : Arguments} {body : List Stmt} {scope : Scope} {f : Addr} {fd : FuncData} {p0 p1 p2 : Str} (F : FunD K x qual params body scope [.non] [] f fd)
    (h : ∀ (T : Addr) (kV doc pm : Value) (an : Option Addr) (cdv ct : Value) (us its : List Value), us.length = 3 → its.length = 1 →
      ∃ k, bindArgs (PySem.W.fnOf x qual params body scope (.ref T) kV doc pm an cdv ct) ⟨us, []⟩ = seqItems? (.ref T) >>= k ∧ k (some its.toArray) = pure ([p0, p1, p2].zip (us ++ its.drop 1))) : Binds K fd [p0, p1, p2] [] := by
  obtain ⟨ds, hv, hb⟩ := F.binds1 (ps := [p0, p1, p2]) 3 1 (by decide) rfl h
  cases hv
  exact hb
theorem binds2d {x qual : Str} {params : Arguments} {body : List Stmt} {scope : Scope} {f : Addr} {fd : FuncData} {p0 p1 p2 : Str} (F : FunD K x qual params body scope [.non] [] f fd)
    (h : ∀ (T : Addr) (kV doc pm : Value) (an : Option Addr) (cdv ct : Value) (us its : List Value), us.length = 2 → its.length = 1 →
      ∃ k, bindArgs (PySem.W.fnOf x qual params body scope (.ref T) kV doc pm an cdv ct) ⟨us, []⟩ = seqItems? (.ref T) >>= k ∧ k (some its.toArray) = pure ([p0, p1, p2].zip (us ++ its.drop 0))) : Binds K fd [p0, p1, p2] [.none] := by
  obtain ⟨ds, hv, hb⟩ := F.binds1 (ps := [p0, p1, p2]) 2 0 (by decide) rfl h
  cases hv with
  | cons r1 r2 =>
    cases r2
    cases r1
    exact hb
end

/-! ### look-ups in a base heap -/
section
variable {H H' H1 : Hp} {a p l : Addr} {o u : HO}
/-- nothing lies there yet -/
def Free (H : Hp) (p : Addr) : Prop := H p = none
theorem ne_of_free (h : H a = some o) (f : Free H p) : a ≠ p := ne_of_none h f
theorem same_look (e : Same H H1) (h : H a = some o) : H1 a = some o := e _ _ h
theorem same_step (e : Same H H1) (hp : H1 p = none) : Same H (upd H1 p u) := e.trans (same_new hp)
theorem same_mut (e : Same H H1) (hl : H l = none) : Same H (upd H1 l u) := fun b o h => by
  rw [upd_ne (ne_of_none h hl)]
  exact e b o h
theorem free_of (e : Same H H') (f : Free H' p) : Free H p := e.free f
theorem same_mutF (e : Same H H1) (hl : Free H l) : Same H (upd H1 l u) := same_mut e hl
theorem same_stepF (hp : Free H1 p) (e : Same H H1) : Same H (upd H1 p u) := same_step e hp
theorem upd_oldF (hp : Free H p) (h : H a = some o) : upd H p u a = some o := by
  rw [upd_ne (ne_of_none h hp)]
  exact h
theorem upd_mutF (hl : a ≠ l) (h : H a = some o) : upd H l u a = some o := by
  rw [upd_ne hl]
  exact h
theorem upd_old (h : H a = some o) (hp : H p = none) : upd H p u a = some o := by
  rw [upd_ne (ne_of_none h hp)]
  exact h
theorem upd_mut (h : H a = some o) (hl : a ≠ l) : upd H l u a = some o := by
  rw [upd_ne hl]
  exact h
theorem ex_bl {b : Bool} {QB : Bool → Prop} (q : QB b) : ∃ k, V.bl b = .bl k ∧ QB k := ⟨b, rfl, q⟩
theorem ex_int {i : Int} {QO : Int → Prop} (q : QO i) : ∃ k, V.int i = .int k ∧ QO k := ⟨i, rfl, q⟩
theorem ifd {p : Prop} [Decidable p] {A B : Prop} (h1 : p → A) (h2 : ¬ p → B) : (decide p = true → A) ∧ (decide p = false → B) := ⟨fun h => h1 (of_decide_eq_true h), fun h => h2 (of_decide_eq_false h)⟩
theorem ifn {p : Prop} [Decidable p] {A B : Prop} (h1 : ¬ p → A) (h2 : p → B) : ((!decide p) = true → A) ∧ ((!decide p) = false → B) := ⟨fun h => h1 (by simpa using h), fun h => h2 (by simpa using h)⟩
/-- a test whose answer is known -/
theorem ifT {b : Bool} {A B : Prop} (e : b = true) (h : A) : (b = true → A) ∧ (b = false → B) := ⟨fun _ => h, fun z => by rw [e] at z; cases z⟩
theorem ifF {b : Bool} {A B : Prop} (e : b = false) (h : B) : (b = true → A) ∧ (b = false → B) := ⟨fun z => by (rw [e] at z; cases z), fun _ => h⟩
theorem if2 {b : Bool} {A B : Prop} (h1 : b = true → A) (h2 : b = false → B) : (b = true → A) ∧ (b = false → B) := ⟨h1, h2⟩
theorem at_int {ns : List Int} {k : Nat} (h : k < ns.length) : atI (ns.map V.int) (k : Int) = some (.int (ns.getD k 0)) := atI_nat (by
  rw [List.getElem?_map, List.getElem?_eq_getElem h, List.getD_eq_getElem?_getD, List.getElem?_eq_getElem h]
  rfl)
end
theorem filter_true {α : Type} (xs : List α) : (xs.filter fun _ => true) = xs := List.filter_eq_self.mpr fun _ _ => rfl

/-! ### tests that leave the base as it is -/
/-- the answer is b, the base stays -/
def Pu {α : Type} (f : Hp → (α → Hp → Prop) → Prop) (H : Hp) (b : α) : Prop := ∀ H1, Same H H1 → Cl f H1 fun a H2 => a = b ∧ Same H1 H2
section
variable {σ : L2.St} {H H' : Hp} {tt tu : TT} {QB : Bool → Hp → Prop} {ta tb : TE} {Q : VK} {t u : TS} {nx bk ct : L2.St → Hp → Prop} {rt : VK}
theorem s_base (e : Same H H') (h : S t nx rt bk ct σ H) : S t nx rt bk ct σ H' := fun H1 e1 => h H1 (e.trans e1)
theorem pu_use {α : Type} {f : Hp → (α → Hp → Prop) → Prop} {b : α} {Q : α → Hp → Prop} (h : Pu f H b) (q : ∀ Hb, Same H Hb → Q b Hb) : Cl f H Q := cl_mono (h H (Same.refl H)) fun c Hb ⟨ec, s⟩ => ec ▸ q Hb s
theorem pu_base {α : Type} {f : Hp → (α → Hp → Prop) → Prop} {b : α} (e : Same H H') (h : Pu f H b) : Pu f H' b := fun H1 e1 => h H1 (e.trans e1)
theorem t_orP {a b : Bool} (h1 : Pu (tt σ) H a) (h2 : a = false → Pu (tu σ) H b) (q : ∀ Hb, Same H Hb → QB (a || b) Hb) : Cl (tOr tt tu σ) H QB := t_or (pu_use h1 fun Hb s => by
  cases a with
  | true => exact ⟨fun _ => q Hb s, fun z => nomatch z⟩
  | false => exact ⟨fun z => (nomatch z), fun _ => pu_use (pu_base s (h2 rfl)) fun Hc s2 => q Hc (s.trans s2)⟩)
theorem t_andP {a b : Bool} (h1 : Pu (tt σ) H a) (h2 : a = true → Pu (tu σ) H b) (q : ∀ Hb, Same H Hb → QB (a && b) Hb) : Cl (tAnd tt tu σ) H QB := t_and (pu_use h1 fun Hb s => by
  cases a with
  | false => exact ⟨fun z => (nomatch z), fun _ => q Hb s⟩
  | true => exact ⟨fun _ => pu_use (pu_base s (h2 rfl)) fun Hc s2 => q Hc (s.trans s2), fun z => nomatch z⟩)
theorem c_orP {a b : Bool} (h1 : Pu (ta σ) H (.bl a)) (h2 : a = false → Pu (tb σ) H (.bl b)) (q : ∀ Hb, Same H Hb → Q (.bl (a || b)) Hb) : Cl (tOrV ta tb σ) H Q := c_orV (pu_use h1 fun Hb s => by
  cases a with
  | true => exact ⟨true, rfl, fun _ => q Hb s, fun z => nomatch z⟩
  | false => exact ⟨false, rfl, fun z => (nomatch z), fun _ => pu_use (pu_base s (h2 rfl)) fun Hc s2 => q Hc (s.trans s2)⟩)
theorem c_andP {a b : Bool} (h1 : Pu (ta σ) H (.bl a)) (h2 : a = true → Pu (tb σ) H (.bl b)) (q : ∀ Hb, Same H Hb → Q (.bl (a && b)) Hb) : Cl (tAndV ta tb σ) H Q := c_andV (pu_use h1 fun Hb s => by
  cases a with
  | false => exact ⟨false, rfl, fun z => (nomatch z), fun _ => q Hb s⟩
  | true => exact ⟨true, rfl, fun _ => pu_use (pu_base s (h2 rfl)) fun Hc s2 => q Hc (s.trans s2), fun z => nomatch z⟩)
theorem s_ifP {b : Bool} (h : Pu (tt σ) H b) (q : (b = true → S t nx rt bk ct σ H) ∧ (b = false → S u nx rt bk ct σ H)) : S (tIfS tt t u) nx rt bk ct σ H :=
  s_if (pu_use h fun Hb s => ⟨fun e => s_base s (q.1 e), fun e => s_base s (q.2 e)⟩)
theorem c_ifP {b : Bool} (h : Pu (tt σ) H b) (q : (b = true → Cl (ta σ) H Q) ∧ (b = false → Cl (tb σ) H Q)) : Cl (tIf tt ta tb σ) H Q :=
  c_if (pu_use h fun Hb s => ⟨fun e => cl_base s (q.1 e), fun e => cl_base s (q.2 e)⟩)
end
/-- what is wished of a method's thing -/
def BmW (K : PySem.W.Frag) (T : String) (x : V) (H : Hp) (P : Prop) : Prop := (∀ H2, Same H H2 → tyV K T x H2) ∧ P
section
variable {K : PySem.W.Frag} {σ : L2.St} {H : Hp} {Q : VK}
theorem bm_list {a : Addr} {xs : List V} {P : Prop} (h : SqL K H a xs) (q : P) : BmW K "list" (.ref a) H P := ⟨ty_list h, q⟩
theorem c_bmW {T : String} {r : V → List V → Hp → VK → Prop} {ta : TA} {to : TE} (h : Cl (to σ) H fun x H1 => BmW K T x H1 (Cl (ta σ) H1 fun vs H2 => Cl (r x vs) H2 Q)) : Cl (tBM K T r to ta σ) H Q := c_bm h
theorem c_bm0W {T : String} {r : V → List V → Hp → VK → Prop} {to : TE} (h : Cl (to σ) H fun x H1 => BmW K T x H1 (Cl (r x []) H1 Q)) : Cl (tBM0 K T r to σ) H Q := c_bm0 h
end
theorem r_gt {i j : Int} {H : Hp} {Q : VK} (q : Q (.bl (decide (j < i))) H) : Cl (L2.rGt (.int i) (.int j)) H Q := r_I0 q
theorem r_ge {i j : Int} {H : Hp} {Q : VK} (q : Q (.bl (decide (j ≤ i))) H) : Cl (L2.rGe (.int i) (.int j)) H Q := r_I0 q
/-- a word between a statement and the rest -/
theorem s_cut {t : TS} {nx bk ct : L2.St → Hp → Prop} {rt : VK} {σ : L2.St} {H : Hp} (M : L2.St → Hp → Prop) (h : S t M rt bk ct σ H) (k : ∀ σ' H', M σ' H' → nx σ' H') : S t nx rt bk ct σ H := fun H1 e D d1 d2 d3 d4 =>
  h H1 e D (fun σ' Hb H2 m e2 => d1 σ' Hb H2 (k σ' Hb m) e2) d2 d3 d4

/-! ### isinstance, the usual answers -/
section
variable {K : PySem.W.Frag} {H : Hp} {Q : VK}
theorem isi_int_int {i : Int} (q : Q (.bl true) H) : Cl (rIsi K [.int i, .ty "int"]) H Q := b_isi (b := true) (.ty "int") (.int i) (kit_ty (by decide +kernel)) q
theorem isi_int_bool {i : Int} (q : Q (.bl false) H) : Cl (rIsi K [.int i, .ty "bool"]) H Q := b_isi (b := false) (.ty "bool") (.int i) (kit_ty (by decide +kernel)) q
theorem isi_bl_bool {i : Bool} (q : Q (.bl true) H) : Cl (rIsi K [.bl i, .ty "bool"]) H Q := b_isi (b := true) (.ty "bool") (.bl i) (kit_ty (by decide +kernel)) q
theorem isi_str_str {x : Str} (q : Q (.bl true) H) : Cl (rIsi K [.str x, .ty "str"]) H Q := b_isi (b := true) (.ty "str") (.str x) (kit_ty (by decide +kernel)) q
theorem isi_list {a : Addr} {xs : List V} (h : H a = some (.lst xs)) (q : Q (.bl true) H) : Cl (rIsi K [.ref a, .ty "list"]) H Q := b_isi (b := true) (.ty "list") (.lst h) (kit_ty (by decide +kernel)) q
theorem isi_tuple {a : Addr} {xs : List V} (h : H a = some (.tup xs)) (q : Q (.bl true) H) : Cl (rIsi K [.ref a, .ty "tuple"]) H Q := b_isi (b := true) (.ty "tuple") (.tup h) (kit_ty (by decide +kernel)) q
theorem isi_lad {p C : Addr} {n : Int} {rs : List Int} (hk : PySem.W.kitOne K (.ref C) (.ref C) = some true) (ty : ∀ (H : Hp) (p dx : Addr) (fs : List (Str × V)), H p = some (.ins C dx fs) → TyOf K H (.ref p) (.ref C)) (h : Lad K C H p n rs) (q : Q (.bl true) H) : Cl (rIsi K [.ref p, .ref C]) H Q := by
  obtain ⟨dx, t, h1, _⟩ := h
  exact b_isi (b := true) (.own C) (ty H p dx _ h1) hk q
end

/-! ### an item of a list of ints at a natural place -/
section
variable {K : PySem.W.Frag} {H : Hp} {Q : VK} {a : Addr} {ns : List Int} {i : Nat}
theorem ixT_int (h : SqT K H a (ns.map V.int)) (hi : i < ns.length) (q : Q (.int (ns.getD i 0)) H) : Cl (rIxT K (.ref a) (.int (i : Int))) H Q := r_ixT h (at_int hi) q
theorem ixL_int (h : SqL K H a (ns.map V.int)) (hi : i < ns.length) (q : Q (.int (ns.getD i 0)) H) : Cl (rIxL K (.ref a) (.int (i : Int))) H Q := r_ixL h (at_int hi) q
end
/-- a new thing is handed back -/
theorem up_new {H Hc : Hp} {p : Addr} {o : HO} {Q : VK} (q : ∀ p, H p = none → Q (.ref p) (upd H p o)) (e : Same H Hc) (h0 : H p = none) (h : Hc p = some o) : UpV Q (.ref p) Hc := ⟨upd H p o, fun b u z => by
  by_cases w : b = p
  · subst w
    rw [upd_same] at z
    cases z
    exact h
  · rw [upd_ne w] at z
    exact e _ _ z, q p h0⟩
end La

/-! Ladders in plain terms: who goes where. -/
namespace Lm
def across (r p : Int) : Int := if p = r then p + 1 else if p = r + 1 then r else p
theorem across_cases (r p : Int) : (p = r ∧ across r p = r + 1) ∨ (p = r + 1 ∧ across r p = r) ∨ (p ≠ r ∧ p ≠ r + 1 ∧ across r p = p) := by
  unfold across
  split
  · exact .inl (by omega)
  · split
    · exact .inr (.inl (by omega))
    · exact .inr (.inr (by omega))
theorem across_inv (r p : Int) : across r (across r p) = p := by
  have h1 := across_cases r p
  have h2 := across_cases r (across r p)
  omega
theorem across_ok {r p n : Int} (hr : 0 ≤ r ∧ r ≤ n - 2) (hp : 0 ≤ p ∧ p < n) : 0 ≤ across r p ∧ across r p < n := by
  have h1 := across_cases r p
  omega
def fwd (rs : List Int) (w : Int) : Int := rs.foldl (fun p r => across r p) w
def bwd (rs : List Int) (p : Int) : Int := rs.foldr (fun r p => across r p) p
theorem fwd_nil (w : Int) : fwd [] w = w := rfl
theorem fwd_cons (r : Int) (rs : List Int) (w : Int) : fwd (r :: rs) w = fwd rs (across r w) := rfl
theorem bwd_nil (w : Int) : bwd [] w = w := rfl
theorem bwd_cons (r : Int) (rs : List Int) (w : Int) : bwd (r :: rs) w = across r (bwd rs w) := rfl
theorem fwd_append (a b : List Int) (w : Int) : fwd (a ++ b) w = fwd b (fwd a w) := List.foldl_append
theorem bwd_append (a b : List Int) (w : Int) : bwd (a ++ b) w = bwd a (bwd b w) := List.foldr_append
theorem bwd_snoc (a : List Int) (r w : Int) : bwd (a ++ [r]) w = bwd a (across r w) := bwd_append a [r] w
theorem fwd_snoc (a : List Int) (r w : Int) : fwd (a ++ [r]) w = across r (fwd a w) := fwd_append a [r] w
theorem fwd_bwd : ∀ (rs : List Int) (p : Int), fwd rs (bwd rs p) = p
  | [], _ => rfl
  | r :: rs, p => by rw [bwd_cons, fwd_cons, across_inv, fwd_bwd rs p]
theorem bwd_fwd : ∀ (rs : List Int) (p : Int), bwd rs (fwd rs p) = p
  | [], _ => rfl
  | r :: rs, p => by rw [bwd_cons, fwd_cons, bwd_fwd rs, across_inv]
theorem fwd_reverse : ∀ (rs : List Int) (p : Int), fwd rs.reverse p = bwd rs p
  | [], _ => rfl
  | r :: rs, p => by rw [List.reverse_cons, fwd_snoc, fwd_reverse rs, bwd_cons]
theorem bwd_reverse : ∀ (rs : List Int) (p : Int), bwd rs.reverse p = fwd rs p
  | [], _ => rfl
  | r :: rs, p => by rw [List.reverse_cons, bwd_snoc, bwd_reverse rs, fwd_cons]
def Ok (n : Int) (rs : List Int) : Prop := ∀ r ∈ rs, 0 ≤ r ∧ r ≤ n - 2
theorem Ok.append {n : Int} {a b : List Int} (h1 : Ok n a) (h2 : Ok n b) : Ok n (a ++ b) := fun r hr => (List.mem_append.mp hr).elim (h1 r) (h2 r)
theorem Ok.reverse {n : Int} {a : List Int} (h1 : Ok n a) : Ok n a.reverse := fun r hr => h1 r (List.mem_reverse.mp hr)
theorem Ok.take {n : Int} {a : List Int} (h1 : Ok n a) (k : Nat) : Ok n (a.take k) := fun r hr => h1 r (List.mem_of_mem_take hr)
theorem Ok.drop {n : Int} {a : List Int} (h1 : Ok n a) (k : Nat) : Ok n (a.drop k) := fun r hr => h1 r (List.mem_of_mem_drop hr)
theorem Ok.nil {n : Int} : Ok n [] := fun r hr => nomatch hr
theorem fwd_ok {n : Int} : ∀ {rs : List Int}, Ok n rs → ∀ {w : Int}, 0 ≤ w ∧ w < n → 0 ≤ fwd rs w ∧ fwd rs w < n
  | [], _, _, hw => hw
  | r :: rs, h, w, hw => by
    rw [fwd_cons]
    exact fwd_ok (fun q hq => h q (List.mem_cons_of_mem _ hq)) (across_ok (h r List.mem_cons_self) hw)
theorem bwd_ok {n : Int} {rs : List Int} (h : Ok n rs) {w : Int} (hw : 0 ≤ w ∧ w < n) : 0 ≤ bwd rs w ∧ bwd rs w < n := by
  rw [← fwd_reverse]
  exact fwd_ok h.reverse hw
theorem fwd_inj {rs : List Int} {a b : Int} (h : fwd rs a = fwd rs b) : a = b := by
  have := congrArg (bwd rs) h
  rwa [bwd_fwd, bwd_fwd] at this
theorem bwd_inj {rs : List Int} {a b : Int} (h : bwd rs a = bwd rs b) : a = b := by
  have := congrArg (fwd rs) h
  rwa [fwd_bwd, fwd_bwd] at this

/-! ### the way of a walker -/
theorem take_snoc {α : Type} {xs : List α} {i : Nat} {x : α} (h : xs[i]? = some x) : xs.take (i + 1) = xs.take i ++ [x] := by
  rw [List.take_add_one, h]
  rfl
def steps : List Int → Int → List Int
  | [], _ => []
  | r :: rs, p => if across r p = p then steps rs p else across r p :: steps rs (across r p)
def wayL (rs : List Int) (w : Int) : List Int := w :: steps rs w
theorem steps_snoc : ∀ (rs : List Int) (r w : Int), steps (rs ++ [r]) w = steps rs w ++ (if across r (fwd rs w) = fwd rs w then [] else [across r (fwd rs w)])
  | [], r, w => by
    show (if across r w = w then steps [] w else across r w :: steps [] (across r w)) = _
    rfl
  | s :: rs, r, w => by
    rw [List.cons_append, fwd_cons]
    show (if across s w = w then steps (rs ++ [r]) w else across s w :: steps (rs ++ [r]) (across s w)) = (if across s w = w then steps rs w else across s w :: steps rs (across s w)) ++ _
    by_cases h : across s w = w
    · rw [if_pos h, if_pos h, h, steps_snoc rs]
    · rw [if_neg h, if_neg h, steps_snoc rs, List.cons_append]
theorem wayL_snoc (rs : List Int) (r w : Int) : wayL (rs ++ [r]) w = wayL rs w ++ (if across r (fwd rs w) = fwd rs w then [] else [across r (fwd rs w)]) := by
  unfold wayL
  rw [steps_snoc, List.cons_append]
theorem wayL_last : ∀ (rs : List Int) (w : Int), ∃ xs, wayL rs w = xs ++ [fwd rs w]
  | [], w => ⟨[], rfl⟩
  | r :: rs, w => by
    obtain ⟨xs, h⟩ := wayL_last rs (across r w)
    show ∃ xs, w :: (if across r w = w then steps rs w else across r w :: steps rs (across r w)) = xs ++ [fwd rs (across r w)]
    by_cases e : across r w = w
    · rw [if_pos e, e]
      rw [e] at h
      exact ⟨xs, h⟩
    · rw [if_neg e]
      exact ⟨w :: xs, by rw [List.cons_append]; exact congrArg _ h⟩
theorem wayL_length (rs : List Int) (w : Int) : (wayL rs w).length ≤ rs.length + 1 := by
  have h : ∀ (rs : List Int) (w : Int), (steps rs w).length ≤ rs.length := fun rs => by
    induction rs with
    | nil => exact fun w => Nat.le_refl _
    | cons r rs ih =>
      intro w
      show (if across r w = w then steps rs w else across r w :: steps rs (across r w)).length ≤ _
      split
      · exact Nat.le_succ_of_le (ih w)
      · exact Nat.succ_le_succ (ih _)
  exact Nat.succ_le_succ (h rs w)
theorem steps_append : ∀ (a b : List Int) (w : Int), steps (a ++ b) w = steps a w ++ steps b (fwd a w)
  | [], b, w => rfl
  | s :: a, b, w => by
    rw [List.cons_append, fwd_cons]
    show (if across s w = w then steps (a ++ b) w else across s w :: steps (a ++ b) (across s w)) = (if across s w = w then steps a w else across s w :: steps a (across s w)) ++ _
    by_cases h : across s w = w
    · rw [if_pos h, if_pos h, h, steps_append a]
    · rw [if_neg h, if_neg h, steps_append a, List.cons_append]
/-- a rung that is met: the next of the way -/
theorem wayL_met {rs : List Int} {i : Nat} {r w : Int} (h : rs[i]? = some r) (hne : across r (fwd (rs.take i) w) ≠ fwd (rs.take i) w) :
    (steps (rs.take (i + 1)) w).length = (steps (rs.take i) w).length + 1 ∧ (steps (rs.take i) w).length + 1 < (wayL rs w).length ∧ (wayL rs w).getD ((steps (rs.take i) w).length + 1) 0 = across r (fwd (rs.take i) w) := by
  have e : rs = rs.take (i + 1) ++ rs.drop (i + 1) := (List.take_append_drop _ _).symm
  have e2 : steps rs w = (steps (rs.take i) w ++ [across r (fwd (rs.take i) w)]) ++ steps (rs.drop (i + 1)) (fwd (rs.take (i + 1)) w) := by
    rw (config := { occs := .pos [1] }) [e]
    rw [steps_append, take_snoc h, steps_snoc, if_neg hne]
  refine ⟨?_, ?_, ?_⟩
  · rw [take_snoc h, steps_snoc, if_neg hne]
    simp
  · unfold wayL
    rw [e2]
    simp
  · unfold wayL
    rw [e2, List.getD_cons_succ, List.getD_eq_getElem?_getD]
    simp
theorem steps_same {rs : List Int} {i : Nat} {r w : Int} (h : rs[i]? = some r) (he : across r (fwd (rs.take i) w) = fwd (rs.take i) w) : steps (rs.take (i + 1)) w = steps (rs.take i) w := by
  rw [take_snoc h, steps_snoc, if_pos he, List.append_nil]
theorem fwd_take {rs : List Int} {i : Nat} {r w : Int} (h : rs[i]? = some r) : fwd (rs.take (i + 1)) w = across r (fwd (rs.take i) w) := by
  rw [take_snoc h, fwd_snoc]
/-! ### rows as lists -/
def tab (n : Nat) (f : Int → Int) : List Int := (List.range n).map fun i : Nat => f (i : Int)
theorem tab_length (n : Nat) (f : Int → Int) : (tab n f).length = n := by simp [tab]
theorem tab_get {n : Nat} {f : Int → Int} {i : Nat} (h : i < (tab n f).length) : (tab n f)[i] = f (i : Int) := by simp [tab]
theorem tab_getD {n : Nat} (f : Int → Int) {i : Nat} (h : i < n) : (tab n f).getD i 0 = f (i : Int) := by
  rw [List.getD_eq_getElem?_getD, List.getElem?_eq_getElem (by rw [tab_length]; exact h), tab_get]
  rfl
theorem tab_congr {n : Nat} {f g : Int → Int} (h : ∀ i : Nat, i < n → f (i : Int) = g (i : Int)) : tab n f = tab n g :=
  List.map_congr_left fun i hi => h i (List.mem_range.mp hi)
theorem tab_inj {n : Nat} {f g : Int → Int} (h : tab n f = tab n g) {i : Nat} (hi : i < n) : f (i : Int) = g (i : Int) := by
  have := congrArg (fun l => l.getD i 0) h
  simpa only [tab_getD f hi, tab_getD g hi] using this
theorem eq_tab {n : Nat} {f : Int → Int} {xs : List Int} (hl : xs.length = n) (h : ∀ i : Nat, i < n → xs.getD i 0 = f (i : Int)) : xs = tab n f := by
  refine List.ext_getElem (by rw [tab_length, hl]) fun i h1 h2 => ?_
  rw [tab_get, ← h i (by omega), List.getD_eq_getElem?_getD, List.getElem?_eq_getElem h1]
  rfl
theorem getD_set {xs : List Int} {k i : Nat} {v : Int} (hk : k < xs.length) : (xs.set k v).getD i 0 = if i = k then v else xs.getD i 0 := by
  rw [List.getD_eq_getElem?_getD, List.getElem?_set, List.getD_eq_getElem?_getD]
  by_cases h : k = i
  · subst h
    simp [hk]
  · rw [if_neg h, if_neg (Ne.symm h)]
theorem tab_set {n : Nat} {f : Int → Int} {k : Nat} {v : Int} (hk : k < n) : (tab n f).set k v = tab n (fun p => if p = (k : Int) then v else f p) := by
  refine eq_tab (by rw [List.length_set, tab_length]) fun i hi => ?_
  rw [getD_set (by rw [tab_length]; exact hk), tab_getD f hi]
  by_cases h : i = k
  · subst h
    simp
  · rw [if_neg h, if_neg (by omega)]
theorem tab_sets {n : Nat} {f : Int → Int} {r : Nat} (hr : r + 1 < n) : ((tab n f).set r (f ((r + 1 : Nat) : Int))).set (r + 1) (f (r : Int)) = tab n (fun p => f (across r p)) := by
  rw [tab_set (by omega), tab_set hr]
  refine tab_congr fun i hi => ?_
  have h := across_cases r i
  rcases h with ⟨h1, h2⟩ | ⟨h1, h2⟩ | ⟨h1, h2, h3⟩
  · rw [if_neg (by omega), if_pos h1, h2]
    rfl
  · rw [if_pos (by omega), h2]
  · rw [if_neg (by omega), if_neg h1, h3]
theorem getD_append_left {xs ys : List Int} {i : Nat} (h : i < xs.length) : (xs ++ ys).getD i 0 = xs.getD i 0 := by
  rw [List.getD_eq_getElem?_getD, List.getElem?_append_left h, List.getD_eq_getElem?_getD]
theorem getD_append_right {xs ys : List Int} {i : Nat} (h : xs.length ≤ i) : (xs ++ ys).getD i 0 = ys.getD (i - xs.length) 0 := by
  rw [List.getD_eq_getElem?_getD, List.getElem?_append_right h, List.getD_eq_getElem?_getD]
theorem getD_take {xs : List Int} {i k : Nat} (h : i < k) : (xs.take k).getD i 0 = xs.getD i 0 := by
  rw [List.getD_eq_getElem?_getD, List.getElem?_take, if_pos h, List.getD_eq_getElem?_getD]
theorem getD_drop {xs : List Int} {i k : Nat} : (xs.drop k).getD i 0 = xs.getD (k + i) 0 := by
  rw [List.getD_eq_getElem?_getD, List.getElem?_drop, List.getD_eq_getElem?_getD]
theorem tab_cut {n : Nat} {f : Int → Int} {r : Nat} (hr : r + 1 < n) : (tab n f).take r ++ [f ((r : Int) + 1), f (r : Int)] ++ (tab n f).drop (r + 2) = tab n (fun p => f (across r p)) := by
  have l1 : ((tab n f).take r).length = r := by rw [List.length_take, tab_length]; omega
  refine eq_tab (by simp only [List.length_append, l1, List.length_drop, tab_length, List.length_cons, List.length_nil]; omega) fun i hi => ?_
  have h := across_cases r i
  by_cases h1 : i < r
  · rw [getD_append_left (by rw [List.length_append, l1]; omega), getD_append_left (by rw [l1]; exact h1), getD_take h1, tab_getD f hi]
    rw [show across r i = i by omega]
  · by_cases h2 : i < r + 2
    · rw [getD_append_left (by rw [List.length_append, l1]; exact h2), getD_append_right (by rw [l1]; omega), l1]
      by_cases h3 : i = r
      · subst h3
        rw [Nat.sub_self, show across i i = (i : Int) + 1 by omega]
        rfl
      · rw [show i - r = 1 by omega, show across r i = (r : Int) by omega]
        rfl
    · rw [getD_append_right (by rw [List.length_append, l1]; simp; omega), getD_drop, List.length_append, l1]
      rw [show r + 2 + (i - (r + [f ((r : Int) + 1), f (r : Int)].length)) = i by simp; omega, tab_getD f hi, show across r i = i by omega]
/-! ### feet and ends -/
def feet (n : Nat) (rs : List Int) : List Int := tab n (bwd rs)
def ends (n : Nat) (rs : List Int) : List Int := tab n (fwd rs)
theorem feet_snoc {n : Nat} {rs : List Int} {r : Nat} (hr : r + 1 < n) : (feet n rs).take r ++ [(feet n rs).getD (r + 1) 0, (feet n rs).getD r 0] ++ (feet n rs).drop (r + 2) = feet n (rs ++ [(r : Int)]) := by
  unfold feet
  rw [tab_getD _ hr, tab_getD _ (by omega)]
  rw [show ((r + 1 : Nat) : Int) = (r : Int) + 1 by omega, tab_cut hr]
  exact tab_congr fun i hi => (bwd_snoc _ _ _).symm
theorem feet_set {n : Nat} {rs : List Int} {r : Nat} (hr : r + 1 < n) : ((feet n rs).set r ((feet n rs).getD (r + 1) 0)).set (r + 1) ((feet n rs).getD r 0) = feet n (rs ++ [(r : Int)]) := by
  unfold feet
  rw [tab_getD _ hr, tab_getD _ (by omega), tab_sets hr]
  exact tab_congr fun i hi => (bwd_snoc _ _ _).symm
theorem feet_nil (n : Nat) : feet n [] = tab n id := rfl
theorem ends_nil (n : Nat) : ends n [] = tab n id := rfl
/-- ends, half told: those at the first i posts -/
def half (n : Nat) (rs : List Int) (i : Int) : List Int := tab n fun w => if fwd rs w < i then fwd rs w else 0
theorem half_zero {n : Nat} {rs : List Int} (h : Ok n rs) : half n rs 0 = List.replicate n 0 := by
  unfold half
  rw [show tab n (fun w => if fwd rs w < 0 then fwd rs w else 0) = tab n (fun _ => 0) from tab_congr fun i hi => if_neg (by
    have := fwd_ok h (w := (i : Int)) (by omega)
    omega)]
  unfold tab
  refine List.ext_getElem (by simp) fun i h1 h2 => by simp
theorem half_step {n : Nat} {rs : List Int} (h : Ok n rs) {i : Nat} (hi : i < n) : (half n rs i).set (bwd rs i).toNat (i : Int) = half n rs ((i : Int) + 1) := by
  have hb := bwd_ok h (w := (i : Int)) (by omega)
  unfold half
  rw [tab_set (by omega)]
  refine tab_congr fun j hj => ?_
  by_cases e : (j : Int) = bwd rs i
  · rw [if_pos (by omega), e, fwd_bwd, if_pos (by omega)]
  · rw [if_neg (by omega)]
    have ne : fwd rs j ≠ i := fun z => e (by rw [← z, bwd_fwd])
    by_cases l : fwd rs j < i
    · rw [if_pos l, if_pos (by omega)]
    · rw [if_neg l, if_neg (by omega)]
theorem half_all {n : Nat} {rs : List Int} (h : Ok n rs) : half n rs n = ends n rs := tab_congr fun i hi => if_pos (fwd_ok h (by omega)).2
theorem ends_eq_iff {n : Nat} {rs ss : List Int} : ends n rs = ends n ss ↔ ∀ i : Nat, i < n → fwd rs i = fwd ss i := ⟨fun h i hi => tab_inj h hi, fun h => tab_congr h⟩
/-! ### sorted; permutations -/
def srt (ns : List Int) : List Int := ns.mergeSort (fun a b => decide (a ≤ b))
theorem srt_perm (ns : List Int) : (srt ns).Perm ns := List.mergeSort_perm _ _
theorem srt_sorted (ns : List Int) : (srt ns).Pairwise (· ≤ ·) := by
  have h := List.pairwise_mergeSort (le := fun a b : Int => decide (a ≤ b)) (fun a b c h1 h2 => decide_eq_true (Int.le_trans (of_decide_eq_true h1) (of_decide_eq_true h2))) (fun a b => by
    rw [Bool.or_eq_true, decide_eq_true_eq, decide_eq_true_eq]
    exact Int.le_total a b) ns
  exact h.imp fun h => of_decide_eq_true h
theorem srt_unique {ns ms : List Int} (h1 : ms.Perm ns) (h2 : ms.Pairwise (· ≤ ·)) : ms = srt ns :=
  List.Perm.eq_of_pairwise (fun a b _ _ h h' => Int.le_antisymm h h') h2 (srt_sorted ns) (h1.trans (srt_perm ns).symm)
theorem srt_length (ns : List Int) : (srt ns).length = ns.length := (srt_perm ns).length_eq
theorem mem_tab {n : Nat} {f : Int → Int} {x : Int} : x ∈ tab n f ↔ ∃ i : Nat, i < n ∧ f i = x := by
  unfold tab
  rw [List.mem_map]
  exact ⟨fun ⟨i, hi, e⟩ => ⟨i, List.mem_range.mp hi, e⟩, fun ⟨i, hi, e⟩ => ⟨i, List.mem_range.mpr hi, e⟩⟩
theorem tab_nodup {n : Nat} {f : Int → Int} (h : ∀ i j : Nat, i < n → j < n → f i = f j → i = j) : (tab n f).Nodup := by
  unfold List.Nodup
  rw [List.pairwise_iff_getElem]
  intro i j hi hj hlt e
  rw [tab_get, tab_get] at e
  rw [tab_length] at hi hj
  have := h i j hi hj e
  omega
theorem tab_sorted (n : Nat) : (tab n id).Pairwise (· ≤ ·) := by
  rw [List.pairwise_iff_getElem]
  intro i j hi hj hlt
  rw [tab_get, tab_get]
  show (i : Int) ≤ (j : Int)
  omega
theorem ends_perm {n : Nat} {rs : List Int} (h : Ok n rs) : (ends n rs).Perm (tab n id) := by
  refine (List.perm_ext_iff_of_nodup (tab_nodup fun i j _ _ e => by have := fwd_inj e; omega) (tab_nodup fun i j _ _ e => by have e' : (i : Int) = (j : Int) := e; omega)).mpr fun x => ?_
  show x ∈ tab n (fwd rs) ↔ _
  rw [mem_tab, mem_tab]
  constructor
  · rintro ⟨i, hi, rfl⟩
    have := fwd_ok h (w := (i : Int)) (by omega)
    exact ⟨(fwd rs i).toNat, by omega, by show ((fwd rs i).toNat : Int) = fwd rs i; omega⟩
  · rintro ⟨i, hi, rfl⟩
    have := bwd_ok h (w := (i : Int)) (by omega)
    exact ⟨(bwd rs i).toNat, by omega, by rw [show ((bwd rs i).toNat : Int) = bwd rs i by omega, fwd_bwd]; rfl⟩
theorem srt_ends {n : Nat} {rs : List Int} (h : Ok n rs) : srt (ends n rs) = tab n id := (srt_unique (ends_perm h).symm (tab_sorted n)).symm
end Lm

/-! Data at a base heap: lists of ints, of flat things, of pairs; == and !=; slices. -/
namespace La
open PySem L2 PyProof.Rows

/-! ### flat things as data -/
def toD : V → PyData
  | .bl b => .bool b
  | .int i => .int i
  | .str x => .str x
  | _ => .none
def okD : V → Bool
  | .non => true
  | .bl _ => true
  | .int _ => true
  | .str x => PyData.strOk x
  | _ => false
section
variable {K : PySem.W.Frag} {H : Hp}
theorem dp_flat {v : V} (h : okD v = true) : Dp K H v (toD v) := by
  cases v with
  | non => exact .non
  | bl b => exact .bl b
  | int i => exact .int i
  | str x => exact .str x
  | byt b => cases h
  | flt b => cases h
  | ref a => cases h
  | ty n => cases h
theorem dpAll_flat : ∀ {vs : List V}, vs.all okD = true → DpAll K H vs (vs.map toD)
  | [], _ => .nil
  | v :: vs, h => by
    rw [List.all_cons, Bool.and_eq_true] at h
    exact .cons (dp_flat h.1) (dpAll_flat h.2)
theorem lay_flat {v : V} (h : okD v = true) : (toD v).canLay0 = true := by
  cases v <;> first | (cases h; done) | (simp [toD, PyData.canLay0]; done) | (simp only [toD, PyData.canLay0]; exact h)
theorem depth_flat (v : V) : (toD v).depth = 0 := by
  cases v <;> simp [toD, PyData.depth]
theorem layAll_flat : ∀ {vs : List V}, vs.all okD = true → PyData.canLayAll0 (vs.map toD) = true
  | [], _ => rfl
  | v :: vs, h => by
    rw [List.all_cons, Bool.and_eq_true] at h
    rw [List.map_cons, PyData.canLayAll0, lay_flat h.1, layAll_flat h.2] <;> rfl
theorem depthAll_flat : ∀ (vs : List V), PyData.depthAll (vs.map toD) = 0
  | [] => rfl
  | v :: vs => by rw [List.map_cons, PyData.depthAll, depth_flat, depthAll_flat vs] <;> rfl
theorem shaped_flat {v : V} (h : okD v = true) : SeqAt.shaped (toD v) = true := by
  unfold SeqAt.shaped
  rw [lay_flat h, depth_flat] <;> rfl
theorem shaped_list {ds : List PyData} (h1 : PyData.canLayAll0 ds = true) (h2 : PyData.depthAll ds ≤ 20) : SeqAt.shaped (.list ds) = true := by
  unfold SeqAt.shaped
  rw [PyData.canLay0, h1, PyData.depth, Bool.true_and]
  exact decide_eq_true (by omega)
theorem shaped_tuple {ds : List PyData} (h1 : PyData.canLayAll0 ds = true) (h2 : PyData.depthAll ds ≤ 20) : SeqAt.shaped (.tuple ds) = true := by
  unfold SeqAt.shaped
  rw [PyData.canLay0, h1, PyData.depth, Bool.true_and]
  exact decide_eq_true (by omega)
theorem shaped_flatL {vs : List V} (h : vs.all okD = true) : SeqAt.shaped (.list (vs.map toD)) = true := shaped_list (layAll_flat h) (by rw [depthAll_flat]; omega)
theorem shaped_flatT {vs : List V} (h : vs.all okD = true) : SeqAt.shaped (.tuple (vs.map toD)) = true := shaped_tuple (layAll_flat h) (by rw [depthAll_flat]; omega)
theorem flat_ints (ns : List Int) : (ns.map V.int).all okD = true := by
  rw [List.all_map]
  exact List.all_eq_true.mpr fun _ _ => rfl
theorem eqv_ints : ∀ (ns ms : List Int), PyData.eqvAll ((ns.map V.int).map toD) ((ms.map V.int).map toD) = decide (ns = ms)
  | [], [] => rfl
  | [], _ :: _ => by rw [decide_eq_false (by intro q; cases q)]; rfl
  | _ :: _, [] => by rw [decide_eq_false (by intro q; cases q)]; rfl
  | n :: ns, m :: ms => by
    rw [List.map_cons, List.map_cons, List.map_cons, List.map_cons, PyData.eqvAll, eqv_ints ns ms]
    show (PyData.eqv (.int n) (.int m) && _) = _
    rw [PyData.eqv]
    by_cases h : n = m
    · subst h
      simp
    · simp [h]
/-! ### pairs of ints, lists of them -/
def prD (p : Int × Int) : PyData := .tuple [.int p.1, .int p.2]
theorem lay_prs : ∀ (ps : List (Int × Int)), PyData.canLayAll0 (ps.map prD) = true
  | [] => rfl
  | p :: ps => by
    rw [List.map_cons, PyData.canLayAll0, lay_prs ps] <;> rfl
theorem depth_prs : ∀ (ps : List (Int × Int)), PyData.depthAll (ps.map prD) ≤ 1
  | [] => Nat.zero_le _
  | p :: ps => by
    have := depth_prs ps
    rw [List.map_cons, PyData.depthAll]
    show max 1 _ ≤ 1
    omega
theorem shaped_prs (ps : List (Int × Int)) : SeqAt.shaped (.list (ps.map prD)) = true := shaped_list (lay_prs ps) (Nat.le_trans (depth_prs ps) (by omega))
theorem shaped_pr (p : Int × Int) : SeqAt.shaped (prD p) = true := by
  unfold SeqAt.shaped prD
  rfl
theorem eqv_pr (p q : Int × Int) : PyData.eqv (prD p) (prD q) = decide (p = q) := by
  obtain ⟨a, b⟩ := p
  obtain ⟨c, d⟩ := q
  unfold prD
  rw [PyData.eqv, PyData.eqvAll, PyData.eqvAll, PyData.eqvAll, PyData.eqv, PyData.eqv]
  by_cases h : a = c
  · subst h
    by_cases h2 : b = d
    · subst h2
      simp
    · simp [h2]
  · simp [h]
theorem eqv_prs : ∀ (ps qs : List (Int × Int)), PyData.eqvAll (ps.map prD) (qs.map prD) = decide (ps = qs)
  | [], [] => rfl
  | [], _ :: _ => by rw [decide_eq_false (by intro q; cases q)]; rfl
  | _ :: _, [] => by rw [decide_eq_false (by intro q; cases q)]; rfl
  | n :: ns, m :: ms => by
    rw [List.map_cons, List.map_cons, PyData.eqvAll, eqv_prs ns ms, eqv_pr]
    by_cases h : n = m
    · subst h
      simp
    · simp [h]
/-- at p stands the pair -/
def Pr (H : Hp) (v : V) (p : Int × Int) : Prop := ∃ a, v = .ref a ∧ H a = some (.tup [.int p.1, .int p.2])
theorem Pr.same {H H' : Hp} {v : V} {p : Int × Int} (e : Same H H') (h : Pr H v p) : Pr H' v p := by
  obtain ⟨a, h1, h2⟩ := h
  exact ⟨a, h1, e _ _ h2⟩
theorem Pr.dp {v : V} {p : Int × Int} (h : Pr H v p) : Dp K H v (prD p) := by
  obtain ⟨a, rfl, h2⟩ := h
  exact .tup (SqT.of h2) (.cons (.int _) (.cons (.int _) .nil))
/-- each is its pair -/
inductive PrA (H : Hp) : List V → List (Int × Int) → Prop
  | nil : PrA H [] []
  | cons {v : V} {p : Int × Int} {vs : List V} {ps : List (Int × Int)} : Pr H v p → PrA H vs ps → PrA H (v :: vs) (p :: ps)
theorem PrA.same {H H' : Hp} {vs : List V} {ps : List (Int × Int)} (e : Same H H') (h : PrA H vs ps) : PrA H' vs ps := by
  induction h with
  | nil => exact .nil
  | cons h1 _ ih => exact .cons (h1.same e) ih
theorem PrA.imp {H H' : Hp} {vs : List V} {ps : List (Int × Int)} (f : ∀ {v : V} {p : Int × Int}, Pr H v p → Pr H' v p) (h : PrA H vs ps) : PrA H' vs ps := by
  induction h with
  | nil => exact .nil
  | cons h1 _ ih => exact .cons (f h1) ih
theorem PrA.snoc {H : Hp} {vs : List V} {ps : List (Int × Int)} {v : V} {p : Int × Int} (h : PrA H vs ps) (h2 : Pr H v p) : PrA H (vs ++ [v]) (ps ++ [p]) := by
  induction h with
  | nil => exact .cons h2 .nil
  | cons h1 _ ih => exact .cons h1 ih
theorem PrA.length {H : Hp} {vs : List V} {ps : List (Int × Int)} (h : PrA H vs ps) : vs.length = ps.length := by
  induction h with
  | nil => rfl
  | cons _ _ ih => exact congrArg (· + 1) ih
theorem prs_dp {vs : List V} {ps : List (Int × Int)} (h : PrA H vs ps) : DpAll K H vs (ps.map prD) := by
  induction h with
  | nil => exact .nil
  | cons h1 _ ih => exact .cons h1.dp ih
/-- at a stands a list of these pairs -/
def Prs (K : PySem.W.Frag) (H : Hp) (a : Addr) (ps : List (Int × Int)) : Prop := ∃ vs, SqL K H a vs ∧ PrA H vs ps
theorem Prs.same {H H' : Hp} {a : Addr} {ps : List (Int × Int)} (e : Same H H') (h : Prs K H a ps) : Prs K H' a ps := by
  obtain ⟨vs, h1, h2⟩ := h
  exact ⟨vs, e.seq h1, h2.same e⟩
theorem Prs.dp {a : Addr} {ps : List (Int × Int)} (h : Prs K H a ps) : Dp K H (.ref a) (.list (ps.map prD)) := by
  obtain ⟨vs, h1, h2⟩ := h
  exact .lst h1 (prs_dp h2)
end

/-! ### == and != -/
section
variable {K : PySem.W.Frag} {H : Hp} {Q : VK} {a b : Addr} {ns ms : List Int} {xs ys : List V} {x y : V} {d : PyData}
theorem eqD_ints (h1 : SqL K H a (ns.map V.int)) (h2 : SqL K H b (ms.map V.int)) (q : Q (.bl (decide (ns = ms))) H) : Cl (rEqD K (.ref a) (.ref b)) H Q :=
  r_eqD (.lst h1 (dpAll_flat (flat_ints _))) (.lst h2 (dpAll_flat (flat_ints _))) (shaped_flatL (flat_ints _)) (shaped_flatL (flat_ints _)) (by
    rw [PyData.eqv, eqv_ints]
    exact q)
theorem neD_ints (h1 : SqL K H a (ns.map V.int)) (h2 : SqL K H b (ms.map V.int)) (q : Q (.bl (!decide (ns = ms))) H) : Cl (rNeD K (.ref a) (.ref b)) H Q :=
  r_neD (.lst h1 (dpAll_flat (flat_ints _))) (.lst h2 (dpAll_flat (flat_ints _))) (shaped_flatL (flat_ints _)) (shaped_flatL (flat_ints _)) (by
    rw [PyData.eqv, eqv_ints]
    exact q)
theorem eqD_intsT (h1 : SqT K H a (ns.map V.int)) (h2 : SqT K H b (ms.map V.int)) (q : Q (.bl (decide (ns = ms))) H) : Cl (rEqD K (.ref a) (.ref b)) H Q :=
  r_eqD (.tup h1 (dpAll_flat (flat_ints _))) (.tup h2 (dpAll_flat (flat_ints _))) (shaped_flatT (flat_ints _)) (shaped_flatT (flat_ints _)) (by
    rw [PyData.eqv, eqv_ints]
    exact q)
theorem eqD_prs {ps qs : List (Int × Int)} (h1 : Prs K H a ps) (h2 : Prs K H b qs) (q : Q (.bl (decide (ps = qs))) H) : Cl (rEqD K (.ref a) (.ref b)) H Q :=
  r_eqD h1.dp h2.dp (shaped_prs _) (shaped_prs _) (by
    rw [PyData.eqv, eqv_prs]
    exact q)
theorem neD_prs {ps qs : List (Int × Int)} (h1 : Prs K H a ps) (h2 : Prs K H b qs) (q : Q (.bl (!decide (ps = qs))) H) : Cl (rNeD K (.ref a) (.ref b)) H Q :=
  r_neD h1.dp h2.dp (shaped_prs _) (shaped_prs _) (by
    rw [PyData.eqv, eqv_prs]
    exact q)
theorem neD_pr {p p' : Int × Int} (h1 : Pr H x p) (h2 : Pr H y p') (q : Q (.bl (!decide (p = p'))) H) : Cl (rNeD K x y) H Q :=
  r_neD h1.dp h2.dp (shaped_pr _) (shaped_pr _) (by
    rw [eqv_pr]
    exact q)
/-- alike, whatever they are -/
theorem eqD_dp (h1 : Dp K H x d) (h2 : Dp K H y d) (hs : SeqAt.shaped d = true) (q : Q (.bl true) H) : Cl (rEqD K x y) H Q :=
  r_eqD h1 h2 hs hs (by
    rw [SeqAt.eqv_refl _ (SeqAt.canLay_of_shaped hs)]
    exact q)
theorem neD_dp (h1 : Dp K H x d) (h2 : Dp K H y d) (hs : SeqAt.shaped d = true) (q : Q (.bl false) H) : Cl (rNeD K x y) H Q :=
  r_neD h1 h2 hs hs (by
    rw [SeqAt.eqv_refl _ (SeqAt.canLay_of_shaped hs)]
    exact q)
theorem eqD_same (h1 : SqL K H a xs) (h2 : SqL K H b xs) (hf : xs.all okD = true) (q : Q (.bl true) H) : Cl (rEqD K (.ref a) (.ref b)) H Q :=
  eqD_dp (.lst h1 (dpAll_flat hf)) (.lst h2 (dpAll_flat hf)) (shaped_flatL hf) q
theorem neD_same (h1 : SqL K H a xs) (h2 : SqL K H b xs) (hf : xs.all okD = true) (q : Q (.bl false) H) : Cl (rNeD K (.ref a) (.ref b)) H Q :=
  neD_dp (.lst h1 (dpAll_flat hf)) (.lst h2 (dpAll_flat hf)) (shaped_flatL hf) q
end

/-! ### what was known, behind a change -/
section
variable {K : PySem.W.Frag} {H : Hp} {a l p C : Addr} {xs ys : List V} {o : HO} {n : Int} {rs : List Int}
theorem sql_new (h : SqL K H a xs) (hp : H p = none) : SqL K (upd H p o) a xs := (same_new hp).seq h
theorem sqt_new (h : SqT K H a xs) (hp : H p = none) : SqT K (upd H p o) a xs := seqT (same_new hp) h
theorem sql_mut (h : SqL K H a xs) (ne : a ≠ l) : SqL K (upd H l o) a xs := by
  rcases h with (h | ⟨u, h⟩) | h
  · exact .inl (.inl (by rw [upd_ne ne]; exact h))
  · exact .inl (.inr ⟨u, by rw [upd_ne ne]; exact h⟩)
  · exact .inr h
theorem sqt_mut (h : SqT K H a xs) (hl : H l = some (.lst ys)) : SqT K (upd H l o) a xs := by
  rcases h with (h | ⟨u, h⟩) | h
  · exact .inl (.inl (by rw [upd_ne (ne_of h hl (by intro q; cases q))]; exact h))
  · exact .inl (.inr ⟨u, by rw [upd_ne (ne_of h hl (by intro q; cases q))]; exact h⟩)
  · exact .inr h
theorem lad_new (h : Lad K C H p n rs) (hp : H l = none) : Lad K C (upd H l o) p n rs := h.same (same_new hp)
theorem lad_mut (h : Lad K C H p n rs) (hl : H l = some (.lst ys)) : Lad K C (upd H l o) p n rs := by
  obtain ⟨dx, t, h1, h2⟩ := h
  exact ⟨dx, t, by rw [upd_ne (ne_of h1 hl (by intro q; cases q))]; exact h1, by rw [upd_ne (ne_of h2 hl (by intro q; cases q))]; exact h2⟩
theorem sql_newF (hp : Free H p) (h : SqL K H a xs) : SqL K (upd H p o) a xs := sql_new h hp
theorem sqt_newF (hp : Free H p) (h : SqT K H a xs) : SqT K (upd H p o) a xs := sqt_new h hp
theorem sql_mutF (ne : a ≠ l) (h : SqL K H a xs) : SqL K (upd H l o) a xs := sql_mut h ne
theorem sqt_mutF (hl : H l = some (.lst ys)) (h : SqT K H a xs) : SqT K (upd H l o) a xs := sqt_mut h hl
theorem lad_newF (hp : Free H l) (h : Lad K C H p n rs) : Lad K C (upd H l o) p n rs := lad_new h hp
theorem lad_mutF (hl : H l = some (.lst ys)) (h : Lad K C H p n rs) : Lad K C (upd H l o) p n rs := lad_mut h hl
theorem sql_nil (h : H a = some (.lst [])) : SqL K H a (([] : List Int).map V.int) := SqL.of h
theorem lki0 (h : H a = some (.lst [])) : H a = some (.lst (([] : List Int).map V.int)) := h
theorem lki1 {i : Int} (h : H a = some (.lst [.int i])) : H a = some (.lst ([i].map V.int)) := h
theorem lki2 {i j : Int} (h : H a = some (.lst [.int i, .int j])) : H a = some (.lst ([i, j].map V.int)) := h
theorem lki3 {i j k : Int} (h : H a = some (.lst [.int i, .int j, .int k])) : H a = some (.lst ([i, j, k].map V.int)) := h
end

/-! ### slices of lists of ints -/
def cutI (ns : List Int) (lo hi : Option Int) : List Int := (ns.drop (HT.sIx ns.length 0 lo)).take (HT.sIx ns.length ns.length hi - HT.sIx ns.length 0 lo)
theorem cutV_ints (ns : List Int) (lo hi : Option Int) : cutV (ns.map V.int) lo hi = (cutI ns lo hi).map V.int := by
  unfold cutV cutI
  rw [List.length_map, List.map_take, List.map_drop]
theorem cutI_len (ns : List Int) (lo hi : Option Int) : (cutI ns lo hi).length ≤ ns.length := by
  unfold cutI
  rw [List.length_take, List.length_drop]
  omega
theorem cutI_nat (ns : List Int) (i j : Nat) : cutI ns (some (i : Int)) (some (j : Int)) = (ns.drop i).take (j - i) := by
  unfold cutI
  rw [HT.sIx_nat, HT.sIx_nat]
  by_cases h : i ≤ ns.length
  · rw [Nat.min_eq_left h]
    by_cases h2 : j ≤ ns.length
    · rw [Nat.min_eq_left h2]
    · rw [Nat.min_eq_right (by omega)]
      rw [List.take_of_length_le (by rw [List.length_drop]; exact Nat.le_refl _), List.take_of_length_le (by rw [List.length_drop]; omega)]
  · rw [Nat.min_eq_right (by omega : ns.length ≤ i), List.drop_eq_nil_of_le (Nat.le_refl _), List.drop_eq_nil_of_le (by omega), List.take_nil, List.take_nil]
theorem cutI_lo (ns : List Int) (i : Nat) : cutI ns (some (i : Int)) none = ns.drop i := by
  unfold cutI
  rw [HT.sIx_nat, HT.sIx_none]
  by_cases h : i ≤ ns.length
  · rw [Nat.min_eq_left h, List.take_of_length_le (by rw [List.length_drop]; exact Nat.le_refl _)]
  · rw [Nat.min_eq_right (by omega : ns.length ≤ i), List.drop_eq_nil_of_le (Nat.le_refl _), List.drop_eq_nil_of_le (by omega), List.take_nil]
theorem cutI_hi (ns : List Int) (i : Nat) : cutI ns none (some (i : Int)) = ns.take i := by
  unfold cutI
  rw [HT.sIx_nat, HT.sIx_none, List.drop_zero, Nat.sub_zero]
  by_cases h : i ≤ ns.length
  · rw [Nat.min_eq_left h]
  · rw [Nat.min_eq_right (by omega : ns.length ≤ i), List.take_of_length_le (Nat.le_refl _), List.take_of_length_le (by omega)]
theorem cutI_low {ns : List Int} {i : Int} (h : 0 ≤ i) : cutI ns (some i) none = ns.drop i.toNat := by
  obtain ⟨n, rfl⟩ := Int.eq_ofNat_of_zero_le h
  exact cutI_lo ns n
theorem cutI_high {ns : List Int} {i : Int} (h : 0 ≤ i) : cutI ns none (some i) = ns.take i.toNat := by
  obtain ⟨n, rfl⟩ := Int.eq_ofNat_of_zero_le h
  exact cutI_hi ns n
section
variable {K : PySem.W.Frag} {H : Hp} {Q : VK} {a b : Addr} {ns ms : List Int}
theorem slL_ints {lo hi : Option Int} (hs : SqL K H a (ns.map V.int)) (q : ∀ p, H p = none → Q (.ref p) (upd H p (.lst ((cutI ns lo hi).map V.int)))) : Cl (rSlL K (.ref a) lo hi) H Q :=
  r_slL hs fun p hp => by
    rw [cutV_ints]
    exact q p hp
theorem slL_take {i : Int} (hs : SqL K H a (ns.map V.int)) (h0 : 0 ≤ i) (q : ∀ p, H p = none → Q (.ref p) (upd H p (.lst ((ns.take i.toNat).map V.int)))) : Cl (rSlL K (.ref a) none (some i)) H Q :=
  slL_ints hs fun p hp => by
    rw [cutI_high h0]
    exact q p hp
theorem slL_drop {i : Int} (hs : SqL K H a (ns.map V.int)) (h0 : 0 ≤ i) (q : ∀ p, H p = none → Q (.ref p) (upd H p (.lst ((ns.drop i.toNat).map V.int)))) : Cl (rSlL K (.ref a) (some i) none) H Q :=
  slL_ints hs fun p hp => by
    rw [cutI_low h0]
    exact q p hp
theorem b_lenI (h : SqL K H a (ns.map V.int) ∨ SqT K H a (ns.map V.int)) (q : Q (.int (ns.length : Int)) H) : Cl (Evl.rLenS K [.ref a]) H Q := b_len h (by rw [List.length_map]; exact q)
theorem cat_ints (h1' : H a = some (.lst (ns.map V.int))) (h2 : H b = some (.lst (ms.map V.int))) (hz : ns.length + ms.length ≤ sizeLine) (q : ∀ p, H p = none → Q (.ref p) (upd H p (.lst ((ns ++ ms).map V.int)))) : Cl (rCat (.ref a) (.ref b)) H Q :=
  r_cat h1' h2 (by rw [List.length_map, List.length_map]; exact hz) fun p hp => by
    rw [← List.map_append]
    exact q p hp
end
theorem at_last {ns : List Int} {i : Int} : atI ((ns ++ [i]).map V.int) (-1) = some (.int i) := by
  rw [List.map_append]
  exact atI_last _ _
theorem ixL_neg1 {K : PySem.W.Frag} {H : Hp} {Q : VK} {a : Addr} {ns xs : List Int} {i : Int} (h : SqL K H a (ns.map V.int)) (e : ns = xs ++ [i]) (q : Q (.int i) H) : Cl (rIxL K (.ref a) (.int (-1))) H Q := r_ixL h (by rw [e]; exact at_last) q
theorem sqt_keep {K : PySem.W.Frag} {H : Hp} {p t : Addr} {o o' : HO} {xs ys : List V} (ht : upd H p o t = some (.tup xs)) (hn : o = .lst ys) : SqT K (upd H p o') t xs := by
  subst hn
  have hne : t ≠ p := fun e => by
    rw [e, upd_same] at ht
    cases ht
  rw [upd_ne hne] at ht
  exact SqT.of (by rw [upd_ne hne]; exact ht)
theorem ixL_ok {K : PySem.W.Frag} {H : Hp} {Q : VK} {a : Addr} {ns : List Int} {i : Int} (h : SqL K H a (ns.map V.int)) (h0 : 0 ≤ i) (h1 : i < ns.length) (q : Q (.int (ns.getD i.toNat 0)) H) : Cl (rIxL K (.ref a) (.int i)) H Q := by
  obtain ⟨k, rfl⟩ := Int.eq_ofNat_of_zero_le h0
  exact r_ixL h (at_int (by omega)) q
theorem ixT_ok {K : PySem.W.Frag} {H : Hp} {Q : VK} {a : Addr} {ns : List Int} {i : Int} (h : SqT K H a (ns.map V.int)) (h0 : 0 ≤ i) (h1 : i < ns.length) (q : Q (.int (ns.getD i.toNat 0)) H) : Cl (rIxT K (.ref a) (.int i)) H Q := by
  obtain ⟨k, rfl⟩ := Int.eq_ofNat_of_zero_le h0
  exact r_ixT h (at_int (by omega)) q
/-! ### methods of a ladder -/
section
variable {K : PySem.W.Frag} {P : PK'} {σ : L2.St} {H : Hp} {ta : TA} {to : TE} {Q : VK} {E : XK} {dvs : List V} {C : Addr} {m : Str}
def MethW (C : Addr) (m : Str) (x : V) (H1 : Hp) (R : Addr → Prop) : Prop := ∃ a dx fs, x = .ref a ∧ H1 a = some (.ins C dx fs) ∧ fs.lookup m = none ∧ R a
theorem c_methW (h : Cl (to σ) H fun x H1 => MethW C m x H1 fun a => Cl (ta σ) H1 fun vs H2 => P (.ref a :: (vs ++ dvs)) H2 Q L2.E0) : Cl (tMeth C m (spc P) dvs E to ta σ) H Q := c_meth h
theorem methW_lad {p : Addr} {n : Int} {rs : List Int} {R : Addr → Prop} (h : Lad K C H p n rs) (h1 : (m == "posts") = false) (h2 : (m == "rungs") = false) (q : R p) : MethW C m (.ref p) H R := by
  obtain ⟨dx, t, hx, ht⟩ := h
  exact ⟨p, dx, _, rfl, hx, lf_no _ _ h1 h2, q⟩
end
/-! ### lists of ints that are changed -/
section
variable {K : PySem.W.Frag} {σ : L2.St} {H : Hp} {Q : VK} {l : Addr} {ns : List Int} {i k : Int} {xs : List V} {v : V}
theorem m_appendI (h : H l = some (.lst (ns.map V.int))) (hz : ns.length < sizeLine) (q : Q .non (upd H l (.lst ((ns ++ [i]).map V.int)))) : Cl (rAppend (.ref l) [.int i]) H Q := m_append h (by rw [List.length_map]; exact hz) (by
  rw [List.map_append] at q
  exact q)
theorem m_reverseI (h : H l = some (.lst (ns.map V.int))) (q : Q .non (upd H l (.lst (ns.reverse.map V.int)))) : Cl (rReverse (.ref l) []) H Q := m_reverse h (by
  rw [List.map_reverse] at q
  exact q)
/-- what is wished of o[i] = v -/
def SetW (v : V) (o i : V) (H2 : Hp) (R : Hp → Prop) : Prop := ∃ p xs k j, o = .ref p ∧ i = .int k ∧ H2 p = some (.lst xs) ∧ ixN xs.length k = some j ∧ R (upd H2 p (.lst (xs.set j v)))
theorem g_setW {ti to : TE} {Qs : L2.St → Hp → Prop} (h : Cl (to σ) H fun o H1 => Cl (ti σ) H1 fun i H2 => SetW v o i H2 (Qs σ)) : ClG (gSub to ti rSetL) v σ H Qs := g_setL h
theorem ixN_ok {n : Nat} {k : Int} (h0 : 0 ≤ k) (h1 : k < n) : ixN n k = some k.toNat := by
  unfold ixN
  rw [if_pos h0, if_pos h1]
theorem setW_int {R : Hp → Prop} (h : H l = some (.lst (ns.map V.int))) (h0 : 0 ≤ k) (h1 : k < ns.length) (q : R (upd H l (.lst ((ns.set k.toNat i).map V.int)))) : SetW (.int i) (.ref l) (.int k) H R := ⟨l, _, k, k.toNat, rfl, rfl, h, ixN_ok h0 (by rw [List.length_map]; exact h1), by
  rw [List.map_set] at q
  exact q⟩
theorem setW_any {R : Hp → Prop} (h : H l = some (.lst xs)) (h0 : 0 ≤ k) (h1 : k < xs.length) (q : R (upd H l (.lst (xs.set k.toNat v)))) : SetW v (.ref l) (.int k) H R := ⟨l, _, k, k.toNat, rfl, rfl, h, ixN_ok h0 h1, q⟩
end
/-! ### list(range(n)), [i] * n, t + u -/
section
variable {K : PySem.W.Frag} {σ : L2.St} {H : Hp} {Q : VK} {ta : TE} {a b : Addr} {ns ms : List Int}
theorem rgV_tab (n : Nat) : rgV 0 (n : Int) = (Lm.tab n id).map V.int := by
  unfold rgV Lm.tab
  rw [List.map_map]
  have : ((n : Int) - 0).toNat = n := by omega
  rw [this]
  refine List.map_congr_left fun i _ => ?_
  show V.int (0 + (i : Int)) = V.int (i : Int)
  rw [Int.zero_add]
def RgW (Q : VK) (x : V) (H1 : Hp) : Prop := ∃ n : Nat, x = .int (n : Int) ∧ n ≤ 1000000 ∧ ∀ p, H1 p = none → Q (.ref p) (upd H1 p (.lst ((Lm.tab n id).map V.int)))
theorem rgW {n : Nat} (hn : n ≤ 1000000) (q : ∀ p, H p = none → Q (.ref p) (upd H p (.lst ((Lm.tab n id).map V.int)))) : RgW Q (.int (n : Int)) H := ⟨n, rfl, hn, q⟩
theorem c_lrgW (h : Cl (ta σ) H fun x H1 => RgW Q x H1) : Cl (tLstRg (tRg1 ta) σ) H Q := c_lrg1 (cl_mono h fun x Hb ⟨n, ex, hn, q⟩ => ⟨(n : Int), ex, RgOk.of_le (by omega) (by omega) (by omega) (by omega), by rw [rgV_tab]; exact q⟩)
theorem rep_int {i : Int} {n : Nat} (h : H a = some (.lst [.int i])) (hn : n ≤ 1000000) (q : ∀ p, H p = none → Q (.ref p) (upd H p (.lst ((List.replicate n i).map V.int)))) : Cl (rRep (.ref a) (.int (n : Int))) H Q :=
  r_rep h (by omega) (by omega) (by rw [Int.toNat_natCast, sizeLine_eq]; show 1 * n ≤ _; omega) (by
    have e : (List.replicate (n : Int).toNat [V.int i]).flatten = (List.replicate n i).map V.int := by
      rw [Int.toNat_natCast, List.map_replicate]
      clear q hn
      induction n with
      | zero => rfl
      | succ n ih => rw [List.replicate_succ, List.flatten_cons, ih]; rfl
    rw [e]
    exact q)
theorem catA_ints (h1 : H a = some (.tup (ns.map V.int))) (h2 : H b = some (.tup (ms.map V.int))) (hz : ns.length + ms.length ≤ sizeLine) (q : ∀ p H', Same H H' → H' p = some (.tup ((ns ++ ms).map V.int)) → Q (.ref p) H') : Cl (rCatA K (.ref a) (.ref b)) H Q := fun H1 e Q' q' =>
  ⟨a, b, _, _, rfl, rfl, SqT.of (e _ _ h1), SqT.of (e _ _ h2), by rw [List.length_map, List.length_map]; exact hz,
    fun en => q' _ _ _ (q b H (Same.refl _) (by rw [h2, List.map_append, en]; rfl)) e,
    fun _ en => q' _ _ _ (q a H (Same.refl _) (by rw [h1, List.map_append, en, List.append_nil])) e,
    fun _ _ p hp => q' _ _ _ (q p _ (same_new (e.free hp)) (by rw [List.map_append]; exact upd_same)) (sameUpd e)⟩
end
/-! ### loops that change one slot alone -/
section
variable {K : PySem.W.Frag} {σ : L2.St} {H : Hp} {t : TS} {nx bk ct : L2.St → Hp → Prop} {rt : VK} {k : Nat}
theorem s_eachL {tl : TE} (hk : ∃ v, σ.set k v = σ) (h : Cl (tl σ) H fun x Hb => ∃ a xs, x = .ref a ∧ SqL K Hb a xs ∧ (∀ y ∈ xs, S t (fun σ2 H2 => (∃ v, σ2 = σ.set k v) ∧ H2 = Hb) rt nx (fun σ2 H2 => (∃ v, σ2 = σ.set k v) ∧ H2 = Hb) (σ.set k (some y)) Hb) ∧ ∀ v, nx (σ.set k v) Hb) : S (tFor (iList K tl) (gName k) t) nx rt bk ct σ H := by
  refine s_forL (cl_mono h ?_)
  rintro x Hb ⟨a, xs, ex, hs, hb, hn⟩
  refine ⟨a, xs, ex, hs, fun i σ' Hc => (∃ v, σ' = σ.set k v) ∧ Hc = Hb, ⟨hk.imp fun v e => e.symm, rfl⟩, ?_, ?_, ?_⟩
  · rintro i σ' Hc _ ⟨_, rfl⟩
    exact hs
  · rintro i y σ' Hc hy ⟨⟨v, rfl⟩, rfl⟩
    refine g_name ?_
    rw [List.set_set]
    exact hb y (List.mem_of_getElem? hy)
  · rintro σ' Hc ⟨⟨v, rfl⟩, rfl⟩
    exact hn v
theorem s_eachT {tl : TE} (hk : ∃ v, σ.set k v = σ) (h : Cl (tl σ) H fun x Hb => ∃ a xs, x = .ref a ∧ SqT K Hb a xs ∧ (∀ y ∈ xs, S t (fun σ2 H2 => (∃ v, σ2 = σ.set k v) ∧ H2 = Hb) rt nx (fun σ2 H2 => (∃ v, σ2 = σ.set k v) ∧ H2 = Hb) (σ.set k (some y)) Hb) ∧ ∀ v, nx (σ.set k v) Hb) : S (tFor (iTup K tl) (gName k) t) nx rt bk ct σ H := by
  refine s_forT (cl_mono h ?_)
  rintro x Hb ⟨a, xs, ex, hs, hb, hn⟩
  refine ⟨a, xs, ex, hs, fun i σ' Hc => (∃ v, σ' = σ.set k v) ∧ Hc = Hb, ⟨hk.imp fun v e => e.symm, rfl⟩, ?_, ?_, ?_⟩
  · rintro i σ' Hc _ ⟨_, rfl⟩
    exact hs
  · rintro i y σ' Hc hy ⟨⟨v, rfl⟩, rfl⟩
    refine g_name ?_
    rw [List.set_set]
    exact hb y (List.mem_of_getElem? hy)
  · rintro σ' Hc ⟨⟨v, rfl⟩, rfl⟩
    exact hn v
theorem s_eachR {ta : TA} (hk : ∃ v, σ.set k v = σ) (h : Cl (ta σ) H fun vs Hb => ∃ n : Int, vs = [.int n] ∧ n ≤ 1000000 ∧ -1000000 ≤ n ∧ (∀ i : Nat, (i : Int) < n → S t (fun σ2 H2 => (∃ v, σ2 = σ.set k v) ∧ H2 = Hb) rt nx (fun σ2 H2 => (∃ v, σ2 = σ.set k v) ∧ H2 = Hb) (σ.set k (some (.int (i : Int)))) Hb) ∧ ∀ v, nx (σ.set k v) Hb) : S (tFor (iRng1 ta) (gName k) t) nx rt bk ct σ H := by
  refine s_forR1 (cl_mono h ?_)
  rintro x Hb ⟨n, ex, h1, h2, hb, hn⟩
  refine ⟨n, ex, by omega, by omega, fun i σ' Hc => (∃ v, σ' = σ.set k v) ∧ Hc = Hb, ⟨hk.imp fun v e => e.symm, rfl⟩, ?_, ?_⟩
  · rintro i σ' Hc hi ⟨⟨v, rfl⟩, rfl⟩
    rw [List.set_set]
    exact hb i hi
  · rintro σ' Hc ⟨⟨v, rfl⟩, rfl⟩
    exact hn v
end
/-! ### comprehensions from ints to ints -/
section
variable {K : PySem.W.Frag} {σ : L2.St} {H : Hp} {Q : VK} {te : TE} {tt : TT} {vs : List Nat} {j : Nat}
def pV (p : Int → Bool) : V → Bool
  | .int n => p n
  | _ => false
def fV (f : Int → Int) : V → V
  | .int n => .int (f n)
  | v => v
theorem lcI_out (ns : List Int) (p : Int → Bool) (f : Int → Int) : ((ns.map V.int).filter (pV p)).map (fV f) = ((ns.filter p).map f).map V.int := by
  induction ns with
  | nil => rfl
  | cons n ns ih =>
    rw [List.map_cons, List.filter_cons, List.filter_cons]
    show (if p n = true then V.int n :: List.filter (pV p) (ns.map V.int) else List.filter (pV p) (ns.map V.int)).map (fV f) = _
    by_cases h : p n = true
    · rw [if_pos h, if_pos h, List.map_cons, List.map_cons, List.map_cons, ih]
      rfl
    · rw [if_neg h, if_neg h, ih]
theorem c_lcLI {tl : TE} (hw : ∀ x, wipe ((wipe σ vs).set j (some x)) vs = wipe σ vs) (p : Int → Bool) (f : Int → Int) (h : Cl (tl σ) H fun x Hb => ∃ (a : Addr) (ns : List Int), x = .ref a ∧ SqL K Hb a (ns.map V.int) ∧ ns.length ≤ sizeLine ∧
      (∀ n ∈ ns, Pu (tt ((wipe σ vs).set j (some (.int n)))) Hb (p n)) ∧ (∀ n ∈ ns, p n = true → Pu (te ((wipe σ vs).set j (some (.int n)))) Hb (.int (f n))) ∧
      ∀ D, Hb D = none → Q (.ref D) (upd Hb D (.lst (((ns.filter p).map f).map V.int)))) : Cl (tLc (iList K tl) (gName j) tt te vs σ) H Q :=
  c_lcL hw (pV p) (fV f) (cl_mono h fun x Hb ⟨a, ns, ex, hs, hz, ht, he, q⟩ => ⟨a, _, ex, hs, by rw [List.length_map]; exact hz, fun x hx => by
      obtain ⟨n, hn, rfl⟩ := List.mem_map.mp hx
      exact fun Hc e => ht n hn Hc e, fun x hx hp => by
      obtain ⟨n, hn, rfl⟩ := List.mem_map.mp hx
      exact fun Hc e => he n hn hp Hc e, fun D hD => by rw [lcI_out]; exact q D hD⟩)
theorem c_lcTI {tl : TE} (hw : ∀ x, wipe ((wipe σ vs).set j (some x)) vs = wipe σ vs) (p : Int → Bool) (f : Int → Int) (h : Cl (tl σ) H fun x Hb => ∃ (a : Addr) (ns : List Int), x = .ref a ∧ SqT K Hb a (ns.map V.int) ∧ ns.length ≤ sizeLine ∧
      (∀ n ∈ ns, Pu (tt ((wipe σ vs).set j (some (.int n)))) Hb (p n)) ∧ (∀ n ∈ ns, p n = true → Pu (te ((wipe σ vs).set j (some (.int n)))) Hb (.int (f n))) ∧
      ∀ D, Hb D = none → Q (.ref D) (upd Hb D (.lst (((ns.filter p).map f).map V.int)))) : Cl (tLc (iTup K tl) (gName j) tt te vs σ) H Q :=
  c_lcT hw (pV p) (fV f) (cl_mono h fun x Hb ⟨a, ns, ex, hs, hz, ht, he, q⟩ => ⟨a, _, ex, hs, by rw [List.length_map]; exact hz, fun x hx => by
      obtain ⟨n, hn, rfl⟩ := List.mem_map.mp hx
      exact fun Hc e => ht n hn Hc e, fun x hx hp => by
      obtain ⟨n, hn, rfl⟩ := List.mem_map.mp hx
      exact fun Hc e => he n hn hp Hc e, fun D hD => by rw [lcI_out]; exact q D hD⟩)
theorem c_lcR1I {ta : TA} (hw : ∀ x, wipe ((wipe σ vs).set j (some x)) vs = wipe σ vs) (p : Int → Bool) (f : Int → Int) (h : Cl (ta σ) H fun ws Hb => ∃ n : Nat, ws = [.int (n : Int)] ∧ n ≤ sizeLine ∧
      (∀ i : Nat, i < n → Pu (tt ((wipe σ vs).set j (some (.int (i : Int))))) Hb (p i)) ∧ (∀ i : Nat, i < n → p i = true → Pu (te ((wipe σ vs).set j (some (.int (i : Int))))) Hb (.int (f i))) ∧
      ∀ D, Hb D = none → Q (.ref D) (upd Hb D (.lst ((((Lm.tab n id).filter p).map f).map V.int)))) : Cl (tLc (iRng1 ta) (gName j) tt te vs σ) H Q :=
  c_lcR1 hw (pV p) (fV f) (cl_mono h fun x Hb ⟨n, ex, hz, ht, he, q⟩ => ⟨n, ex, hz, fun i hi Hc e => ht i hi Hc e, fun i hi hp Hc e => he i hi hp Hc e, fun D hD => by
      have e : ((List.range n).map fun i : Nat => V.int (i : Int)) = (Lm.tab n id).map V.int := by
        unfold Lm.tab
        rw [List.map_map]
        rfl
      rw [e, lcI_out]
      exact q D hD⟩)
theorem c_lcR2I {ta : TA} (hw : ∀ x, wipe ((wipe σ vs).set j (some x)) vs = wipe σ vs) (p : Int → Bool) (f : Int → Int) (h : Cl (ta σ) H fun ws Hb => ∃ lo hi : Int, ws = [.int lo, .int hi] ∧ (-1000000 ≤ lo ∧ hi ≤ 1000000 ∧ lo ≤ 1000000 ∧ -1000000 ≤ hi) ∧
      (∀ i : Nat, lo + (i : Int) < hi → Pu (tt ((wipe σ vs).set j (some (.int (lo + (i : Int)))))) Hb (p (lo + (i : Int)))) ∧ (∀ i : Nat, lo + (i : Int) < hi → p (lo + (i : Int)) = true → Pu (te ((wipe σ vs).set j (some (.int (lo + (i : Int)))))) Hb (.int (f (lo + (i : Int))))) ∧
      ∀ D, Hb D = none → Q (.ref D) (upd Hb D (.lst ((((Lm.tab (hi - lo).toNat (fun i => lo + i)).filter p).map f).map V.int)))) : Cl (tLc (iRng2 ta) (gName j) tt te vs σ) H Q :=
  c_lcR2 hw (pV p) (fV f) (cl_mono h fun x Hb ⟨lo, hi, ex, hz, ht, he, q⟩ => ⟨lo, hi, ex, by omega, by rw [sizeLine_eq]; omega, fun i h Hc e => ht i (by omega) Hc e, fun i h hp Hc e => he i (by omega) hp Hc e, fun D hD => by
      have e : ((List.range (hi - lo).toNat).map fun i : Nat => V.int (lo + (i : Int))) = (Lm.tab (hi - lo).toNat (fun i => lo + i)).map V.int := by
        unfold Lm.tab
        rw [List.map_map]
        rfl
      rw [e, lcI_out]
      exact q D hD⟩)
end
/-! ### comprehensions of things that are made in the turn -/
theorem c_lcLD {K : PySem.W.Frag} {σ : L2.St} {H : Hp} {Q : VK} {te : TE} {vs : List Nat} {j : Nat} {tl : TE} (hw : ∀ x, wipe ((wipe σ vs).set j (some x)) vs = wipe σ vs) (f : V → PyData) (h : Cl (tl σ) H fun x Hb => ∃ a xs, x = .ref a ∧ SqL K Hb a xs ∧ xs.length ≤ sizeLine ∧
      (∀ x ∈ xs, ∀ Hc, Same Hb Hc → Cl (te ((wipe σ vs).set j (some x))) Hc fun y H4 => Dp K (np Hc H4) y (f x) ∧ Same Hc H4) ∧
      ∀ D ys Hc He, Hb D = none → Same Hb Hc → Hc D = some (.lst ys) → Same He Hc → (∀ b o, Hb b = some o → He b = none) → DpAll K He ys (xs.map f) → Q (.ref D) Hc) : Cl (tLc (iList K tl) (gName j) tYes te vs σ) H Q := fun H1 e Q' q' =>
  h H1 e _ fun x Hb H2 ⟨a, xs, ex, hs, hn, he, q⟩ e2 => ⟨a, ex, ⟨xs, e2.seq hs⟩, lc_dat (g := gName j) (src_list xs) e2 hs hn (fun _ => true) f
    (fun i hi Hc hc => g_name ⟨hw _, t_yes ⟨rfl, Same.refl _, fun _ => he _ (getD_mem hi) Hc hc⟩⟩) (by
      intro D ys Hc He h1 h2 h3 h5 h6 h4
      rw [filter_true, range_getD] at h4
      exact q D ys Hc He h1 h2 h3 h5 h6 h4) q'⟩
theorem neD_lists {K : PySem.W.Frag} {H : Hp} {Q : VK} {a b : Addr} {xs : List V} {ds : List PyData} (h1 : SqL K H a xs) (h2 : SqL K H b xs) (hd : DpAll K H xs ds) (d1 : PyData.canLayAll0 ds = true) (d2 : PyData.depthAll ds ≤ 20) (q : Q (.bl false) H) : Cl (rNeD K (.ref a) (.ref b)) H Q := neD_dp (.lst h1 hd) (.lst h2 hd) (shaped_list d1 d2) q
theorem dpAll_at {K : PySem.W.Frag} {H : Hp} : ∀ {vs : List V} {ds : List PyData}, DpAll K H vs ds → ∀ k : Nat, k < vs.length → Dp K H (vs.getD k .non) (ds.getD k .none)
  | _, _, .nil, _, h => (nomatch h)
  | _, _, .cons h1 _, 0, _ => h1
  | _, _, .cons _ h2, k + 1, h => dpAll_at h2 k (Nat.lt_of_succ_lt_succ h)
theorem layAll_at : ∀ {ds : List PyData}, PyData.canLayAll0 ds = true → PyData.depthAll ds ≤ 20 → ∀ k : Nat, SeqAt.shaped (ds.getD k .none) = true
  | [], _, _, k => by
    rw [List.getD_nil]
    rfl
  | d :: ds, h1, h2, 0 => by
    rw [PyData.canLayAll0, Bool.and_eq_true] at h1
    rw [PyData.depthAll] at h2
    unfold SeqAt.shaped
    show (d.canLay0 && decide (d.depth ≤ 64)) = true
    rw [h1.1, Bool.true_and]
    exact decide_eq_true (by omega)
  | d :: ds, h1, h2, k + 1 => by
    rw [PyData.canLayAll0, Bool.and_eq_true] at h1
    rw [PyData.depthAll] at h2
    exact layAll_at h1.2 (by omega) k
theorem layAll_of : ∀ {ds : List PyData}, (∀ d ∈ ds, d.canLay0 = true ∧ d.depth ≤ 20) → PyData.canLayAll0 ds = true ∧ PyData.depthAll ds ≤ 20
  | [], _ => ⟨rfl, Nat.zero_le _⟩
  | d :: ds, h => by
    have h1 := h d List.mem_cons_self
    have h2 := layAll_of fun e he => h e (List.mem_cons_of_mem _ he)
    rw [PyData.canLayAll0, PyData.depthAll, h1.1, h2.1]
    exact ⟨rfl, by omega⟩
theorem b_srt {K : PySem.W.Frag} {H : Hp} {Q : VK} {a : Addr} {ns : List Int} (h : SqL K H a (ns.map V.int)) (q : ∀ p, H p = none → Q (.ref p) (upd H p (.lst ((Lm.srt ns).map V.int)))) : Cl (rSortedI K [.ref a]) H Q := b_sorted h fun ms h1 h2 => by
  rw [Lm.srt_unique h1 h2]
  exact q
theorem s_cutStr {σ : L2.St} {H : Hp} {t : TS} {nx bk ct : L2.St → Hp → Prop} {rt : VK} (k : Nat) (h : S t (fun σ' Hb => Same H Hb ∧ ∃ w : Str, σ' = σ.set k (some (.str w))) rt bk ct σ H) (q : ∀ (w : Str) Hb, Same H Hb → nx (σ.set k (some (.str w))) Hb) : S t nx rt bk ct σ H :=
  s_cut _ h (by
    rintro σ' Hb ⟨s, w, rfl⟩
    exact q w Hb s)
theorem cat33 {H : Hp} {Q : VK} {a b : Addr} {x y z u v w : V} (h1 : H a = some (.lst [x, y, z])) (h2 : H b = some (.lst [u, v, w])) (q : ∀ p, H p = none → Q (.ref p) (upd H p (.lst [x, y, z, u, v, w]))) : Cl (rCat (.ref a) (.ref b)) H Q := r_cat h1 h2 (by rw [sizeLine_eq]; show 3 + 3 ≤ 16777216; decide) q
/-! ### one of a few -/
theorem atI_pick {xs : List V} {i : Int} (h0 : 0 ≤ i) (h1 : i < xs.length) : ∃ v, atI xs i = some v ∧ v ∈ xs := by
  obtain ⟨k, rfl⟩ := Int.eq_ofNat_of_zero_le h0
  have hk : k < xs.length := by omega
  exact ⟨xs[k], atI_nat (by simp [hk]), List.getElem_mem hk⟩
theorem ixL_pick {K : PySem.W.Frag} {H : Hp} {Q : VK} {a : Addr} {xs : List V} {i : Int} (h : SqL K H a xs) (h0 : 0 ≤ i) (h1 : i < xs.length) (q : ∀ v ∈ xs, Q v H) : Cl (rIxL K (.ref a) (.int i)) H Q := by
  obtain ⟨v, e, hv⟩ := atI_pick h0 h1
  exact r_ixL h e (q v hv)
end La

/-! list(reversed(x)), x a list or a tuple. -/
namespace La
open PySem L2 PySem.Spec PyProof.Rows RT PySem.W
theorem nolen_rt : typeLookup (.type "reversed") "__len__" = pure none := by rw [typeLookup_type, builtinLookup_eq_fast]; kernel_rfl
theorem hint_rt : typeLookup (.type "reversed") "__length_hint__" = pure (some (.builtin "reversed.__length_hint__")) := by rw [typeLookup_type, builtinLookup_eq_fast]; kernel_rfl
section
variable {prog : Program} {w : World} {A : Around} {E : Value → Shared → Prop} {s : Shared}
theorem hint_lrev {it : Addr} {Q : Bool → Shared → Prop} (hT : s.TypeIs (.ref it) "list_reverseiterator") (q : ∀ b tk, Q b { s with toks := tk }) : wpAny (model prog w) A (Builtin.List.listLengthHint (.ref it)) Q E s := by
  unfold Builtin.List.listLengthHint
  refine wpAny_bind (wpAny_specialOf hT nolen_lri ?_)
  show wpAny _ A (specialOf (Value.ref it) (Str.ofString "__length_hint__") >>= _) _ _ _
  refine wpAny_bind (wpAny_specialOf hT hint_lri ?_)
  generalize hid : ("list_reverseiterator.__length_hint__" : String) = id0
  wp_delta
  rw [show splitId id0 = some ("list_reverseiterator", "__length_hint__") from by subst hid; decide +kernel]
  subst hid
  refine wpAny_bind (wpAny_isInstance (b := true) hT (by rw [isSubtype_type]; kernel_rfl) ?_)
  exact wpAny_pure (q _ s.toks)
/-- list(it): it walks itself -/
theorem self_call {T : String} {it d : Addr} {n : Nat} {P : Nat → Value → Prop} {St : Nat → Heap → Prop} {Q : Value → Shared → Prop} (W : ∀ A : Around, A.handled = none → Walks prog w A it [it, d] [it] n P St) (hh : A.handled = none) (hty : ∀ s : Shared, St 0 s.heap → s.TypeIs (.ref it) T)
    (notList : (Value.type T == Value.type "list") = false) (notTuple : (Value.type T == Value.type "tuple") = false)
    (hint : ∀ (A : Around) (E : Value → Shared → Prop) (s : Shared) (Q : Bool → Shared → Prop), St 0 s.heap → (∀ b tk, Q b { s with toks := tk }) → wpAny (model prog w) A (Builtin.List.listLengthHint (.ref it)) Q E s)
    (hst : St 0 s.heap) (hi : it < s.heap.objs.size) (hd : d < s.heap.objs.size) (hn : n ≤ sizeLine)
    (hQ : ∀ h' tk acc' c', (∀ b o, b ≠ it → s.heap.get? b = some o → h'.get? b = some o) → h'.get? s.heap.objs.size = some { cls := .type "list", dict := none, data := .seq acc' c', slots := #[] } → ItemsOf P acc' n → Q (.ref s.heap.objs.size) { s with heap := h', toks := tk }) :
    wpAny (model prog w) A (call (.type "list") [.ref it]) Q E s := by
  refine callType_codes (Q₁ := fun obj s₁ => obj = .ref s.heap.objs.size ∧ s₁ = { s with heap := s.heap.push { cls := .type "list", data := .seq #[] } }) PySem.F.called_list (PySem.F.typeCall_list_1 _) PySem.F.entry_list_init
    (code_list_new _ ⟨rfl, rfl⟩) fun obj s₁ h₁ => ?_
  obtain ⟨rfl, rfl⟩ := h₁
  have hS : (s.heap.push { cls := .type "list", data := .seq #[] }).get? s.heap.objs.size = some { cls := .type "list", data := .seq #[] } := Heap.get?_push_size _ rfl
  have hSi : s.heap.objs.size ≠ it := Nat.ne_of_gt hi
  have hSd : s.heap.objs.size ≠ d := Nat.ne_of_gt hd
  have hSf : s.heap.objs.size ∉ [it, d] := by simp only [List.mem_cons, List.not_mem_nil, or_false, not_or]; exact ⟨hSi, hSd⟩
  have W1 := W A.in1.in1 hh
  refine ⟨⟨_, hS, rfl⟩, PySem.F.args_list_init_2 _ _, ?_⟩
  show wpAny _ _ (do let old ← Builtin.List.listItems (.ref s.heap.objs.size); Builtin.List.listUpdate (.ref s.heap.objs.size) (fun _ => #[]); letGo old.toList.reverse; Builtin.List.listExtendWith (.ref s.heap.objs.size) (.ref it) .none) _ _ _
  refine wpAny_bind ?_
  unfold Builtin.List.listItems
  refine wpAny_bind (wpAny_seqItems hS rfl (wpAny_pure ?_))
  show wpAny _ _ (updateSeq s.heap.objs.size (fun _ => #[]) >>= fun _ => letGo (#[] : Array Value).toList.reverse >>= fun _ => Builtin.List.listExtendWith (.ref s.heap.objs.size) (.ref it) .none) _ _ _
  refine wpAny_bind (wpAny_updateSeq hS rfl ?_)
  have hS₂ := Heap.get?_update_self (Obj.mapSeq (fun _ => (#[] : Array Value))) hS rfl
  have oth : ∀ b o, b ≠ s.heap.objs.size → s.heap.get? b = some o → ((s.heap.push { cls := .type "list", data := .seq #[] }).update s.heap.objs.size (Obj.mapSeq (fun _ => (#[] : Array Value)))).get? b = some o :=
    fun b o hb e => (Heap.get?_update_other _ _ (Ne.symm hb)).trans (Heap.get?_push_of_some _ e)
  have st2 : St 0 ((s.heap.push { cls := .type "list", data := .seq #[] }).update s.heap.objs.size (Obj.mapSeq (fun _ => (#[] : Array Value)))) := W1.frame 0 _ _ hst fun b hb o e => oth b o (fun z => hSf (z ▸ hb)) e
  refine wpAny_bind (wpAny_letGo ?_)
  generalize hg : (s.heap.push { cls := .type "list", data := .seq #[] }).update s.heap.objs.size (Obj.mapSeq (fun _ => (#[] : Array Value))) = h2 at *
  have key : ∀ (h : Heap) (c₁ tk : Nat), St 0 h → (∀ b o, b ≠ s.heap.objs.size → h2.get? b = some o → h.get? b = some o) →
      h.get? s.heap.objs.size = some { cls := .type "list", data := .seq #[] c₁ } → codeAny (model prog w) A.in1 (.builtin "list.extend.loop" ⟨[.ref s.heap.objs.size, .ref it, .none], []⟩) (wants (fun r s₂ => r = Value.none ∧ Q (.ref s.heap.objs.size) s₂) E) { s with heap := h, toks := tk } := by
    intro h c₁ tk hst hk hS₁
    refine codeAny_extend_loopS W1.toS hn _ hSf .none n 0 _ #[] c₁ rfl (Nat.zero_le _) hst hS₁ (ItemsOf.nil _) fun s' acc' c' hm hS' hacc => ⟨rfl, ?_⟩
    rw [Moved.eq_with hm]
    refine hQ s'.heap s'.toks acc' c' (fun b o hb e => ?_) hS' hacc
    have hbS : b ≠ s.heap.objs.size := Nat.ne_of_lt (Heap.lt_size e)
    refine hm.heap b o (fun hmem => ?_) (hk b o hbS (oth b o hbS e))
    rcases List.mem_cons.mp hmem with e' | hmem
    · exact hbS e'
    · exact hb (List.mem_singleton.mp hmem)
  unfold Builtin.List.listExtendWith
  refine wpAny_bind (wpAny_typeOf (T := T) (hty _ st2) ?_)
  have h1 : Builtin.List.listSameRef (.ref s.heap.objs.size) (.ref it) = false := by simp [Builtin.List.listSameRef, hSi]
  simp only [h1, notList, notTuple, Bool.or_false, Bool.false_eq_true, if_false]
  refine wpAny_bind (W1.self 0 { s with heap := h2 } _ _ st2 ?_)
  refine wpAny_bind (wpAny_holding (hint _ _ _ _ st2 fun b tk => ?_))
  refine wpAny_ite_split (fun _ => ?_) (fun _ => wpAny_pure ⟨plainId_quiet PySem.F.plain_extend_loop _, key _ _ _ st2 (fun b o _ e => e) hS₂⟩)
  refine wpAny_bind (wpAny_rule ?_)
  refine wpAny_bind ?_
  show wpAny _ _ (updateSeq s.heap.objs.size (·.push .none) >>= fun _ => updateSeq s.heap.objs.size (·.pop)) _ _ _
  refine wpAny_bind (wpAny_updateSeq hS₂ rfl ?_)
  have hS₃ := Heap.get?_update_self (Obj.mapSeq (·.push Value.none)) hS₂ rfl
  refine wpAny_updateSeq (hz := by seq_fits) hS₃ rfl ?_
  have hS₄ := Heap.get?_update_self (Obj.mapSeq (·.pop)) hS₃ rfl
  refine wpAny_pure ⟨plainId_quiet PySem.F.plain_extend_loop _, key _ _ _ ?_ (fun b o hb e => ?_) hS₄⟩
  · refine W1.frame 0 _ _ st2 fun b hb o e => ?_
    have hbS : b ≠ s.heap.objs.size := fun h => hSf (h ▸ hb)
    exact (Heap.get?_update_other _ _ (Ne.symm hbS)).trans ((Heap.get?_update_other _ _ (Ne.symm hbS)).trans e)
  · exact (Heap.get?_update_other _ _ (Ne.symm hb)).trans ((Heap.get?_update_other _ _ (Ne.symm hb)).trans e)
/-! ### the hint of reversed(tuple) -/
theorem slot_rt_hint : Slot "reversed" "__length_hint__" "reversed.__length_hint__" :=
  .of (owner := "reversed") (n := "__length_hint__") (by rw [typeLookup_type, builtinLookup_eq_fast]; kernel_rfl) (by decide +kernel) (by decide +kernel) (by decide +kernel)
    (by first | exact .inl (by decide +kernel) | exact .inr (by decide +kernel)) (by rw [isSubtype_type]; kernel_rfl)
theorem entry_rt_hint : entryFor table "reversed.__length_hint__" = some Builtin.«reversed.__length_hint__» := entryFor_of_tree (by kernel_rfl)
theorem args_rt_hint (a : Value) : argsOk "reversed.__length_hint__" ⟨[a], []⟩ := by
  unfold argsOk; rw [signature?_of (id := "reversed.__length_hint__") (n := ['_', '_', 't', 'n', 'i', 'h', '_', 'h', 't', 'g', 'n', 'e', 'l', '_', '_']) (o := ['d', 'e', 's', 'r', 'e', 'v', 'e', 'r']) (by kernel_rfl) owner_rt]; kernel_rfl
theorem hint_trev {it t : Addr} {i : Int} {items : Array Value} {Q : Bool → Shared → Prop} (hit : IsRt s.heap it t i) (ht : IsTup s.heap t items) (hsz : items.size ≤ sizeLine) (hi : -1 ≤ i ∧ i < items.size) (q : ∀ b tk, Q b { s with toks := tk }) : wpAny (model prog w) A (Builtin.List.listLengthHint (.ref it)) Q E s := by
  obtain ⟨o, ho, hc, hd⟩ := id hit
  have hT := hit.typeIs
  rw [sizeLine_eq] at hsz
  unfold Builtin.List.listLengthHint
  refine wpAny_bind (wpAny_specialOf hT nolen_rt ?_)
  show wpAny _ A (specialOf (Value.ref it) (Str.ofString "__length_hint__") >>= _) _ _ _
  refine wpAny_bind (wpAny_specialOf hT hint_rt ?_)
  generalize hid : ("reversed.__length_hint__" : String) = id0
  wp_delta
  rw [show splitId id0 = some ("reversed", "__length_hint__") from by subst hid; decide +kernel]
  subst hid
  refine wpAny_bind (wpAny_isInstance (b := true) hT (by rw [isSubtype_type]; kernel_rfl) ?_)
  show wpAny _ _ (rule "list.length-hint.hint" >>= _) _ _ _
  refine wpAny_bind (wpAny_rule ?_)
  refine wpAny_bind (wpAny_of_eq (slot_rt_hint.bind _) ?_)
  refine wpAny_bind (wpAny_attempt ?_)
  refine wpAny_call_entry slot_rt_hint hT entry_rt_hint ?_ (args_rt_hint _)
  unfold Builtin.«reversed.__length_hint__»
  refine wpAny_bind (wpAny_of_eq (a := Value.ref it) rfl ?_)
  try dsimp only
  refine wpAny_bind (wpAny_field ho hd (x := .ref t) rfl ?_)
  try dsimp only
  try rw [if_neg (by decide)]
  try dsimp only
  refine wpAny_bind (len_tuple ht (by omega) ?_)
  refine wpAny_bind (wpAny_of_eq (a := some ((items.size : Nat) : Int)) rfl ?_)
  try dsimp only
  refine wpAny_bind (wpAny_field (s := { s with toks := s.toks + 1 + 1 }) ho hd (x := rawInt i) rfl ?_)
  show wpAny _ _ (if (items.size : Int) < i + 1 then _ else _) _ _ _
  rw [if_neg (by omega)]
  show wpAny _ _ (retInt (i + 1)) _ _ _
  unfold retInt
  refine wpAny_bind (wpAny_mkInt ?_)
  refine wpAny_pure ⟨_, rfl, ?_⟩
  try dsimp only
  refine wpAny_bind (wpAny_of_eq (a := some (i + 1)) rfl ?_)
  try dsimp only
  have e1 : Builtin.List.listFitsIndex (i + 1) = true := by
    unfold Builtin.List.listFitsIndex
    rw [Bool.and_eq_true]
    exact ⟨decide_eq_true (by omega), decide_eq_true (by omega)⟩
  have e2 : Builtin.List.listTooLong (i + 1).toNat = false := by
    unfold Builtin.List.listTooLong
    rw [sizeLine_eq]
    exact decide_eq_false (by omega)
  rw [e1, e2, if_neg (by decide), if_neg (by omega), if_neg (by decide)]
  exact wpAny_pure (q _ _)
theorem Walks.tupRev (hh : A.handled = none) (I t : Addr) (hne : t ≠ I) (items : Array Value) (hsz : items.size ≤ sizeLine) :
    Walks prog w A I [I, t] [I] items.size (fun i v => items[items.size - 1 - i]? = some v) (fun i h => i ≤ items.size ∧ IsRt h I t ((items.size : Int) - 1 - (i : Int)) ∧ IsTup h t items) where
  sub := fun b hb => by simp at hb; simp [hb]
  frame := fun _ _ _ x hk => ⟨x.1, x.2.1.at fun o e => hk I (by simp) o e, let ⟨o, ho, r⟩ := x.2.2; ⟨o, hk t (by simp) o ho, r⟩⟩
  item := fun i s Q E hi x hQ => by
    have e : (items.size : Int) - 1 - (i : Int) = ((items.size - 1 - i : Nat) : Int) := by omega
    have hit := x.2.1
    rw [e] at hit
    have hx : items[items.size - 1 - i]? = some (items[items.size - 1 - i]'(by omega)) := Array.getElem?_eq_getElem (by omega)
    refine next_rt_item hit x.2.2 hx hsz fun h' hit' hs' => ?_
    have e2 : ((items.size - 1 - i : Nat) : Int) - 1 = (items.size : Int) - 1 - ((i + 1 : Nat) : Int) := by omega
    rw [e2] at hit'
    obtain ⟨o, ho, r⟩ := x.2.2
    exact hQ _ h' _ hx ⟨hi, hit', o, (hs'.2 t hne).trans ho, r⟩ fun b o hb eo => hs'.extBut b o (fun h => hb (by simp [h])) eo
  done := fun s Q E x hQ => by
    have e : (items.size : Int) - 1 - (items.size : Int) = -1 := by omega
    have hit := x.2.1
    rw [e] at hit
    exact next_rt_end hh hit fun h' he' => hQ h' s.toks fun b o hb eo => he' b o (fun h => hb (by simp [h])) eo
  self := fun _ _ _ _ x hQ => iter_rt x.2.1 hQ
end
/-- list(reversed(x)), x a list -/
def tLstRevL (K : PySem.W.Frag) (te : TE) : TE := fun σ H Q => te σ H fun v H1 => ∃ (a : Addr) (xs : List V), v = .ref a ∧ SqL K H1 a xs ∧ ∀ q, H1 q = none → Q (.ref q) (upd H1 q (.lst xs.reverse))
/-- list(reversed(x)), x a tuple -/
def tLstRevT (K : PySem.W.Frag) (te : TE) : TE := fun σ H Q => te σ H fun v H1 => ∃ (a : Addr) (xs : List V), v = .ref a ∧ SqT K H1 a xs ∧ ∀ q, H1 q = none → Q (.ref q) (upd H1 q (.lst xs.reverse))
section
variable {X : Cx}
theorem pe_listRevL {e : Expr} {te : TE} {p p2 pos pos2 : Pos} (hc : X.calm = true) (hg : Gl X "list") (hm : X.mg "list" = none) (hg2 : Gl X "reversed") (hm2 : X.mg "reversed" = none) (he : PE X e te)
    (hs : starEach [e] X.env = (false, eval e X.env) :: starEach [] X.env := by rfl)
    (hs2 : starEach [.Call (.Name "reversed" p2) [e] [] pos2] X.env = (false, eval (.Call (.Name "reversed" p2) [e] [] pos2) X.env) :: starEach [] X.env := by rfl) :
    PE X (.Call (.Name "list" p) [.Call (.Name "reversed" p2) [e] [] pos2] [] pos) (tLstRevL X.K te) := by
  refine ⟨fun pins s σ H Q I h => ?_⟩
  refine Call_ (ld_blt I hg hm boot_list (PyProof.Rows.callWith_type1 (args_cons (Call_ (ld_blt I hg2 hm2 PyProof.Rows.boot_reversed (PyProof.Rows.callWith_type1 (args_cons (thn (he.run pins s σ H _ I h) fun u s1 ⟨v, H1, I1, r1, q1⟩ => args_nil ?_) hs) hs rfl))) hs2) hs2 rfl))
  obtain ⟨a, xs, ev, hq, q⟩ := q1
  subst ev
  obtain rfl : u = Value.ref a := r1
  obtain ⟨its, rv, p', hz⟩ := I1.list hq
  refine call_reversed_list p'.isList (args_nil ?_)
  have hl := p'.isList
  obtain ⟨ol, hol, _⟩ := id hl
  have hne : a ≠ s1.heap.objs.size := Nat.ne_of_lt (Heap.lt_size hol)
  have hn : its.toArray.size ≤ sizeLine := by rw [List.size_toArray, ← rv.length]; exact hz
  have e0 : (its.toArray.size : Int) - 1 - ((0 : Nat) : Int) = (its.toArray.size : Int) - 1 := by omega
  refine self_call (T := "list_reverseiterator") (s := { s1 with heap := s1.heap.push (revObj a ((its.toArray.size : Int) - 1)) }) (it := s1.heap.objs.size) (d := a) (fun A hA => Walks.listRev hA _ _ hne its.toArray) (I1.ok.hd hc) (fun s st => st.2.1.typeIs) (by decide) (by decide)
    (fun A E s Q st q => hint_lrev st.2.1.typeIs q) ⟨Nat.zero_le _, by rw [e0]; exact ⟨_, Heap.get?_push_size _ rfl, rfl, rfl⟩, hl.push _⟩ (by simp [Heap.push]) (Nat.lt_of_lt_of_le (Heap.lt_size hol) (by simp [Heap.push])) hn fun h' tk acc c' hk hS hi => ?_
  have hk1 : ∀ b o, s1.heap.get? b = some o → h'.get? b = some o := fun b o e => hk b o (Nat.ne_of_lt (Heap.lt_size e)) (Heap.get?_push_of_some _ e)
  have le : s1.heap.objs.size ≤ (s1.heap.push (revObj a ((its.toArray.size : Int) - 1))).objs.size := by simp [Heap.push]
  refine ⟨.ref _, upd H1 _ (.lst xs.reverse), I1.laid (t' := tk) hk1 le (show ObjOk X.prog X.w _ _ _ (.lst xs.reverse) from ⟨by rw [List.length_reverse]; exact hz, acc.toList, c', vals_rev rv hi, ?_⟩), rfl, q _ (I1.hok.fresh le)⟩
  rw [Array.toArray_toList]
  exact hS
theorem pe_listRevT {e : Expr} {te : TE} {p p2 pos pos2 : Pos} (hc : X.calm = true) (hg : Gl X "list") (hm : X.mg "list" = none) (hg2 : Gl X "reversed") (hm2 : X.mg "reversed" = none) (he : PE X e te)
    (hs : starEach [e] X.env = (false, eval e X.env) :: starEach [] X.env := by rfl)
    (hs2 : starEach [.Call (.Name "reversed" p2) [e] [] pos2] X.env = (false, eval (.Call (.Name "reversed" p2) [e] [] pos2) X.env) :: starEach [] X.env := by rfl) :
    PE X (.Call (.Name "list" p) [.Call (.Name "reversed" p2) [e] [] pos2] [] pos) (tLstRevT X.K te) := by
  refine ⟨fun pins s σ H Q I h => ?_⟩
  refine Call_ (ld_blt I hg hm boot_list (PyProof.Rows.callWith_type1 (args_cons (Call_ (ld_blt I hg2 hm2 PyProof.Rows.boot_reversed (PyProof.Rows.callWith_type1 (args_cons (thn (he.run pins s σ H _ I h) fun u s1 ⟨v, H1, I1, r1, q1⟩ => args_nil ?_) hs) hs rfl))) hs2) hs2 rfl))
  obtain ⟨a, xs, ev, hq, q⟩ := q1
  subst ev
  obtain rfl : u = Value.ref a := r1
  obtain ⟨its, rv, p', hz⟩ := I1.tuple hq
  have hn : its.toArray.size ≤ sizeLine := by rw [List.size_toArray, ← rv.length]; exact hz
  have hn2 := sizeLine_eq
  refine call_reversed_tup p' (fun A E Q k => len_tuple p' (by omega) k) (args_nil ?_)
  obtain ⟨ol, hol, hr⟩ := id p'
  have hne : a ≠ s1.heap.objs.size := Nat.ne_of_lt (Heap.lt_size hol)
  have e0 : (its.toArray.size : Int) - 1 - ((0 : Nat) : Int) = (its.toArray.size : Int) - 1 := by omega
  refine self_call (T := "reversed") (s := { s1 with heap := s1.heap.push (rtObj a ((its.toArray.size : Int) - 1)), toks := s1.toks + 1 + 1 }) (it := s1.heap.objs.size) (d := a) (fun A hA => Walks.tupRev hA _ _ hne its.toArray hn) (I1.ok.hd hc) (fun s st => st.2.1.typeIs) (by decide) (by decide)
    (fun A E s Q st q => hint_trev st.2.1 st.2.2 hn (by omega) q) ⟨Nat.zero_le _, by rw [e0]; exact ⟨_, Heap.get?_push_size _ rfl, rfl, rfl⟩, ol, Heap.get?_push_of_some _ hol, hr⟩ (by simp [Heap.push]) (Nat.lt_of_lt_of_le (Heap.lt_size hol) (by simp [Heap.push])) hn fun h' tk acc c' hk hS hi => ?_
  have hk1 : ∀ b o, s1.heap.get? b = some o → h'.get? b = some o := fun b o e => hk b o (Nat.ne_of_lt (Heap.lt_size e)) (Heap.get?_push_of_some _ e)
  have le : s1.heap.objs.size ≤ (s1.heap.push (rtObj a ((its.toArray.size : Int) - 1))).objs.size := by simp [Heap.push]
  refine ⟨.ref _, upd H1 _ (.lst xs.reverse), I1.laid (t' := tk) hk1 le (show ObjOk X.prog X.w _ _ _ (.lst xs.reverse) from ⟨by rw [List.length_reverse]; exact hz, acc.toList, c', vals_rev rv hi, ?_⟩), rfl, q _ (I1.hok.fresh le)⟩
  rw [Array.toArray_toList]
  exact hS
end
section
variable {K : PySem.W.Frag} {σ : L2.St} {H : Hp} {te : TE} {Q : VK}
def RevLW (K : PySem.W.Frag) (Q : VK) (v : V) (H1 : Hp) : Prop := ∃ (a : Addr) (xs : List V), v = .ref a ∧ SqL K H1 a xs ∧ ∀ q, H1 q = none → Q (.ref q) (upd H1 q (.lst xs.reverse))
def RevTW (K : PySem.W.Frag) (Q : VK) (v : V) (H1 : Hp) : Prop := ∃ (a : Addr) (xs : List V), v = .ref a ∧ SqT K H1 a xs ∧ ∀ q, H1 q = none → Q (.ref q) (upd H1 q (.lst xs.reverse))
theorem c_revL (h : Cl (te σ) H fun v H1 => RevLW K Q v H1) : Cl (tLstRevL K te σ) H Q := fun H1 e Q' q' => h H1 e _ fun v Hb H2 ⟨a, xs, ev, hs, q⟩ e2 => ⟨a, xs, ev, e2.seq hs, cl_new q e2 q'⟩
theorem c_revT (h : Cl (te σ) H fun v H1 => RevTW K Q v H1) : Cl (tLstRevT K te σ) H Q := fun H1 e Q' q' => h H1 e _ fun v Hb H2 ⟨a, xs, ev, hs, q⟩ e2 => ⟨a, xs, ev, seqT e2 hs, cl_new q e2 q'⟩
theorem revL_ints {a : Addr} {ns : List Int} (h : SqL K H a (ns.map V.int)) (q : ∀ p, H p = none → Q (.ref p) (upd H p (.lst (ns.reverse.map V.int)))) : RevLW K Q (.ref a) H := ⟨a, _, rfl, h, fun p hp => by
  rw [← List.map_reverse]
  exact q p hp⟩
theorem revT_ints {a : Addr} {ns : List Int} (h : SqT K H a (ns.map V.int)) (q : ∀ p, H p = none → Q (.ref p) (upd H p (.lst (ns.reverse.map V.int)))) : RevTW K Q (.ref a) H := ⟨a, _, rfl, h, fun p hp => by
  rw [← List.map_reverse]
  exact q p hp⟩
end
/-! ### the rules with the written part named -/
section
variable {X : Cx} {K : PySem.W.Frag}
theorem ix_listK (hK : X.K = K) : IxR X (rIxL K) := hK ▸ ix_list
theorem ix_tupK (hK : X.K = K) : IxR X (rIxT K) := hK ▸ ix_tup
theorem sl_listK (hK : X.K = K) : SlR X (rSlL K) := hK ▸ sl_list
theorem op_inK (hK : X.K = K) : OpR X (compareOp .In) (rIn K false) := hK ▸ op_in_seq
theorem op_notInK (hK : X.K = K) : OpR X (compareOp .NotIn) (rIn K true) := hK ▸ op_notIn_seq
theorem call_isiK (hK : X.K = K) : CallR X (.builtin "isinstance") (rIsi K) := hK ▸ call_isi
theorem call_lenK (hK : X.K = K) : CallR X (.builtin "len") (Evl.rLenS K) := hK ▸ call_lenN
theorem call_listK (hK : X.K = K) : CallR X (.type "list") (Evl.rListS K) := hK ▸ call_listN
theorem call_tupK (hK : X.K = K) : CallR X (.type "tuple") (rTupOf K) := hK ▸ call_tupN
theorem cr_sortedK (hK : X.K = K) : CallR X (.builtin "sorted") (rSortedI K) := hK ▸ cr_sortedI
theorem op_catAK (hK : X.K = K) : OpR X (binaryOp .Add) (rCatA K) := hK ▸ op_catA
theorem pe_fldK {e : Expr} {ta : TE} {f : Str} {pos : Pos} (hK : X.K = K) (he : PE X e ta) (hb : attributeBase e f X.env (eval e X.env) = eval e X.env) : PE X (.Attribute e f pos) (tFld K ta f) := hK ▸ pe_fld he hb
end
end La

/-! Steps keep the ends. -/
namespace Lm
def absI (i : Int) : Int := if i < 0 then -i else i
theorem absI_cases (i : Int) : (i < 0 ∧ absI i = -i) ∨ (0 ≤ i ∧ absI i = i) := by
  unfold absI
  split
  · exact .inl ⟨by omega, rfl⟩
  · exact .inr ⟨by omega, rfl⟩
theorem split2 {rs : List Int} {k : Nat} (h : k + 2 ≤ rs.length) : rs = rs.take k ++ ([rs.getD k 0, rs.getD (k + 1) 0] ++ rs.drop (k + 2)) := by
  have e1 : rs.drop k = rs.getD k 0 :: rs.drop (k + 1) := by
    rw [List.drop_eq_getElem_cons (by omega), List.getD_eq_getElem?_getD, List.getElem?_eq_getElem (by omega)]
    rfl
  have e2 : rs.drop (k + 1) = rs.getD (k + 1) 0 :: rs.drop (k + 2) := by
    rw [List.drop_eq_getElem_cons (by omega), List.getD_eq_getElem?_getD, List.getElem?_eq_getElem (by omega)]
    rfl
  show rs = rs.take k ++ (rs.getD k 0 :: rs.getD (k + 1) 0 :: rs.drop (k + 2))
  rw [← e2, ← e1, List.take_append_drop]
theorem split3 {rs : List Int} {k : Nat} (h : k + 3 ≤ rs.length) : rs = rs.take k ++ ([rs.getD k 0, rs.getD (k + 1) 0, rs.getD (k + 2) 0] ++ rs.drop (k + 3)) := by
  have e1 : rs.drop (k + 2) = rs.getD (k + 2) 0 :: rs.drop (k + 3) := by
    rw [List.drop_eq_getElem_cons (by omega), List.getD_eq_getElem?_getD, List.getElem?_eq_getElem (by omega)]
    rfl
  have := split2 (rs := rs) (k := k) (by omega)
  rw [e1] at this
  exact this
theorem across_apart {a b : Int} (h : 2 ≤ absI (a - b)) (p : Int) : across a (across b p) = across b (across a p) := by
  have h0 := absI_cases (a - b)
  have h1 := across_cases b p
  have h2 := across_cases a p
  have h3 := across_cases a (across b p)
  have h4 := across_cases b (across a p)
  rcases h1 with ⟨_, e1⟩ | ⟨_, e1⟩ | ⟨_, _, e1⟩ <;> rcases h2 with ⟨_, e2⟩ | ⟨_, e2⟩ | ⟨_, _, e2⟩ <;> (rw [e1] at h3; rw [e2] at h4; first | (exfalso; omega) | (rw [e1, e2]; omega) | (rw [e1, e2]))
theorem across_turn {a b : Int} (h : absI (a - b) = 1) (p : Int) : across a (across b (across a p)) = across b (across a (across b p)) := by
  have h0 := absI_cases (a - b)
  have h1 := across_cases a p
  have h2 := across_cases b p
  have h3 := across_cases b (across a p)
  have h4 := across_cases a (across b p)
  have h5 := across_cases a (across b (across a p))
  have h6 := across_cases b (across a (across b p))
  rcases h1 with ⟨_, e1⟩ | ⟨_, e1⟩ | ⟨_, _, e1⟩ <;> rcases h2 with ⟨_, e2⟩ | ⟨_, e2⟩ | ⟨_, _, e2⟩ <;> (rw [e1] at h3 h5 ⊢; rw [e2] at h4 h6 ⊢) <;> (first | (exfalso; omega) | skip) <;>
    (rcases h3 with ⟨_, e3⟩ | ⟨_, e3⟩ | ⟨_, _, e3⟩ <;> rcases h4 with ⟨_, e4⟩ | ⟨_, e4⟩ | ⟨_, _, e4⟩ <;> (first | (exfalso; omega) | (rw [e3] at h5; rw [e4] at h6; (try rw [e3]); (try rw [e4]); (first | omega | (rw [e1]; omega) | (rw [e2]; omega)))))
theorem fwd_mid {a b c d : List Int} (h : ∀ p, fwd b p = fwd c p) (p : Int) : fwd (a ++ (b ++ d)) p = fwd (a ++ (c ++ d)) p := by
  rw [fwd_append, fwd_append, fwd_append, fwd_append, h]
theorem fwd_apart {rs : List Int} {k : Nat} (h : k + 2 ≤ rs.length) (hf : 2 ≤ absI (rs.getD k 0 - rs.getD (k + 1) 0)) (p : Int) : fwd (rs.take k ++ [rs.getD (k + 1) 0, rs.getD k 0] ++ rs.drop (k + 2)) p = fwd rs p := by
  refine Eq.trans ?_ (congrArg (fun l => fwd l p) (split2 h)).symm
  show fwd _ p = fwd _ p
  rw [List.append_assoc]
  exact fwd_mid (b := [rs.getD (k + 1) 0, rs.getD k 0]) (c := [rs.getD k 0, rs.getD (k + 1) 0]) (fun p => across_apart hf p) p
theorem fwd_turn {rs : List Int} {k : Nat} (h : k + 3 ≤ rs.length) (hf : absI (rs.getD k 0 - rs.getD (k + 1) 0) = 1) (he : rs.getD k 0 = rs.getD (k + 2) 0) (p : Int) : fwd (rs.take k ++ [rs.getD (k + 1) 0, rs.getD k 0, rs.getD (k + 1) 0] ++ rs.drop (k + 3)) p = fwd rs p := by
  have e := split3 h
  rw [← he] at e
  have e2 := congrArg (fun l => fwd l p) e
  refine Eq.trans ?_ e2.symm
  show fwd _ p = fwd _ p
  rw [List.append_assoc]
  exact fwd_mid (b := [rs.getD (k + 1) 0, rs.getD k 0, rs.getD (k + 1) 0]) (c := [rs.getD k 0, rs.getD (k + 1) 0, rs.getD k 0]) (fun p => (across_turn hf p).symm) p
theorem fwd_out {rs : List Int} {k : Nat} (h : k + 2 ≤ rs.length) (he : rs.getD k 0 = rs.getD (k + 1) 0) (p : Int) : fwd (rs.take k ++ rs.drop (k + 2)) p = fwd rs p := by
  have e := split2 h
  rw [← he] at e
  have e2 := congrArg (fun l => fwd l p) e
  refine Eq.trans ?_ e2.symm
  exact (fwd_mid (b := [rs.getD k 0, rs.getD k 0]) (c := []) (fun p => across_inv _ p) p).symm
theorem Ok.getD {n : Int} {rs : List Int} (h : Ok n rs) {k : Nat} (hk : k < rs.length) : 0 ≤ rs.getD k 0 ∧ rs.getD k 0 ≤ n - 2 := by
  rw [List.getD_eq_getElem?_getD, List.getElem?_eq_getElem hk]
  exact h _ (List.getElem_mem hk)
theorem Ok.cons {n r : Int} {rs : List Int} (h : 0 ≤ r ∧ r ≤ n - 2) (h2 : Ok n rs) : Ok n (r :: rs) := fun q hq => by
  rcases List.mem_cons.mp hq with rfl | hq
  · exact h
  · exact h2 q hq
end Lm

/-! sorted of pairs of ints. -/
namespace La
open PySem L2 PyProof.Rows
def prK (H : Hp) : V → Int × Int
  | .ref t => match H t with
    | some (.tup [.int i, .int j]) => (i, j)
    | _ => (0, 0)
  | _ => (0, 0)
theorem prK_of {H : Hp} {x : V} {p : Int × Int} (h : Pr H x p) : prK H x = p := by
  obtain ⟨a, rfl, h2⟩ := h
  unfold prK
  simp only [h2]
theorem PrA.all {H : Hp} {xs : List V} {ps : List (Int × Int)} (h : PrA H xs ps) : (∀ x ∈ xs, Pr H x (prK H x)) ∧ ps = xs.map (prK H) := by
  induction h with
  | nil => exact ⟨fun _ h => (nomatch h), rfl⟩
  | cons h1 _ ih =>
    refine ⟨fun x hx => ?_, ?_⟩
    · rcases List.mem_cons.mp hx with rfl | hx
      · rw [prK_of h1]
        exact h1
      · exact ih.1 x hx
    · rw [List.map_cons, prK_of h1, ← ih.2]
theorem PrA.of {H : Hp} : ∀ {xs : List V}, (∀ x ∈ xs, Pr H x (prK H x)) → PrA H xs (xs.map (prK H))
  | [], _ => .nil
  | x :: xs, h => .cons (h x List.mem_cons_self) (PrA.of fun y hy => h y (List.mem_cons_of_mem _ hy))
def lexLe (a b : Int × Int) : Prop := a.1 < b.1 ∨ (a.1 = b.1 ∧ a.2 ≤ b.2)
instance (a b : Int × Int) : Decidable (lexLe a b) := inferInstanceAs (Decidable (_ ∨ _))
theorem lexLe_anti {a b : Int × Int} (h1 : lexLe a b) (h2 : lexLe b a) : a = b := by
  unfold lexLe at h1 h2
  obtain ⟨a1, a2⟩ := a
  obtain ⟨b1, b2⟩ := b
  simp only at h1 h2
  have h : a1 = b1 ∧ a2 = b2 := by omega
  rw [h.1, h.2]
def srtP (ps : List (Int × Int)) : List (Int × Int) := ps.mergeSort (fun a b => decide (lexLe a b))
theorem srtP_perm (ps : List (Int × Int)) : (srtP ps).Perm ps := List.mergeSort_perm _ _
theorem srtP_sorted (ps : List (Int × Int)) : (srtP ps).Pairwise lexLe := by
  have h := List.pairwise_mergeSort (le := fun a b : Int × Int => decide (lexLe a b)) (fun a b c h1 h2 => by
    rw [decide_eq_true_eq] at *
    unfold lexLe at *
    omega) (fun a b => by
    rw [Bool.or_eq_true, decide_eq_true_eq, decide_eq_true_eq]
    unfold lexLe
    omega) ps
  exact h.imp fun h => of_decide_eq_true h
theorem srtP_unique {ns ms : List (Int × Int)} (h1 : ms.Perm ns) (h2 : ms.Pairwise lexLe) : ms = srtP ns :=
  List.Perm.eq_of_pairwise (fun a b _ _ h h' => lexLe_anti h h') h2 (srtP_sorted ns) (h1.trans (srtP_perm ns).symm)
theorem lexB_le {a b : Int × Int} (h : SrtO.lexB b a = false) : lexLe a b := by
  have := SrtO.lexB_no.mp h
  unfold lexLe
  omega
theorem b_srtP {K : PySem.W.Frag} {H : Hp} {Q : VK} {a : Addr} {ps : List (Int × Int)} (h : Prs K H a ps) (q : ∀ p ys, H p = none → PrA H ys (srtP ps) → Q (.ref p) (upd H p (.lst ys))) : Cl (rSortedPO K [.ref a]) H Q := fun H1 e Q' q' => by
  obtain ⟨xs, hs, hp⟩ := h
  obtain ⟨h1, h2⟩ := hp.all
  refine ⟨a, xs, prK H, rfl, e.seq hs, fun x hx => ?_, fun ys p s1 s2 hn => ?_⟩
  · obtain ⟨t, et, ht⟩ := h1 x hx
    exact ⟨t, et, e _ _ ht⟩
  · have hperm := s2.perm
    have hm : ys.map (prK H) = srtP ps := by
      refine srtP_unique ?_ ?_
      · rw [h2]
        exact hperm.map _
      · exact List.pairwise_map.mpr (s1.imp fun hh => lexB_le hh)
    refine q' _ _ _ (q p ys (e.free hn) ?_) (sameUpd e)
    rw [← hm]
    exact PrA.of fun x hx => h1 x (hperm.mem_iff.mp hx)
theorem cr_sortedPK {X : Cx} {K : PySem.W.Frag} (hK : X.K = K) : CallR X (.builtin "sorted") (rSortedPO K) := hK ▸ cr_sortedPO
theorem PrA.mut {H : Hp} {vs : List V} {ps : List (Int × Int)} {l : Addr} {zs : List V} {o : HO} (h : PrA H vs ps) (hl : H l = some (.lst zs)) : PrA (upd H l o) vs ps := PrA.imp (fun ⟨a, e1, e2⟩ => ⟨a, e1, by rw [upd_ne (ne_of e2 hl (by intro z; cases z))]; exact e2⟩) h
theorem PrA.new {H : Hp} {vs : List V} {ps : List (Int × Int)} {l : Addr} {o : HO} (h : PrA H vs ps) (hl : Free H l) : PrA (upd H l o) vs ps := h.same (same_new hl)
theorem ixT_p0 {K : PySem.W.Frag} {H : Hp} {Q : VK} {a : Addr} {x y : V} (h : H a = some (.tup [x, y])) (q : Q x H) : Cl (rIxT K (.ref a) (.int 0)) H Q := r_ixT (SqT.of h) (show atI [x, y] 0 = some x from rfl) q
theorem ixT_p1 {K : PySem.W.Frag} {H : Hp} {Q : VK} {a : Addr} {x y : V} (h : H a = some (.tup [x, y])) (q : Q y H) : Cl (rIxT K (.ref a) (.int 1)) H Q := r_ixT (SqT.of h) (show atI [x, y] 1 = some y from rfl) q
theorem units1 {a b : Nat} (h : a + 64 < b) : a + 1 < b := by omega
theorem r_neB {H : Hp} {Q : VK} {i j : Bool} (q : Q (.bl (!decide (i = j))) H) : Cl (rNe (.bl i) (.bl j)) H Q := r_ne rfl (by
  have e : decide (V.bl i = V.bl j) = decide (i = j) := by
    cases i <;> cases j <;> rfl
  rw [e]
  exact q)
theorem r_eqB {H : Hp} {Q : VK} {i j : Bool} (q : Q (.bl (decide (i = j))) H) : Cl (rEq (.bl i) (.bl j)) H Q := r_eq rfl (by
  have e : decide (V.bl i = V.bl j) = decide (i = j) := by
    cases i <;> cases j <;> rfl
  rw [e]
  exact q)
theorem PrA.at {H : Hp} {vs : List V} {ps : List (Int × Int)} (h : PrA H vs ps) : ∀ {k : Nat} {p : Int × Int}, ps[k]? = some p → ∃ v, vs[k]? = some v ∧ Pr H v p := by
  induction h with
  | nil => intro k p e; simp at e
  | cons h1 _ ih =>
    intro k p e
    cases k with
    | zero =>
      cases e
      exact ⟨_, rfl, h1⟩
    | succ k => exact ih e
theorem PrA.mem {H : Hp} {vs : List V} {ps : List (Int × Int)} (h : PrA H vs ps) : ∀ {v : V}, v ∈ vs → ∃ p, p ∈ ps ∧ Pr H v p := by
  induction h with
  | nil => intro v hv; cases hv
  | cons h1 _ ih =>
    intro v hv
    rcases List.mem_cons.mp hv with rfl | hv
    · exact ⟨_, List.mem_cons_self, h1⟩
    · obtain ⟨p, hp, h2⟩ := ih hv
      exact ⟨p, List.mem_cons_of_mem _ hp, h2⟩
end La

/-! [k for k, v in d.items() if ..], d a dict with tuple keys. -/
namespace La
open PySem L2 PySem.Spec PyProof.Rows
section
variable {X : Cx} {pins : List (Addr × Obj)} {σ : L2.St} {H : Hp} {s : Shared} {d : Addr} {o : Obj}
/-- the entries of a locked dict with tuple keys -/
theorem frz_ents {kvs : List (List L2.Key × V)} (I : Inv X pins σ H s) (h : H d = some (.frz o (.dT kvs))) :
    (d == sysModules) = false ∧ s.heap.get? d = some o ∧ o.ExactDict ∧ ∃ (es : Array DictEntry) (ep : Nat), o.data = .dict es ep ∧ es.size = kvs.length ∧
      ∀ (i : Nat) (k : List L2.Key) (v : V), kvs[i]? = some (k, v) → ∃ (en : DictEntry) (q : Addr), es[i]? = some en ∧ en.key = .ref q ∧ H q = some (.tup (k.map kV)) ∧ RelV v en.val := by
  obtain ⟨h1, h2, h3, xs, h4, o2, es, ep, h5, h6, h7, h8, _⟩ := I.hok d _ h
  rw [h1] at h5
  cases h5
  refine ⟨h3, h1, h6, es, ep, h7, ?_, ?_⟩
  · have l1 : es.size = xs.length := size_of_entries h8
    have l2 : kvs.length = xs.length := Paired.length h4
    omega
  · intro i k v hi
    obtain ⟨b, hb, r1, r2, r3⟩ := paired_get h4 hi
    have q := entry_at h8 i
    rw [hb] at q
    exact ⟨_, b.2.1, q, rfl, r2, r3⟩
end
/-- the pairs of a locked dict with tuple keys -/
def ItiT (d : Addr) (o : Obj) (kvs : List (List L2.Key × V)) : It :=
  ⟨fun i H => H d = some (.frz o (.dT kvs)) ∧ i < kvs.length, fun i H x H' => ∃ T k v q, kvs[i]? = some (k, v) ∧ x = .ref T ∧ H T = none ∧ H q = some (.tup (k.map kV)) ∧ H' = upd H T (.tup [.ref q, v]), fun i H => H d = some (.frz o (.dT kvs)) ∧ kvs.length ≤ i⟩
section
variable {P : Program} {w : World} {K : PySem.W.Frag} {d : Addr} {o : Obj} {es : Array DictEntry} {ep : Nat}
theorem turn_itT {kvs : List (List L2.Key × V)} {elts : List Expr} {kk : Nat} {tpos : Pos} (it : Addr) (hod : o.data = .dict es ep) :
    Turn P w K (.Tuple elts kk tpos) (ItiT d o kvs) [it] it (fun i h => ∃ ok ov, IsItemIter h it d i kvs.length ep ok ov) where
  mem := List.mem_singleton.mpr rfl
  obj := fun i h st b hb => by
    cases List.mem_singleton.mp hb
    obtain ⟨ok, ov, e⟩ := st
    exact ⟨_, e, fun v z => nomatch z⟩
  keep := fun i h h' ⟨ok, ov, e⟩ k => ⟨ok, ov, k it (List.mem_singleton.mpr rfl) _ e⟩
  item := by
    intro X hP hw hK hc i pins s σ H E I hf st hg
    subst hP hw hK
    obtain ⟨hd, hi⟩ := hg
    obtain ⟨_, hgd, hx, es2, ep2, hdt, hsz, ent⟩ := frz_ents I hd
    obtain ⟨rfl, rfl⟩ := dict_ep hod hdt
    obtain ⟨⟨k, v⟩, hkv⟩ : ∃ p, kvs[i]? = some p := ⟨kvs[i], List.getElem?_eq_getElem hi⟩
    obtain ⟨en, q, hen, hkey, hq, hrv⟩ := ent i k v hkv
    obtain ⟨hlt2, hen2⟩ := Array.getElem?_eq_some_iff.mp hen
    obtain ⟨ok, ov, he⟩ := st
    rw [← hsz] at he
    have hlt : it < s.heap.objs.size := Heap.lt_size he
    refine DT.nextI he ⟨o, hgd, hx, hdt⟩ hlt2 fun h' ho hT hz hk => ?_
    rw [hen2] at ho hT
    refine ⟨_, rfl, wpAny_letOwnedTupleGo_items (s := { s with heap := h' }) ho fun h'' he' sb => ?_⟩
    have hT2 : h''.get? s.heap.objs.size = some { cls := .type "tuple", data := .seq #[en.key, en.val] } := (sb.2 _ (Nat.ne_of_gt hlt)).trans hT
    have new : ObjOk X.prog X.w (upd H s.heap.objs.size (.tup [.ref q, v])) h'' s.heap.objs.size (.tup [.ref q, v]) :=
      ⟨by show 2 ≤ sizeLine; decide, [en.key, en.val], .cons hkey (.cons hrv .nil), ⟨_, hT2, rfl, _, rfl⟩⟩
    have I1 : Inv X pins σ (upd H s.heap.objs.size (.tup [.ref q, v])) { s with heap := h'' } :=
      I.turnedNew (t' := s.toks) (ch := [it]) (fun b ob hb e => (sb.2 b (fun z => hb (List.mem_singleton.mpr z))).trans (hk b ob (fun z => hb (List.mem_singleton.mpr z)) e)) hf (Nat.le_refl _) new
    refine ⟨.ref s.heap.objs.size, _, I1, rfl, ⟨_, k, v, q, hkv, rfl, I.hok.fresh (Nat.le_refl _), hq, rfl⟩, ⟨en.key, en.val, ?_⟩, fun b hb => ?_⟩
    · rw [← hsz]; exact he'
    · cases List.mem_singleton.mp hb
      rw [upd_ne (Nat.ne_of_lt hlt)]
      exact (hf it (List.mem_singleton.mpr rfl)).1
  done := by
    intro X hP hw hK hc i pins s σ H E I hf st hg
    subst hP hw hK
    obtain ⟨hd, hi⟩ := hg
    obtain ⟨f0, f1, f2, f3, f4, f5⟩ := hf it (List.mem_singleton.mpr rfl)
    obtain ⟨_, hgd, hx, es2, ep2, hdt, hsz, ent⟩ := frz_ents I hd
    obtain ⟨rfl, rfl⟩ := dict_ep hod hdt
    obtain ⟨ok, ov, he⟩ := st
    rw [← hsz] at he
    exact DT.endI (I.ok.hd hc) he ⟨o, hgd, hx, hdt⟩ (by omega) fun h' eb => ⟨rfl, I.turned (t' := s.toks) (fun b ob hb e => eb b ob hb e) f0 f1 f3 f4 f5⟩
  self := fun A i s Q E ⟨_, _, e⟩ h => PySem.W.kcp_self e h
end
/-- d.items() of a locked dict with tuple keys -/
def iItemsT (td : TE) : TI := fun σ H R => td σ H fun x H1 => ∃ d o kvs, x = .ref d ∧ H1 d = some (.frz o (.dT kvs)) ∧ R (ItiT d o kvs) H1
section
variable {X : Cx} {e : Expr} {td : TE} {apos cpos : Pos}
theorem pi_itT {elts : List Expr} {kk : Nat} {tpos : Pos} (he : PE X e td) (hbase : attributeBase e "items" X.env (eval e X.env) = eval e X.env := by rfl) (hline : (apos.endLine == cpos.line) = true := by rfl) :
    PI X (.Tuple elts kk tpos) (.Call (.Attribute e "items" apos) [] [] cpos) (iItemsT td) := by
  refine ⟨fun pins s σ H R I h => ?_⟩
  refine wpAny_Call_method (T := "dict") (id := "dict.items") hbase rfl hline F.plainAttrs_dict F.slot_dict_items F.type_dict_items (thn (he.run pins s σ H _ I h) fun u s1 ⟨x, H1, I1, rx, d, o, kvs, ex, hd, q⟩ => ?_)
  subst ex
  obtain rfl : u = Value.ref d := rx
  obtain ⟨hs, hgd, hx, es, ep, hdt, hsz, ent⟩ := frz_ents I1 hd
  have raw : DT.Raw s1.heap d es ep := ⟨o, hgd, hx, hdt⟩
  refine ⟨raw.typeIs, (fun a ea => by cases ea; exact ⟨o, hgd, hx.2.1⟩), ?_⟩
  have I2 : Inv X pins σ H1 { s1 with heap := s1.heap.push { cls := .type "dict_items", data := .fields #[.ref d] } } := I1.kept (t' := s1.toks) fun b ob q => Heap.get?_push_of_some _ q
  have fin : wpAny (model X.prog X.w) X.A (pyIter (.ref s1.heap.objs.size)) (PIE X pins σ (.Tuple elts kk tpos) R) X.xe { s1 with heap := s1.heap.push { cls := .type "dict_items", data := .fields #[.ref d] } } := by
    refine DT.iterI (d := d) ⟨_, Heap.get?_push_size _ rfl, rfl, rfl⟩ (raw.push _) (pi_one (tk := s1.toks) I2 _ (turn_itT _ hdt) ⟨.none, .none, ?_⟩ q)
    rw [← hsz]
    exact Heap.get?_push_size _ rfl
  show wpAny _ _ (callWith cpos (.builtin "dict.items") [.ref d] [] []) _ X.xe s1
  exact method_meetsIn F.slot_dict_items F.entry_dict_items rfl (PySem.evalArgs_none ⟨rfl, raw.typeIs, F.args_dict_items_1 _, _, DT.meetsItems hs, raw, fin⟩)
end
/-! ### the comprehension -/
/-- entries: pairs of ints with a number -/
def entK (es : List ((Int × Int) × Int)) : List (List L2.Key × V) := es.map fun e => ([.inl e.1.1, .inl e.1.2], .int e.2)
section
variable {K : PySem.W.Frag} {σ : L2.St} {H : Hp} {Q : VK} {tt : TT} {vs : List Nat} {iv i j : Nat} {d : Addr}
theorem c_items {es : List ((Int × Int) × Int)} (hv : σ[iv]? = some (some (.ref d))) (hd : H d = some (.dT (entK es))) (hz : es.length < sizeLine)
    (hw : ∀ x y, wipe (((wipe σ vs).set i (some x)).set j (some y)) vs = wipe σ vs) (hget : ∀ x y, (((wipe σ vs).set i (some x)).set j (some y))[i]? = some (some x)) (p : (Int × Int) × Int → Bool)
    (ht : ∀ e ∈ es, ∀ x Hx, Pu (tt (((wipe σ vs).set i (some x)).set j (some (.int e.2)))) Hx (p e))
    (q : ∀ D ys Hc, H D = none → Same H Hc → Hc D = some (.lst ys) → PrA Hc ys ((es.filter p).map (·.1)) → Q (.ref D) Hc) :
    Cl (tLockE (tLc (iItemsT (tVar iv)) (gTup K 2 (gCons (gName i) (gCons (gName j) gNil))) tt (tVar i) vs) σ) H Q := fun H1 e Q' q' => by
  refine ⟨d, _, e _ _ hd, trivial, fun od => ⟨.ref d, hv, d, od, entK es, rfl, upd_same, fun D hD => ?_⟩⟩
  have hDd : D ≠ d := fun z => by
    rw [z, upd_same] at hD
    cases hD
  have hD1 : H1 D = none := by
    rw [upd_ne hDd] at hD
    exact hD
  have hln : (entK es).length = es.length := List.length_map ..
  refine ⟨fun n m Hx => m = es.length - n ∧ n ≤ es.length ∧ ∃ acc, Hx d = some (.frz od (.dT (entK es))) ∧ Hx D = some (.lst acc) ∧ PrA Hx acc (((es.take n).filter p).map (·.1)) ∧ (∀ b o, b ≠ d → H1 b = some o → Hx b = some o),
    ⟨es.length, rfl, Nat.zero_le _, [], by rw [upd_ne hDd.symm, upd_same], upd_same, .nil, fun b o hb h => by rw [upd_ne (ne_of_none h hD1), upd_ne hb]; exact h⟩, ?_⟩
  rintro n m Hx ⟨rfl, hn, acc, h1, h2, h3, h4⟩
  have hal : acc.length ≤ n := by
    rw [h3.length, List.length_map]
    refine Nat.le_trans (List.length_filter_le _ _) ?_
    rw [List.length_take]
    exact Nat.min_le_left _ _
  by_cases hlt : n < es.length
  · refine .inr ⟨⟨h1, by rw [hln]; exact hlt⟩, fun H' => ∃ acc, H' d = some (.frz od (.dT (entK es))) ∧ H' D = some (.lst acc) ∧ PrA H' acc (((es.take (n + 1)).filter p).map (·.1)) ∧ (∀ b o, b ≠ d → H1 b = some o → H' b = some o),
      fun H' h => ⟨es.length - (n + 1), by omega, rfl, hlt, h⟩, ?_⟩
    rintro x H' ⟨T, k, v, kq, hkv, rfl, hT, hq, rfl⟩
    have hen : es[n]? = some es[n] := List.getElem?_eq_getElem hlt
    have hkv2 : (entK es)[n]? = some ([.inl es[n].1.1, .inl es[n].1.2], .int es[n].2) := by
      unfold entK
      rw [List.getElem?_map, hen]
      rfl
    rw [hkv2] at hkv
    cases hkv
    have step : ((es.take (n + 1)).filter p).map (·.1) = ((es.take n).filter p).map (·.1) ++ (if p es[n] = true then [es[n].1] else []) := by
      rw [List.take_add_one, hen, List.filter_append, List.map_append]
      congr 1
      show List.map _ (List.filter p [es[n]]) = _
      rw [List.filter_cons]
      split <;> rfl
    refine ⟨T, [.ref kq, .int es[n].2], rfl, SqT.of upd_same, rfl, .ref kq, [.int es[n].2], rfl, .int es[n].2, [], rfl, rfl, hw _ _, ?_⟩
    refine ht es[n] (List.getElem_mem hlt) (.ref kq) _ _ (Same.refl _) _ (Same.refl _) _ ?_
    rintro b Hb H3 ⟨rfl, hs⟩ hs2
    have e3 := hs.trans hs2
    have k1 : H3 d = some (.frz od (.dT (entK es))) := e3 _ _ (by rw [upd_ne (ne_of_none h1 hT)]; exact h1)
    have k2 : H3 D = some (.lst acc) := e3 _ _ (by rw [upd_ne (ne_of_none h2 hT)]; exact h2)
    have s0 : Same Hx (upd Hx T (.tup [.ref kq, .int es[n].2])) := same_new hT
    have k3 := h3.same (s0.trans e3)
    have k4 : ∀ b o, b ≠ d → H1 b = some o → H3 b = some o := fun b o hb h => (s0.trans e3) _ _ (h4 b o hb h)
    have k5 : Pr H3 (.ref kq) es[n].1 := ⟨kq, rfl, (s0.trans e3) _ _ hq⟩
    by_cases hb : p es[n] = true
    · rw [if_pos hb]
      refine ⟨.ref kq, hget _ _, acc, k2, by omega, acc ++ [.ref kq], by rw [upd_ne hDd.symm]; exact k1, upd_same, ?_, fun b o hb2 h => by rw [upd_ne (ne_of_none h hD1)]; exact k4 b o hb2 h⟩
      rw [step, if_pos hb]
      have tup : ∀ {v : V} {pr : Int × Int}, Pr H3 v pr → Pr (upd H3 D (.lst (acc ++ [.ref kq]))) v pr := fun ⟨a, e1, e2⟩ => ⟨a, e1, by rw [upd_ne (ne_of e2 k2 (by intro z; cases z))]; exact e2⟩
      exact (PrA.imp tup k3).snoc (tup k5)
    · rw [if_neg hb]
      refine ⟨acc, k1, k2, ?_, k4⟩
      rw [step, if_neg hb, List.append_nil]
      exact k3
  · have en : n = es.length := by omega
    subst en
    rw [List.take_length] at h3
    refine .inl ⟨⟨h1, by rw [hln]; exact Nat.le_refl _⟩, h1, ?_⟩
    have sm : Same H (upd Hx d (.dT (entK es))) := fun b o h => by
      by_cases hb : b = d
      · subst hb
        rw [upd_same, ← hd, h]
      · rw [upd_ne hb]
        exact h4 b o hb (e _ _ h)
    refine q' _ _ _ (q D acc (upd Hx d (.dT (entK es))) (e.free hD1) sm (by rw [upd_ne hDd]; exact h2) ?_) (Same.refl _)
    exact PrA.imp (fun ⟨a, e1, e2⟩ => ⟨a, e1, by rw [upd_ne (ne_of e2 h1 (by intro z; cases z))]; exact e2⟩) h3
end
end La

/-! Who meets whom; how often. -/
namespace Lm
def metA : List Int → List Int → List (Int × Int)
  | _, [] => []
  | pre, r :: rs => (bwd pre r, bwd pre (r + 1)) :: metA (pre ++ [r]) rs
def metL (rs : List Int) : List (Int × Int) := metA [] rs
theorem metA_snoc : ∀ (rs pre : List Int) (r : Int), metA pre (rs ++ [r]) = metA pre rs ++ [(bwd (pre ++ rs) r, bwd (pre ++ rs) (r + 1))]
  | [], pre, r => by
    rw [List.append_nil]
    rfl
  | s :: rs, pre, r => by
    rw [List.cons_append, metA, metA, metA_snoc rs (pre ++ [s]) r, List.append_assoc, List.cons_append]
    rfl
theorem metL_snoc (rs : List Int) (r : Int) : metL (rs ++ [r]) = metL rs ++ [(bwd rs r, bwd rs (r + 1))] := metA_snoc rs [] r
theorem metA_length : ∀ (rs pre : List Int), (metA pre rs).length = rs.length
  | [], _ => rfl
  | r :: rs, pre => by rw [metA, List.length_cons, metA_length rs, List.length_cons]
theorem metL_length (rs : List Int) : (metL rs).length = rs.length := metA_length rs []
theorem metA_get : ∀ (rs pre : List Int) (i : Nat) (r : Int), rs[i]? = some r → (metA pre rs)[i]? = some (bwd (pre ++ rs.take i) r, bwd (pre ++ rs.take i) (r + 1))
  | [], _, _, _, h => by simp at h
  | s :: rs, pre, 0, r, h => by
    cases h
    rw [metA, List.take_zero, List.append_nil]
    rfl
  | s :: rs, pre, i + 1, r, h => by
    rw [metA, List.getElem?_cons_succ, metA_get rs (pre ++ [s]) i r h, List.take_succ_cons, List.append_assoc]
    rfl
theorem metL_get {rs : List Int} {i : Nat} {r : Int} (h : rs[i]? = some r) : (metL rs)[i]? = some (bwd (rs.take i) r, bwd (rs.take i) (r + 1)) := metA_get rs [] i r h
def norm (p : Int × Int) : Int × Int := if p.1 < p.2 then p else (p.2, p.1)
/-- how often the two meet -/
def cnt (rs : List Int) (p : Int × Int) : Nat := ((metL rs).map norm).count p
theorem cnt_nil (p : Int × Int) : cnt [] p = 0 := rfl
theorem cnt_snoc (rs : List Int) (r : Int) (p : Int × Int) : cnt (rs ++ [r]) p = cnt rs p + (if norm (bwd rs r, bwd rs (r + 1)) = p then 1 else 0) := by
  unfold cnt
  rw [metL_snoc, List.map_append, List.count_append, List.map_cons, List.map_nil, List.count_singleton]
  by_cases h : norm (bwd rs r, bwd rs (r + 1)) = p
  · rw [if_pos h, if_pos (by rw [h]; exact beq_self_eq_true _)]
  · rw [if_neg h, if_neg (by simpa using h)]
theorem bwd_ne (rs : List Int) (r : Int) : bwd rs r ≠ bwd rs (r + 1) := fun h => by
  have := bwd_inj h
  omega
theorem norm_eq (rs : List Int) (r a b : Int) (hab : a < b) : norm (bwd rs r, bwd rs (r + 1)) = (a, b) ↔ (fwd rs a = r ∧ fwd rs b = r + 1) ∨ (fwd rs a = r + 1 ∧ fwd rs b = r) := by
  unfold norm
  constructor
  · intro h
    split at h
    · injection h with h1 h2
      exact .inl ⟨by rw [← h1, fwd_bwd], by rw [← h2, fwd_bwd]⟩
    · injection h with h1 h2
      exact .inr ⟨by rw [← h1]; exact fwd_bwd _ _, by rw [← h2]; exact fwd_bwd _ _⟩
  · rintro (⟨h1, h2⟩ | ⟨h1, h2⟩)
    · rw [← h2, ← h1, bwd_fwd, bwd_fwd, if_pos hab]
    · rw [← h1, ← h2, bwd_fwd, bwd_fwd, if_neg (by show ¬ b < a; omega)]
/-- side by side as in the beginning, when they have met an even number of times -/
theorem parity (rs : List Int) {a b : Int} (hab : a < b) : fwd rs a < fwd rs b ↔ cnt rs (a, b) % 2 = 0 := by
  have gen : ∀ (k : Nat) (rs : List Int), rs.length = k → (fwd rs a < fwd rs b ↔ cnt rs (a, b) % 2 = 0) := by
    intro k
    induction k with
    | zero =>
      intro rs h
      cases List.eq_nil_of_length_eq_zero h
      exact ⟨fun _ => rfl, fun _ => hab⟩
    | succ k ih =>
      intro rs h
      obtain ⟨pre, r, rfl⟩ : ∃ pre r, rs = pre ++ [r] := by
        have hne : rs ≠ [] := fun e => by rw [e] at h; cases h
        exact ⟨rs.dropLast, rs.getLast hne, (List.dropLast_concat_getLast hne).symm⟩
      have hl : pre.length = k := by simpa using h
      have i1 := ih pre hl
      have hne : fwd pre a ≠ fwd pre b := fun e => by
        have := fwd_inj e
        omega
      rw [fwd_snoc, fwd_snoc, cnt_snoc]
      have c1 := across_cases r (fwd pre a)
      have c2 := across_cases r (fwd pre b)
      have hn := norm_eq pre r a b hab
      by_cases hm : norm (bwd pre r, bwd pre (r + 1)) = (a, b)
      · rw [if_pos hm]
        have h2 := hn.mp hm
        constructor
        · intro h3
          have : ¬ fwd pre a < fwd pre b := by omega
          have : ¬ cnt pre (a, b) % 2 = 0 := fun z => this (i1.mpr z)
          omega
        · intro h3
          have : ¬ cnt pre (a, b) % 2 = 0 := by omega
          have : ¬ fwd pre a < fwd pre b := fun z => this (i1.mp z)
          omega
      · rw [if_neg hm, Nat.add_zero]
        have h2 : ¬ ((fwd pre a = r ∧ fwd pre b = r + 1) ∨ (fwd pre a = r + 1 ∧ fwd pre b = r)) := fun z => hm (hn.mpr z)
        rw [← i1]
        constructor <;> intro h3 <;> omega
  exact gen _ rs rfl
/-- who meets stands within the posts -/
theorem cnt_in {n : Int} {rs : List Int} (hok : Ok n rs) {p : Int × Int} (h : 0 < cnt rs p) : 0 ≤ p.1 ∧ p.1 < p.2 ∧ p.2 < n := by
  have gen : ∀ (k : Nat) (rs : List Int), rs.length = k → Ok n rs → 0 < cnt rs p → 0 ≤ p.1 ∧ p.1 < p.2 ∧ p.2 < n := by
    intro k
    induction k with
    | zero =>
      intro rs h _ hc
      cases List.eq_nil_of_length_eq_zero h
      cases hc
    | succ k ih =>
      intro rs h hok hc
      obtain ⟨pre, r, rfl⟩ : ∃ pre r, rs = pre ++ [r] := by
        have hne : rs ≠ [] := fun e => by rw [e] at h; cases h
        exact ⟨rs.dropLast, rs.getLast hne, (List.dropLast_concat_getLast hne).symm⟩
      have hl : pre.length = k := by simpa using h
      have hok1 : Ok n pre := fun q hq => hok q (List.mem_append_left _ hq)
      have hr := hok r (List.mem_append_right _ (List.mem_singleton.mpr rfl))
      rw [cnt_snoc] at hc
      by_cases hm : norm (bwd pre r, bwd pre (r + 1)) = p
      · have b1 := bwd_ok hok1 (w := r) (by omega)
        have b2 := bwd_ok hok1 (w := r + 1) (by omega)
        have b3 := bwd_ne pre r
        rw [← hm]
        unfold norm
        split
        · rename_i hlt
          have hlt' : bwd pre r < bwd pre (r + 1) := hlt
          exact ⟨b1.1, hlt', b2.2⟩
        · rename_i hlt
          have hlt' : ¬ bwd pre r < bwd pre (r + 1) := hlt
          exact ⟨b2.1, by show bwd pre (r + 1) < bwd pre r; omega, b1.2⟩
      · rw [if_neg hm] at hc
        exact ih pre hl hok1 hc
  exact gen _ rs rfl hok h
end Lm

/-! The pairs that come out crossed; a dict that counts meetings. -/
namespace Lm
open La
/-- the pairs of a with the k behind it that come out before it -/
def crossP (f : Int → Int) (a k : Nat) : List (Int × Int) := ((List.range' (a + 1) k).filter fun b : Nat => decide (f (b : Int) < f (a : Int))).map fun b : Nat => ((a : Int), (b : Int))
def crossN (f : Int → Int) (n k : Nat) : List (Int × Int) := (List.range k).flatMap fun a => crossP f a (n - (a + 1))
def crossX (f : Int → Int) (n : Nat) : List (Int × Int) := crossN f n n
theorem crossP_zero (f : Int → Int) (a : Nat) : crossP f a 0 = [] := rfl
theorem crossP_succ (f : Int → Int) (a k : Nat) : crossP f a (k + 1) = crossP f a k ++ (if f ((a + 1 + k : Nat) : Int) < f (a : Int) then [((a : Int), ((a + 1 + k : Nat) : Int))] else []) := by
  unfold crossP
  rw [List.range'_concat, List.filter_append, List.map_append]
  congr 1
  rw [Nat.one_mul]
  by_cases h : f ((a + 1 + k : Nat) : Int) < f (a : Int)
  · rw [if_pos h, List.filter_cons_of_pos (by exact decide_eq_true h)]
    rfl
  · rw [if_neg h, List.filter_cons_of_neg (by rw [decide_eq_false h]; decide)]
    rfl
theorem crossN_zero (f : Int → Int) (n : Nat) : crossN f n 0 = [] := rfl
theorem crossN_succ (f : Int → Int) (n k : Nat) : crossN f n (k + 1) = crossN f n k ++ crossP f k (n - (k + 1)) := by
  unfold crossN
  rw [List.range_succ, List.flatMap_append]
  congr 1
  rw [List.flatMap_cons, List.flatMap_nil, List.append_nil]
theorem mem_crossP {f : Int → Int} {a k : Nat} {p : Int × Int} : p ∈ crossP f a k ↔ ∃ b : Nat, a < b ∧ b < a + 1 + k ∧ f (b : Int) < f (a : Int) ∧ p = ((a : Int), (b : Int)) := by
  unfold crossP
  rw [List.mem_map]
  constructor
  · rintro ⟨b, hb, rfl⟩
    rw [List.mem_filter, List.mem_range'_1, decide_eq_true_eq] at hb
    exact ⟨b, by omega, by omega, hb.2, rfl⟩
  · rintro ⟨b, h1, h2, h3, rfl⟩
    exact ⟨b, by rw [List.mem_filter, List.mem_range'_1, decide_eq_true_eq]; exact ⟨by omega, h3⟩, rfl⟩
theorem mem_crossX {f : Int → Int} {n : Nat} {p : Int × Int} : p ∈ crossX f n ↔ 0 ≤ p.1 ∧ p.1 < p.2 ∧ p.2 < n ∧ f p.2 < f p.1 := by
  unfold crossX crossN
  rw [List.mem_flatMap]
  constructor
  · rintro ⟨a, ha, hp⟩
    obtain ⟨b, h1, h2, h3, rfl⟩ := mem_crossP.mp hp
    rw [List.mem_range] at ha
    exact ⟨by show (0 : Int) ≤ a; omega, by show (a : Int) < b; omega, by show (b : Int) < n; omega, h3⟩
  · rintro ⟨h1, h2, h3, h4⟩
    obtain ⟨x, y⟩ := p
    obtain ⟨a, rfl⟩ := Int.eq_ofNat_of_zero_le (show 0 ≤ x from h1)
    obtain ⟨b, rfl⟩ := Int.eq_ofNat_of_zero_le (show 0 ≤ y by have : (a : Int) < y := h2; omega)
    have h2' : (a : Int) < b := h2
    have h3' : (b : Int) < n := h3
    exact ⟨a, List.mem_range.mpr (by omega), mem_crossP.mpr ⟨b, by omega, by omega, h4, rfl⟩⟩
def lexLt (a b : Int × Int) : Prop := a.1 < b.1 ∨ (a.1 = b.1 ∧ a.2 < b.2)
theorem crossX_lt (f : Int → Int) (n : Nat) : (crossX f n).Pairwise lexLt := by
  unfold crossX crossN
  rw [List.pairwise_flatMap]
  constructor
  · intro a ha
    unfold crossP
    rw [List.pairwise_map]
    refine List.Pairwise.filter _ ?_
    exact (List.pairwise_lt_range' ..).imp fun h => .inr ⟨rfl, by show (_ : Int) < _; omega⟩
  · refine List.pairwise_lt_range.imp ?_
    intro a b hab x hx y hy
    obtain ⟨_, _, _, _, rfl⟩ := mem_crossP.mp hx
    obtain ⟨_, _, _, _, rfl⟩ := mem_crossP.mp hy
    exact .inl (by show (a : Int) < b; omega)
theorem crossX_nodup (f : Int → Int) (n : Nat) : (crossX f n).Nodup := (crossX_lt f n).imp fun h e => by
  subst e
  unfold lexLt at h
  omega
theorem crossX_sorted (f : Int → Int) (n : Nat) : (crossX f n).Pairwise lexLe := (crossX_lt f n).imp fun h => by
  unfold lexLt at h
  unfold lexLe
  omega
theorem crossX_congr {f g : Int → Int} {n : Nat} (h : ∀ i : Nat, i < n → f i = g i) : crossX f n = crossX g n :=
  List.Perm.eq_of_pairwise (fun a b _ _ h h' => lexLe_anti h h') (crossX_sorted f n) (crossX_sorted g n) ((List.perm_ext_iff_of_nodup (crossX_nodup f n) (crossX_nodup g n)).mpr fun p => by
    rw [mem_crossX, mem_crossX]
    constructor
    · rintro ⟨h1, h2, h3, h4⟩
      have e1 := h p.1.toNat (by omega)
      have e2 := h p.2.toNat (by omega)
      rw [Int.toNat_of_nonneg (by omega)] at e1 e2
      exact ⟨h1, h2, h3, by rw [← e1, ← e2]; exact h4⟩
    · rintro ⟨h1, h2, h3, h4⟩
      have e1 := h p.1.toNat (by omega)
      have e2 := h p.2.toNat (by omega)
      rw [Int.toNat_of_nonneg (by omega)] at e1 e2
      exact ⟨h1, h2, h3, by rw [e1, e2]; exact h4⟩)

/-! ### a dict of pairs -/
abbrev Ents := List ((Int × Int) × Int)
def getE (es : Ents) (p : Int × Int) : Option Int := (es.find? fun e => decide (e.1 = p)).map (·.2)
def putE (es : Ents) (p : Int × Int) (v : Int) : Ents := if (es.any fun e => decide (e.1 = p)) = true then es.map (fun e => if e.1 = p then (e.1, v) else e) else es ++ [(p, v)]
theorem getE_nil (p : Int × Int) : getE [] p = none := rfl
theorem getE_cons (e : (Int × Int) × Int) (es : Ents) (p : Int × Int) : getE (e :: es) p = if e.1 = p then some e.2 else getE es p := by
  unfold getE
  rw [List.find?_cons]
  by_cases h : e.1 = p
  · rw [if_pos h, decide_eq_true h]
    rfl
  · rw [if_neg h, decide_eq_false h]
theorem getE_map {es : Ents} {p q : Int × Int} {v : Int} (h : (es.any fun e => decide (e.1 = p)) = true) : getE (es.map (fun e => if e.1 = p then (e.1, v) else e)) q = if q = p then some v else getE es q := by
  induction es with
  | nil => cases h
  | cons e es ih =>
    rw [List.map_cons, getE_cons, getE_cons]
    by_cases he : e.1 = p
    · rw [if_pos he]
      by_cases hq : q = p
      · subst hq
        rw [if_pos rfl, if_pos he]
      · rw [if_neg hq, if_neg (by show ¬ e.1 = q; rw [he]; exact Ne.symm hq), if_neg (by rw [he]; exact Ne.symm hq)]
        by_cases h2 : (es.any fun e => decide (e.1 = p)) = true
        · rw [ih h2, if_neg hq]
        · have : es.map (fun e => if e.1 = p then (e.1, v) else e) = es := by
            rw [List.map_congr_left (g := id), List.map_id]
            intro x hx
            have : ¬ x.1 = p := fun z => h2 (List.any_eq_true.mpr ⟨x, hx, decide_eq_true z⟩)
            rw [if_neg this]
            rfl
          rw [this]
    · rw [if_neg he]
      have h2 : (es.any fun e => decide (e.1 = p)) = true := by
        rw [List.any_cons, decide_eq_false he, Bool.false_or] at h
        exact h
      rw [ih h2]
      by_cases hq : q = p
      · subst hq
        rw [if_pos rfl, if_neg he, if_pos rfl]
      · rw [if_neg hq, if_neg hq]
theorem getE_append_none {es : Ents} {p q : Int × Int} {v : Int} (h : ¬ (es.any fun e => decide (e.1 = p)) = true) : getE (es ++ [(p, v)]) q = if q = p then some v else getE es q := by
  induction es with
  | nil =>
    rw [List.nil_append, getE_cons, getE_nil]
    by_cases hq : q = p
    · rw [if_pos hq, if_pos hq.symm]
    · rw [if_neg hq, if_neg (fun z => hq z.symm)]
  | cons e es ih =>
    rw [List.any_cons, Bool.or_eq_true, not_or] at h
    have he : ¬ e.1 = p := fun z => h.1 (decide_eq_true z)
    rw [List.cons_append, getE_cons, getE_cons, ih h.2]
    by_cases hq : q = p
    · subst hq
      rw [if_neg he, if_pos rfl, if_pos rfl]
    · rw [if_neg hq, if_neg hq]
theorem getE_put (es : Ents) (p q : Int × Int) (v : Int) : getE (putE es p v) q = if q = p then some v else getE es q := by
  unfold putE
  split
  · rename_i h
    exact getE_map h
  · rename_i h
    exact getE_append_none h
theorem putE_length (es : Ents) (p : Int × Int) (v : Int) : (putE es p v).length ≤ es.length + 1 := by
  unfold putE
  split
  · rw [List.length_map]
    omega
  · rw [List.length_append]
    exact Nat.le_refl _
theorem putE_keys (es : Ents) (p : Int × Int) (v : Int) (h : (es.map (·.1)).Nodup) : ((putE es p v).map (·.1)).Nodup := by
  unfold putE
  split
  · rw [List.map_map]
    have : ((fun x : (Int × Int) × Int => x.1) ∘ fun e => if e.1 = p then (e.1, v) else e) = (·.1) := by
      funext e
      show (if e.1 = p then (e.1, v) else e).1 = e.1
      split <;> rfl
    rw [this]
    exact h
  · rename_i hn
    rw [List.map_append]
    refine List.nodup_append.mpr ⟨h, List.nodup_cons.mpr ⟨List.not_mem_nil, List.nodup_nil⟩, ?_⟩
    intro a ha b hb e
    rw [List.map_cons, List.map_nil, List.mem_singleton] at hb
    subst hb
    subst e
    obtain ⟨x, hx, ex⟩ := List.mem_map.mp ha
    exact hn (List.any_eq_true.mpr ⟨x, hx, decide_eq_true ex⟩)
theorem getE_mem {es : Ents} (h : (es.map (·.1)).Nodup) {e : (Int × Int) × Int} : e ∈ es ↔ getE es e.1 = some e.2 := by
  induction es with
  | nil => exact ⟨fun z => (nomatch z), fun z => (nomatch z)⟩
  | cons x es ih =>
    rw [List.map_cons, List.nodup_cons] at h
    rw [getE_cons, List.mem_cons]
    constructor
    · rintro (rfl | hm)
      · rw [if_pos rfl]
      · rw [if_neg (fun z : x.1 = e.1 => h.1 (by rw [z]; exact List.mem_map.mpr ⟨e, hm, rfl⟩))]
        exact (ih h.2).mp hm
    · intro hg
      by_cases hx : x.1 = e.1
      · rw [if_pos hx] at hg
        injection hg with hg
        exact .inl (by obtain ⟨x1, x2⟩ := x; obtain ⟨e1, e2⟩ := e; simp only at hx hg; rw [hx, hg])
      · rw [if_neg hx] at hg
        exact .inr ((ih h.2).mpr hg)
/-- the dict tells how often they met on these rungs -/
structure Counts (rs : List Int) (es : Ents) : Prop where
  get : ∀ p, getE es p = if cnt rs p = 0 then none else some (cnt rs p : Int)
  keys : (es.map (·.1)).Nodup
  len : es.length ≤ rs.length
theorem counts_nil : Counts [] [] := ⟨fun _ => rfl, List.nodup_nil, Nat.le_refl _⟩
theorem counts_snoc {rs : List Int} {es : Ents} (h : Counts rs es) (r : Int) : Counts (rs ++ [r]) (putE es (norm (bwd rs r, bwd rs (r + 1))) ((cnt rs (norm (bwd rs r, bwd rs (r + 1))) : Int) + 1)) := by
  refine ⟨fun p => ?_, putE_keys _ _ _ h.keys, ?_⟩
  · rw [getE_put, cnt_snoc, h.get]
    by_cases hp : p = norm (bwd rs r, bwd rs (r + 1))
    · rw [if_pos hp, if_pos hp.symm, if_neg (by omega), hp]
      rfl
    · have e0 : (if norm (bwd rs r, bwd rs (r + 1)) = p then 1 else 0) = 0 := if_neg (fun z => hp z.symm)
      rw [if_neg hp, e0, Nat.add_zero]
  · rw [List.length_append]
    exact Nat.le_trans (putE_length _ _ _) (Nat.succ_le_succ h.len)
theorem counts_odd {n : Nat} {rs : List Int} {es : Ents} (hok : Ok n rs) (h : Counts rs es) : srtP ((es.filter fun e => decide (e.2 % 2 = 1)).map (·.1)) = crossX (fwd rs) n := by
  refine (srtP_unique ?_ (crossX_sorted _ _)).symm
  refine (List.perm_ext_iff_of_nodup (crossX_nodup _ _) ?_).mpr fun p => ?_
  · exact h.keys.sublist (List.Sublist.map _ List.filter_sublist)
  · rw [mem_crossX, List.mem_map]
    constructor
    · rintro ⟨h1, h2, h3, h4⟩
      have hp : fwd rs p.1 < fwd rs p.2 ↔ cnt rs p % 2 = 0 := parity rs h2
      have hodd : cnt rs p % 2 = 1 := by
        have h5 : ¬ cnt rs p % 2 = 0 := fun z => by
          have := hp.mpr z
          omega
        omega
      refine ⟨(p, (cnt rs p : Int)), ?_, rfl⟩
      rw [List.mem_filter, getE_mem h.keys, h.get]
      refine ⟨?_, decide_eq_true (by show (cnt rs p : Int) % 2 = 1; omega)⟩
      show (if cnt rs p = 0 then none else some (cnt rs p : Int)) = some (cnt rs p : Int)
      rw [if_neg (show ¬ cnt rs p = 0 by omega)]
    · rintro ⟨e, he, rfl⟩
      rw [List.mem_filter, getE_mem h.keys, h.get, decide_eq_true_eq] at he
      obtain ⟨h1, h2⟩ := he
      by_cases h0 : cnt rs e.1 = 0
      · rw [if_pos h0] at h1
        cases h1
      · rw [if_neg h0] at h1
        injection h1 with h1
        obtain ⟨i1, i2, i3⟩ := cnt_in hok (Nat.pos_of_ne_zero h0)
        have hp : fwd rs e.1.1 < fwd rs e.1.2 ↔ cnt rs e.1 % 2 = 0 := parity rs i2
        have hne : fwd rs e.1.1 ≠ fwd rs e.1.2 := fun z => by
          have := fwd_inj z
          omega
        refine ⟨i1, i2, i3, ?_⟩
        have : ¬ fwd rs e.1.1 < fwd rs e.1.2 := fun z => by
          have := hp.mp z
          omega
        omega
theorem counts_len {n : Nat} {rs : List Int} {es : Ents} (hok : Ok n rs) (h : Counts rs es) : (crossX (fwd rs) n).length ≤ rs.length := by
  rw [← counts_odd hok h, (srtP_perm _).length_eq, List.length_map]
  exact Nat.le_trans (List.length_filter_le _ _) h.len
end Lm

/-! Comprehensions that make pairs; the rules of a dict of pairs. -/
namespace La
open PySem L2 PyProof.Rows
theorem PrA.append {H : Hp} {vs ws : List V} {ps qs : List (Int × Int)} (h : PrA H vs ps) (h2 : PrA H ws qs) : PrA H (vs ++ ws) (ps ++ qs) := by
  induction h with
  | nil => exact h2
  | cons h1 _ ih => exact .cons h1 ih
/-- [(.., ..) for x in range(lo, hi) if ..] -/
theorem c_lcR2P {K : PySem.W.Frag} {σ : L2.St} {H : Hp} {Q : VK} {te : TE} {tt : TT} {vs : List Nat} {j : Nat} {ta : TA} (hw : ∀ x, wipe ((wipe σ vs).set j (some x)) vs = wipe σ vs) (p : Nat → Bool) (f : Nat → Int × Int)
    (h : Cl (ta σ) H fun ws Hb => ∃ lo n : Nat, ws = [.int (lo : Int), .int ((lo + n : Nat) : Int)] ∧ lo + n ≤ 1000000 ∧
      (∀ i : Nat, i < n → ∀ Hc, Same Hb Hc → Cl (tt ((wipe σ vs).set j (some (.int ((lo : Int) + (i : Int)))))) Hc fun b H3 => b = p (lo + i) ∧ Same Hc H3 ∧ (p (lo + i) = true → Cl (te ((wipe σ vs).set j (some (.int ((lo : Int) + (i : Int)))))) H3 fun y H4 => Pr H4 y (f (lo + i)) ∧ Same H3 H4)) ∧
      ∀ D ys Hc, Free Hb D → Same Hb Hc → Hc D = some (.lst ys) → PrA Hc ys (((List.range' lo n).filter p).map f) → Q (.ref D) Hc) : Cl (tLc (iRng2 ta) (gName j) tt te vs σ) H Q := fun H0 e0 Q' q' =>
  h H0 e0 _ fun ws Hb H1 ⟨lo, n, ex, hn, ht, q⟩ e1 => ⟨(lo : Int), ((lo + n : Nat) : Int), ex, by omega, by
    have en : (((lo + n : Nat) : Int) - (lo : Int)).toNat = n := by omega
    rw [en]
    intro D hD
    have hDb : Hb D = none := e1.free hD
    have keep : ∀ {Hc : Hp} {o : HO}, Same Hb Hc → Same Hb (upd Hc D o) := fun {Hc o} k b u z => by
      rw [upd_ne (ne_of_none z hDb)]
      exact k b u z
    refine lc_src (g := gName j) (src_rng (lo : Int) n) e1 trivial (by rw [sizeLine_eq]; omega) hD (fun i acc Hc => Same Hb Hc ∧ Hc D = some (.lst acc) ∧ acc.length ≤ i ∧ PrA Hc acc (((List.range' lo i).filter p).map f)) ⟨same_new hDb, upd_same, Nat.le_refl _, .nil⟩ ?_ ?_ ?_
    · rintro i acc Hc hi ⟨k, hc, hl, h3⟩
      exact ⟨trivial, hl, hc⟩
    · rintro i acc Hc hi ⟨k, hc, hl, h3⟩
      have step : ((List.range' lo (i + 1)).filter p).map f = ((List.range' lo i).filter p).map f ++ (if p (lo + i) = true then [f (lo + i)] else []) := by
        rw [List.range'_concat, List.filter_append, List.map_append, Nat.one_mul]
        congr 1
        show List.map f (List.filter p [lo + i]) = _
        rw [List.filter_cons]
        split <;> rfl
      refine g_name ⟨hw _, ?_⟩
      refine cl_mono (ht i hi Hc k) ?_
      rintro b H3 ⟨rfl, k3, he⟩
      refine ⟨fun hb => cl_mono (he hb) ?_, fun hb => ?_⟩
      · rintro y H4 ⟨hy, k4⟩
        have hD4 : H4 D = some (.lst acc) := k4 _ _ (k3 _ _ hc)
        refine ⟨hD4, keep ((k.trans k3).trans k4), upd_same, by rw [List.length_append]; show _ + 1 ≤ _; omega, ?_⟩
        rw [step, if_pos hb]
        obtain ⟨T, rfl, hT⟩ := hy
        exact ((h3.same (k3.trans k4)).mut hD4).snoc ⟨T, rfl, by rw [upd_ne (ne_of hT hD4 (by intro z; cases z))]; exact hT⟩
      · refine ⟨k.trans k3, k3 _ _ hc, by omega, ?_⟩
        rw [step, if_neg (by rw [hb]; decide), List.append_nil]
        exact h3.same k3
    · rintro acc Hc H2 ⟨k, hc, hl, h3⟩ e2
      exact q' _ _ _ (q D acc Hc hDb k hc h3) e2⟩

/-! ### d[k], d.get(k, x), d[k] = v -/
open Lm
def keyP (p : Int × Int) : List L2.Key := [.inl p.1, .inl p.2]
theorem keyP_inj {p q : Int × Int} : keyP p = keyP q ↔ p = q := by
  obtain ⟨a, b⟩ := p
  obtain ⟨c, d⟩ := q
  constructor
  · intro h
    injection h with h1 h2
    injection h1 with h1
    injection h2 with h2 _
    injection h2 with h2
    have h1' : a = c := h1
    have h2' : b = d := h2
    rw [h1', h2']
  · intro h
    rw [h]
theorem valV_ent (es : Ents) (p : Int × Int) : valV (entK es) (keyP p) = (getE es p).map V.int := by
  induction es with
  | nil => rfl
  | cons e es ih =>
    rw [getE_cons]
    by_cases h : e.1 = p
    · rw [if_pos h]
      exact valV_pos (show keyP e.1 = keyP p by rw [h])
    · rw [if_neg h, ← ih]
      exact valV_neg (show ¬ keyP e.1 = keyP p from fun z => h (keyP_inj.mp z))
theorem any_ent (es : Ents) (p : Int × Int) : ((entK es).any fun kv => decide (kv.1 = keyP p)) = (es.any fun e => decide (e.1 = p)) := by
  unfold entK
  rw [List.any_map]
  congr 1
  funext e
  show decide (keyP e.1 = keyP p) = decide (e.1 = p)
  exact decide_eq_decide.mpr keyP_inj
theorem putK_ent (es : Ents) (p : Int × Int) (v : Int) : putK (entK es) (keyP p) (.int v) = entK (putE es p v) := by
  unfold putK putE
  rw [any_ent]
  split
  · unfold entK
    rw [List.map_map, List.map_map]
    refine List.map_congr_left fun e _ => ?_
    show (if keyP e.1 = keyP p then (keyP e.1, V.int v) else (keyP e.1, V.int e.2)) = (fun e : (Int × Int) × Int => ((keyP e.1, V.int e.2) : List L2.Key × V)) (if e.1 = p then (e.1, v) else e)
    by_cases h : e.1 = p
    · rw [if_pos (keyP_inj.mpr h), if_pos h]
    · rw [if_neg (fun z => h (keyP_inj.mp z)), if_neg h]
  · unfold entK
    rw [List.map_append]
    rfl
section
variable {K : PySem.W.Frag} {σ : L2.St} {H : Hp} {Q : VK} {td ty tx tv : TE} {nx bk ct : L2.St → Hp → Prop} {rt : VK}
theorem pr_key {H : Hp} {y : V} {p : Int × Int} (h : Pr H y p) : ∃ b, y = .ref b ∧ H b = some (.tup ((keyP p).map kV)) := h
theorem c_dget (h : Cl (td σ) H fun x H1 => Cl (ty σ) H1 fun y H2 => ∃ d es p v, x = .ref d ∧ H2 d = some (.dT (entK es)) ∧ Pr H2 y p ∧ getE es p = some v ∧ Q (.int v) H2) : Cl (tDGet td ty σ) H Q := fun H0 e0 Q' q' =>
  h H0 e0 _ fun x Hb H1 hb e1 => hb H1 e1 _ fun y Hc H2 ⟨d, es, p, v, ex, hd, hp, hg, q⟩ e2 => by
    obtain ⟨b, rfl, hb2⟩ := pr_key hp
    refine ⟨d, .int v, ex, ?_, q' _ _ _ q e2⟩
    have := DGet.t (e2 _ _ hd) (e2 _ _ hb2)
    rw [valV_ent, hg] at this
    exact this
theorem c_dget2 (h : Cl (td σ) H fun x H1 => ∃ d es0, x = .ref d ∧ H1 d = some (.dT (entK es0)) ∧ Cl (ty σ) H1 fun y H2 => Cl (tx σ) H2 fun z H3 => ∃ es p, H3 d = some (.dT (entK es)) ∧ Pr H3 y p ∧ Q (((getE es p).map V.int).getD z) H3) : Cl (tDGet2 td ty tx σ) H Q := fun H0 e0 Q' q' =>
  h H0 e0 _ fun x Hb H1 ⟨d, es0, ex, hd0, hh⟩ e1 => ⟨d, ex, .inr ⟨_, .inl (e1 _ _ hd0)⟩, hh H1 e1 _ fun y Hc H2 hc e2 => hc H2 e2 _ fun z Hd H3 ⟨es, p, hd, hp, q⟩ e3 => by
    obtain ⟨b, rfl, hb2⟩ := pr_key hp
    refine ⟨(getE es p).map V.int, ?_, q' _ _ _ q e3⟩
    have := DGet.t (e3 _ _ hd) (e3 _ _ hb2)
    rw [valV_ent] at this
    exact this⟩
theorem s_dput (h : Cl (tv σ) H fun v H1 => Cl (td σ) H1 fun x H2 => Cl (ty σ) H2 fun y H3 => ∃ d es p i, v = .int i ∧ x = .ref d ∧ H3 d = some (.dT (entK es)) ∧ Pr H3 y p ∧ es.length < sizeLine ∧ nx σ (upd H3 d (.dT (entK (putE es p i))))) : S (sDPut td ty tv) nx rt bk ct σ H := fun H0 e0 D d1 d2 d3 d4 =>
  h H0 e0 _ fun v Hb H1 hb e1 => hb H1 e1 _ fun x Hc H2 hc e2 => hc H2 e2 _ fun y Hd H3 ⟨d, es, p, i, ev, ex, hd, hp, hz, q⟩ e3 => by
    obtain ⟨b, rfl, hb2⟩ := pr_key hp
    subst ev
    refine ⟨d, _, ex, DPut.t (e3 _ _ hd) (e3 _ _ hb2) (by unfold entK; rw [List.length_map]; exact hz), ?_⟩
    rw [putK_ent]
    exact d1 _ _ _ q (sameUpd e3)
theorem c_dnew (q : ∀ p, Free H p → Q (.ref p) (upd H p (.dT (entK [])))) : Cl (tDNewT σ) H Q := fun H1 e Q' q' => cl_new q e q'
end
end La

/-! Standing ladders: runs that go down by one, each beginning above the one before. -/
namespace Lm
open La
def stB : Int → Int → List Int → Bool
  | _, _, [] => true
  | h, l, r :: rs => if r = l - 1 then stB h r rs else (decide (h < r) && stB r r rs)
theorem stB_nil (h l : Int) : stB h l [] = true := rfl
theorem stB_cons (h l r : Int) (rs : List Int) : stB h l (r :: rs) = if r = l - 1 then stB h r rs else (decide (h < r) && stB r r rs) := rfl
theorem stB_run {h l r : Int} {rs : List Int} (e : r = l - 1) : stB h l (r :: rs) = stB h r rs := by rw [stB_cons, if_pos e]
theorem stB_new {h l r : Int} {rs : List Int} (e : ¬ r = l - 1) : stB h l (r :: rs) = true ↔ h < r ∧ stB r r rs = true := by rw [stB_cons, if_neg e, Bool.and_eq_true, decide_eq_true_eq]
theorem st_mono : ∀ {rs : List Int} {h h' l : Int}, stB h l rs = true → h' ≤ h → stB h' l rs = true
  | [], _, _, _, _, _ => rfl
  | r :: rs, h, h', l, hs, hl => by
    by_cases e : r = l - 1
    · rw [stB_run e] at hs ⊢
      exact st_mono hs hl
    · rw [stB_new e] at hs ⊢
      exact ⟨by omega, hs.2⟩
structure Falls (rs : List Int) (g h : Int) : Prop where
  up : ∀ a b, a < b → b ≤ h + 1 → a ≠ g + 1 → b ≠ g + 1 → fwd rs a < fwd rs b
  down : fwd rs (g + 1) < fwd rs g
theorem across_at (f : Int) : across f f = f + 1 := by
  have := across_cases f f
  omega
theorem across_at1 (f : Int) : across f (f + 1) = f := by
  have := across_cases f (f + 1)
  omega
theorem falls_new {rs : List Int} {f h : Int} (hf : f ≤ h) (inc : ∀ a b, a < b → b ≤ h + 1 → fwd rs a < fwd rs b) : Falls (f :: rs) f h := by
  refine ⟨fun a b h1 h2 h3 h4 => ?_, ?_⟩
  · rw [fwd_cons, fwd_cons]
    have ca := across_cases f a
    have cb := across_cases f b
    exact inc _ _ (by omega) (by omega)
  · rw [fwd_cons, fwd_cons, across_at, across_at1]
    exact inc _ _ (by omega) (by omega)
theorem falls_run {rs : List Int} {f h : Int} (hf : f ≤ h) (ih : Falls rs (f - 1) h) : Falls (f :: rs) f h := by
  refine ⟨fun a b h1 h2 h3 h4 => ?_, ?_⟩
  · rw [fwd_cons, fwd_cons]
    have ca := across_cases f a
    have cb := across_cases f b
    exact ih.up _ _ (by omega) (by omega) (by omega) (by omega)
  · rw [fwd_cons, fwd_cons, across_at, across_at1]
    have h1 := ih.down
    have h2 := ih.up (f - 1) (f + 1) (by omega) (by omega) (by omega) (by omega)
    rw [show f - 1 + 1 = f by omega] at h1
    omega
theorem st_falls : ∀ (rs : List Int) (f h : Int), f ≤ h → stB h f rs = true → Falls (f :: rs) f h
  | [], f, h, hf, _ => falls_new hf fun a b h1 _ => h1
  | g :: rs, f, h, hf, hs => by
    by_cases e : g = f - 1
    · rw [stB_run e] at hs
      have ih := st_falls rs g h (by omega) hs
      rw [e] at ih
      rw [e]
      exact falls_run hf ih
    · rw [stB_new e] at hs
      have ih := st_falls rs g g (Int.le_refl _) hs.2
      exact falls_new hf fun a b h1 h2 => ih.up a b h1 (by omega) (by omega) (by omega)
def NN (rs : List Int) : Prop := ∀ r ∈ rs, 0 ≤ r
theorem NN.tail {r : Int} {rs : List Int} (h : NN (r :: rs)) : NN rs := fun q hq => h q (List.mem_cons_of_mem _ hq)
theorem NN.head {r : Int} {rs : List Int} (h : NN (r :: rs)) : 0 ≤ r := h r List.mem_cons_self
theorem Ok.nn {n : Int} {rs : List Int} (h : Ok n rs) : NN rs := fun r hr => (h r hr).1
theorem st_head {f : Int} {rs : List Int} (h : stB (-1) (-1) (f :: rs) = true) (h0 : 0 ≤ f) : stB f f rs = true := by
  rw [stB_new (by omega)] at h
  exact h.2
theorem st_first {f : Int} {rs : List Int} (h : stB (-1) (-1) (f :: rs) = true) (h0 : 0 ≤ f) : Falls (f :: rs) f f := st_falls rs f f (Int.le_refl _) (st_head h h0)
theorem st_tail {f : Int} {rs : List Int} (h : stB (-1) (-1) (f :: rs) = true) (h0 : NN (f :: rs)) : stB (-1) (-1) rs = true := by
  have h1 := st_head h h0.head
  cases rs with
  | nil => rfl
  | cons g rs =>
    have hg := h0.tail.head
    rw [stB_new (by omega)]
    refine ⟨by omega, ?_⟩
    by_cases e : g = f - 1
    · rw [stB_run e] at h1
      exact st_mono h1 (by omega)
    · rw [stB_new e] at h1
      exact h1.2
theorem fwd_tail (r : Int) (rs : List Int) (p : Int) : fwd rs p = fwd (r :: rs) (across r p) := by rw [fwd_cons, across_inv]
theorem st_unique : ∀ (rs ss : List Int), stB (-1) (-1) rs = true → stB (-1) (-1) ss = true → NN rs → NN ss → (∀ p, fwd rs p = fwd ss p) → rs = ss
  | [], [], _, _, _, _, _ => rfl
  | [], f :: ss, _, h2, _, n2, e => by
    have hf := (st_first h2 n2.head).down
    rw [← e, ← e, fwd_nil, fwd_nil] at hf
    omega
  | f :: ss, [], h2, _, n2, _, e => by
    have hf := (st_first h2 n2.head).down
    rw [e, e, fwd_nil, fwd_nil] at hf
    omega
  | r :: rs, f :: ss, h1, h2, n1, n2, e => by
    have f1 := st_first h1 n1.head
    have f2 := st_first h2 n2.head
    have hrf : r = f := by
      have d1 := f1.down
      have d2 := f2.down
      rw [e, e] at d1
      rw [← e, ← e] at d2
      by_cases l1 : r < f
      · have := f2.up r (r + 1) (by omega) (by omega) (by omega) (by omega)
        omega
      · by_cases l2 : f < r
        · have := f1.up f (f + 1) (by omega) (by omega) (by omega) (by omega)
          omega
        · omega
    subst hrf
    rw [st_unique rs ss (st_tail h1 n1) (st_tail h2 n2) n1.tail n2.tail fun p => by rw [fwd_tail r rs, fwd_tail r ss, e]]
theorem fwd_far {n : Int} : ∀ {rs : List Int}, Ok n rs → ∀ {p : Int}, p < 0 ∨ n ≤ p → fwd rs p = p
  | [], _, _, _ => rfl
  | r :: rs, h, p, hp => by
    have hr := h r List.mem_cons_self
    have c := across_cases r p
    rw [fwd_cons, show across r p = p by omega]
    exact fwd_far (fun q hq => h q (List.mem_cons_of_mem _ hq)) hp
theorem bwd_far {n : Int} {rs : List Int} (h : Ok n rs) {p : Int} (hp : p < 0 ∨ n ≤ p) : bwd rs p = p := by
  rw [← fwd_reverse]
  exact fwd_far h.reverse hp
theorem fwd_ext {n : Nat} {rs ss : List Int} (h1 : Ok (n : Int) rs) (h2 : Ok (n : Int) ss) (e : ends n rs = ends n ss) (p : Int) : fwd rs p = fwd ss p := by
  by_cases hp : 0 ≤ p ∧ p < n
  · have := ends_eq_iff.mp e p.toNat (by omega)
    rwa [Int.toNat_of_nonneg hp.1] at this
  · rw [fwd_far h1 (by omega), fwd_far h2 (by omega)]
theorem st_ends {n : Nat} {rs ss : List Int} (o1 : Ok (n : Int) rs) (o2 : Ok (n : Int) ss) (h1 : stB (-1) (-1) rs = true) (h2 : stB (-1) (-1) ss = true) (e : ends n rs = ends n ss) : rs = ss :=
  st_unique rs ss h1 h2 o1.nn o2.nn (fwd_ext o1 o2 e)
/-! ### the first in the order of words -/
def lexL : List Int → List Int → Bool
  | [], _ => true
  | _ :: _, [] => false
  | a :: as, b :: bs => decide (a < b) || (decide (a = b) && lexL as bs)
/-- each rung crosses two for good -/
def Desc : List Int → Prop
  | [] => True
  | r :: rs => fwd (r :: rs) (r + 1) < fwd (r :: rs) r ∧ Desc rs
theorem st_least : ∀ (st u : List Int), stB (-1) (-1) st = true → NN st → Desc u → (∀ p, fwd st p = fwd u p) → lexL st u = true
  | [], u, _, _, _, _ => by cases u <;> rfl
  | f :: st, [], h, n, _, e => by
    have hf := (st_first h n.head).down
    rw [e, e, fwd_nil, fwd_nil] at hf
    omega
  | f :: st, r :: u, h, n, d, e => by
    have f1 := st_first h n.head
    have d1 := d.1
    rw [← e, ← e] at d1
    have hfr : f ≤ r := by
      by_cases l : r < f
      · have := f1.up r (r + 1) (by omega) (by omega) (by omega) (by omega)
        omega
      · omega
    rw [lexL, Bool.or_eq_true, decide_eq_true_eq, Bool.and_eq_true, decide_eq_true_eq]
    by_cases q : f = r
    · subst q
      exact .inr ⟨rfl, st_least st u (st_tail h n) n.tail d.2 fun p => by rw [fwd_tail f st, fwd_tail f u, e]⟩
    · exact .inl (by omega)
end Lm

/-! Ladders on which no two meet twice. -/
namespace Lm
open La
theorem metA_append : ∀ (a b pre : List Int), metA pre (a ++ b) = metA pre a ++ metA (pre ++ a) b
  | [], b, pre => by
    rw [List.nil_append, List.append_nil]
    rfl
  | r :: a, b, pre => by
    rw [List.cons_append, metA, metA_append a b (pre ++ [r]), List.append_assoc, List.singleton_append]
    rfl
theorem cnt_append_le (a b : List Int) (p : Int × Int) : cnt a p ≤ cnt (a ++ b) p := by
  unfold cnt metL
  rw [metA_append, List.map_append, List.count_append]
  exact Nat.le_add_right _ _
theorem cnt_take_le (rs : List Int) (i : Nat) (p : Int × Int) : cnt (rs.take i) p ≤ cnt rs p := by
  have h := cnt_append_le (rs.take i) (rs.drop i) p
  rwa [List.take_append_drop] at h
def Nice (rs : List Int) : Prop := ∀ i r, rs[i]? = some r → bwd (rs.take i) r < bwd (rs.take i) (r + 1)
theorem walk_par (rs : List Int) (r : Int) : bwd rs r < bwd rs (r + 1) ↔ cnt rs (norm (bwd rs r, bwd rs (r + 1))) % 2 = 0 := by
  have hne := bwd_ne rs r
  unfold norm
  by_cases h : bwd rs r < bwd rs (r + 1)
  · have hp := parity rs h
    rw [fwd_bwd, fwd_bwd] at hp
    rw [if_pos h]
    exact ⟨fun _ => hp.mp (by omega), fun _ => h⟩
  · have h2 : bwd rs (r + 1) < bwd rs r := by omega
    have hp := parity rs h2
    rw [fwd_bwd, fwd_bwd] at hp
    rw [if_neg h]
    exact ⟨fun z => absurd z h, fun z => absurd (hp.mpr z) (by omega)⟩
theorem nice_nil : Nice [] := fun i r h => by simp at h
theorem nice_snoc {rs : List Int} {r : Int} (h : Nice rs) (hr : bwd rs r < bwd rs (r + 1)) : Nice (rs ++ [r]) := by
  intro i q hq
  by_cases hi : i < rs.length
  · rw [List.getElem?_append_left hi] at hq
    have := h i q hq
    rw [List.take_append_of_le_length (Nat.le_of_lt hi)]
    exact this
  · have hl : i < (rs ++ [r]).length := (List.getElem?_eq_some_iff.mp hq).1
    have ei : i = rs.length := by
      rw [List.length_append] at hl
      simp at hl
      omega
    subst ei
    rw [List.getElem?_append_right (Nat.le_refl _), Nat.sub_self] at hq
    cases hq
    rw [List.take_left]
    exact hr
theorem nice_pre {rs : List Int} {r : Int} (h : Nice (rs ++ [r])) : Nice rs ∧ bwd rs r < bwd rs (r + 1) := by
  constructor
  · intro i q hq
    have hi : i < rs.length := (List.getElem?_eq_some_iff.mp hq).1
    have := h i q (by rw [List.getElem?_append_left hi]; exact hq)
    rwa [List.take_append_of_le_length (Nat.le_of_lt hi)] at this
  · have := h rs.length r (by rw [List.getElem?_append_right (Nat.le_refl _), Nat.sub_self]; rfl)
    rwa [List.take_left] at this
/-- by the last rung -/
theorem snoc_ind {P : List Int → Prop} (h0 : P []) (h1 : ∀ rs r, P rs → P (rs ++ [r])) : ∀ rs, P rs := by
  have gen : ∀ (k : Nat) (rs : List Int), rs.length = k → P rs := by
    intro k
    induction k with
    | zero =>
      intro rs h
      rw [List.eq_nil_of_length_eq_zero h]
      exact h0
    | succ k ih =>
      intro rs h
      obtain ⟨pre, r, rfl⟩ : ∃ pre r, rs = pre ++ [r] := by
        have hne : rs ≠ [] := fun e => by rw [e] at h; cases h
        exact ⟨rs.dropLast, rs.getLast hne, (List.dropLast_concat_getLast hne).symm⟩
      exact h1 pre r (ih pre (by simpa using h))
  exact fun rs => gen _ rs rfl
theorem nice_cnt : ∀ (rs : List Int), Nice rs → ∀ p, cnt rs p ≤ 1 := by
  refine snoc_ind (fun _ p => by rw [cnt_nil]; omega) fun rs r ih h p => ?_
  obtain ⟨h1, h2⟩ := nice_pre h
  have i1 := ih h1 p
  rw [cnt_snoc]
  by_cases e : norm (bwd rs r, bwd rs (r + 1)) = p
  · have h3 := (walk_par rs r).mp h2
    rw [e] at h3
    rw [if_pos e]
    omega
  · rw [if_neg e]
    omega
theorem cnt_nice {rs : List Int} (h : ∀ p, cnt rs p ≤ 1) : Nice rs := by
  intro i r hr
  have h1 := h (norm (bwd (rs.take i) r, bwd (rs.take i) (r + 1)))
  have h2 := cnt_take_le rs (i + 1) (norm (bwd (rs.take i) r, bwd (rs.take i) (r + 1)))
  rw [take_snoc hr, cnt_snoc, if_pos rfl] at h2
  exact (walk_par _ _).mpr (by omega)
/-! ### how many come out crossed -/
def inv (n : Nat) (rs : List Int) : Nat := (crossX (fwd rs) n).length
theorem inv_congr {n : Nat} {rs ss : List Int} (h : ∀ p, fwd rs p = fwd ss p) : inv n rs = inv n ss := by
  unfold inv
  rw [crossX_congr fun i _ => h i]
theorem norm_lt {x y : Int} (h : x ≠ y) : (norm (x, y)).1 < (norm (x, y)).2 := by
  unfold norm
  by_cases l : x < y
  · rw [if_pos l]
    exact l
  · rw [if_neg l]
    show y < x
    omega
theorem cross_snoc {n : Nat} {rs : List Int} {r : Int} {p : Int × Int} : p ∈ crossX (fwd (rs ++ [r])) n ↔ if norm (bwd rs r, bwd rs (r + 1)) = p then 0 ≤ p.1 ∧ p.1 < p.2 ∧ p.2 < n ∧ p ∉ crossX (fwd rs) n else p ∈ crossX (fwd rs) n := by
  rw [mem_crossX, mem_crossX, fwd_snoc, fwd_snoc]
  obtain ⟨a, b⟩ := p
  by_cases hab : a < b
  · have hn := norm_eq rs r a b hab
    have c1 := across_cases r (fwd rs a)
    have c2 := across_cases r (fwd rs b)
    have hne : fwd rs a ≠ fwd rs b := fun e => by
      have := fwd_inj e
      omega
    by_cases hm : norm (bwd rs r, bwd rs (r + 1)) = (a, b)
    · rw [if_pos hm]
      have h2 := hn.mp hm
      constructor
      · rintro ⟨h3, h4, h5, h6⟩
        refine ⟨h3, h4, h5, fun z => ?_⟩
        have z4 := z.2.2.2
        simp only at h6 z4
        omega
      · rintro ⟨h3, h4, h5, h6⟩
        refine ⟨h3, h4, h5, ?_⟩
        have : ¬ fwd rs b < fwd rs a := fun z => h6 ⟨h3, h4, h5, z⟩
        simp only
        omega
    · rw [if_neg hm]
      have h2 : ¬ ((fwd rs a = r ∧ fwd rs b = r + 1) ∨ (fwd rs a = r + 1 ∧ fwd rs b = r)) := fun z => hm (hn.mpr z)
      constructor
      · rintro ⟨h3, h4, h5, h6⟩
        refine ⟨h3, h4, h5, ?_⟩
        simp only at h6 ⊢
        omega
      · rintro ⟨h3, h4, h5, h6⟩
        refine ⟨h3, h4, h5, ?_⟩
        simp only at h6 ⊢
        omega
  · have hm : ¬ norm (bwd rs r, bwd rs (r + 1)) = (a, b) := fun e => by
      have := norm_lt (bwd_ne rs r)
      rw [e] at this
      exact hab this
    rw [if_neg hm]
    constructor <;> (rintro ⟨h3, h4, h5, h6⟩; exact absurd h4 hab)
theorem inv_snoc {n : Nat} {rs : List Int} {r : Int} (hok : Ok (n : Int) rs) (hr : 0 ≤ r ∧ r ≤ (n : Int) - 2) :
    if bwd rs r < bwd rs (r + 1) then inv n (rs ++ [r]) = inv n rs + 1 else inv n rs = inv n (rs ++ [r]) + 1 := by
  have b1 := bwd_ok hok (w := r) (by omega)
  have b2 := bwd_ok hok (w := r + 1) (by omega)
  have hne := bwd_ne rs r
  have hlt := norm_lt hne
  have hin : 0 ≤ (norm (bwd rs r, bwd rs (r + 1))).1 ∧ (norm (bwd rs r, bwd rs (r + 1))).2 < n := by
    unfold norm
    by_cases l : bwd rs r < bwd rs (r + 1)
    · rw [if_pos l]
      exact ⟨b1.1, b2.2⟩
    · rw [if_neg l]
      exact ⟨b2.1, b1.2⟩
  have hpar := walk_par rs r
  have hpar2 := parity rs hlt
  have hc : norm (bwd rs r, bwd rs (r + 1)) ∈ crossX (fwd rs) n ↔ ¬ bwd rs r < bwd rs (r + 1) := by
    rw [mem_crossX, hpar, ← hpar2]
    have : fwd rs (norm (bwd rs r, bwd rs (r + 1))).1 ≠ fwd rs (norm (bwd rs r, bwd rs (r + 1))).2 := fun e => by
      have := fwd_inj e
      omega
    constructor
    · intro h
      have := h.2.2.2
      omega
    · intro h
      exact ⟨hin.1, hlt, hin.2, by omega⟩
  generalize hp : norm (bwd rs r, bwd rs (r + 1)) = p at *
  have nd1 := crossX_nodup (fwd rs) n
  have nd2 := crossX_nodup (fwd (rs ++ [r])) n
  unfold inv
  by_cases l : bwd rs r < bwd rs (r + 1)
  · rw [if_pos l]
    have hp1 : p ∉ crossX (fwd rs) n := fun z => hc.mp z l
    have hperm : (crossX (fwd (rs ++ [r])) n).Perm (p :: crossX (fwd rs) n) := (List.perm_ext_iff_of_nodup nd2 (List.nodup_cons.mpr ⟨hp1, nd1⟩)).mpr fun q => by
      rw [cross_snoc, hp, List.mem_cons]
      by_cases e : p = q
      · subst e
        rw [if_pos rfl]
        exact ⟨fun _ => .inl rfl, fun _ => ⟨hin.1, hlt, hin.2, hp1⟩⟩
      · rw [if_neg e]
        exact ⟨.inr, fun z => z.resolve_left (fun z => e z.symm)⟩
    exact hperm.length_eq
  · rw [if_neg l]
    have hp1 : p ∈ crossX (fwd rs) n := hc.mpr l
    have hp2 : p ∉ crossX (fwd (rs ++ [r])) n := fun z => by
      rw [cross_snoc, hp, if_pos rfl] at z
      exact z.2.2.2 hp1
    have hperm : (crossX (fwd rs) n).Perm (p :: crossX (fwd (rs ++ [r])) n) := (List.perm_ext_iff_of_nodup nd1 (List.nodup_cons.mpr ⟨hp2, nd2⟩)).mpr fun q => by
      rw [List.mem_cons, cross_snoc, hp]
      by_cases e : p = q
      · subst e
        exact ⟨fun _ => .inl rfl, fun _ => hp1⟩
      · rw [if_neg e]
        exact ⟨.inr, fun z => z.resolve_left (fun z => e z.symm)⟩
    exact hperm.length_eq
def Red (n : Nat) (rs : List Int) : Prop := inv n rs = rs.length
theorem inv_nil (n : Nat) : inv n [] = 0 := by
  unfold inv
  refine List.length_eq_zero_iff.mpr (List.eq_nil_iff_forall_not_mem.mpr fun p hp => ?_)
  rw [mem_crossX, fwd_nil, fwd_nil] at hp
  omega
theorem ok_pre {n r : Int} {rs : List Int} (h : Ok n (rs ++ [r])) : Ok n rs ∧ 0 ≤ r ∧ r ≤ n - 2 := ⟨fun q hq => h q (List.mem_append_left _ hq), h r (List.mem_append_right _ (List.mem_singleton.mpr rfl))⟩
theorem nice_red {n : Nat} : ∀ (rs : List Int), Ok (n : Int) rs → Nice rs → Red n rs := by
  refine snoc_ind (fun _ _ => inv_nil n) fun rs r ih hok h => ?_
  obtain ⟨o1, o2⟩ := ok_pre hok
  obtain ⟨h1, h2⟩ := nice_pre h
  have hs := inv_snoc o1 o2
  rw [if_pos h2] at hs
  have := ih o1 h1
  unfold Red at *
  rw [hs, this, List.length_append]
  rfl
theorem sub_perm : ∀ (C M : List (Int × Int)), C.Nodup → (∀ p ∈ C, p ∈ M) → M.length ≤ C.length → M.Perm C
  | [], M, _, _, hl => by
    rw [List.eq_nil_of_length_eq_zero (Nat.le_zero.mp hl)]
  | c :: C, M, hn, hs, hl => by
    rw [List.nodup_cons] at hn
    have hc : c ∈ M := hs c List.mem_cons_self
    have h1 : M.Perm (c :: M.erase c) := List.perm_cons_erase hc
    have h2 : (M.erase c).Perm C := sub_perm C (M.erase c) hn.2 (fun p hp => by
      have hpc : p ≠ c := fun e => hn.1 (e ▸ hp)
      exact (List.mem_erase_of_ne hpc).mpr (hs p (List.mem_cons_of_mem _ hp))) (by
      have := h1.length_eq
      rw [List.length_cons] at this hl
      omega)
    exact h1.trans (h2.cons c)
theorem red_perm {n : Nat} {rs : List Int} (hok : Ok (n : Int) rs) (h : Red n rs) : ((metL rs).map norm).Perm (crossX (fwd rs) n) := by
  refine sub_perm _ _ (crossX_nodup _ _) (fun p hp => ?_) ?_
  · obtain ⟨h1, h2, h3, h4⟩ := mem_crossX.mp hp
    have hpar := parity rs h2
    have : ¬ cnt rs p % 2 = 0 := fun z => by
      have := hpar.mpr z
      omega
    have hpos : 0 < cnt rs p := by omega
    exact List.count_pos_iff.mp hpos
  · rw [List.length_map, metL_length]
    exact Nat.le_of_eq h.symm
theorem red_cnt {n : Nat} {rs : List Int} (hok : Ok (n : Int) rs) (h : Red n rs) (p : Int × Int) : cnt rs p ≤ 1 := by
  unfold cnt
  rw [(red_perm hok h).count_eq, List.Nodup.count (crossX_nodup _ _)]
  split <;> omega
theorem red_nice {n : Nat} {rs : List Int} (hok : Ok (n : Int) rs) (h : Red n rs) : Nice rs := cnt_nice (red_cnt hok h)
theorem nice_norm {rs : List Int} (h : Nice rs) : (metL rs).map norm = metL rs := by
  refine (List.map_congr_left (g := id) fun p hp => ?_).trans (List.map_id _)
  obtain ⟨i, hi, e⟩ := List.mem_iff_getElem.mp hp
  have hi2 : i < rs.length := by rw [metL_length] at hi; exact hi
  have h1 := metL_get (List.getElem?_eq_getElem hi2)
  rw [List.getElem?_eq_getElem hi, e] at h1
  injection h1 with h1
  have h2 := h i _ (List.getElem?_eq_getElem hi2)
  rw [h1]
  unfold norm
  rw [if_pos h2]
  rfl
theorem nice_srt {n : Nat} {rs : List Int} (hok : Ok (n : Int) rs) (h : Nice rs) : srtP (metL rs) = crossX (fwd rs) n := by
  have hp := red_perm hok (nice_red rs hok h)
  rw [nice_norm h] at hp
  exact (srtP_unique hp.symm (crossX_sorted _ _)).symm
theorem desc_of : ∀ (u pre : List Int), (∀ p, cnt (pre ++ u) p ≤ 1) → Desc u
  | [], _, _ => trivial
  | r :: u, pre, h => by
    have e1 : pre ++ r :: u = (pre ++ [r]) ++ u := by rw [List.append_assoc, List.singleton_append]
    refine ⟨?_, desc_of u (pre ++ [r]) (by rw [← e1]; exact h)⟩
    have hn := cnt_nice h
    have h2 := hn pre.length r (by rw [List.getElem?_append_right (Nat.le_refl _), Nat.sub_self]; rfl)
    rw [List.take_left] at h2
    have h3 := h (norm (bwd pre r, bwd pre (r + 1)))
    have h4 := cnt_append_le (pre ++ [r]) u (norm (bwd pre r, bwd pre (r + 1)))
    rw [cnt_snoc, if_pos rfl, ← e1] at h4
    have hpar := parity (pre ++ r :: u) h2
    have hnm : norm (bwd pre r, bwd pre (r + 1)) = (bwd pre r, bwd pre (r + 1)) := by
      unfold norm
      rw [if_pos h2]
    rw [hnm] at h3 h4
    rw [fwd_append, fwd_append, fwd_bwd, fwd_bwd] at hpar
    have hne : fwd (r :: u) r ≠ fwd (r :: u) (r + 1) := fun e => by
      have := fwd_inj e
      omega
    have : ¬ fwd (r :: u) r < fwd (r :: u) (r + 1) := fun z => by
      have := hpar.mp z
      omega
    omega
theorem nice_desc {rs : List Int} (h : Nice rs) : Desc rs := desc_of rs [] (nice_cnt rs h)
end Lm

/-! The standing ladder of an outcome. -/
namespace Lm
open La
def desc (s : Int) (k : Nat) : List Int := (List.range k).map fun j : Nat => s - (j : Int)
theorem desc_zero (s : Int) : desc s 0 = [] := rfl
theorem desc_succ (s : Int) (k : Nat) : desc s (k + 1) = desc s k ++ [s - (k : Int)] := by
  unfold desc
  rw [List.range_succ, List.map_append]
  rfl
theorem desc_cons (s : Int) (k : Nat) : desc s (k + 1) = s :: desc (s - 1) k := by
  unfold desc
  rw [List.range_succ_eq_map, List.map_cons, List.map_map]
  congr 1
  · simp
  · refine List.map_congr_left fun j _ => ?_
    show s - ((j + 1 : Nat) : Int) = s - 1 - (j : Int)
    omega
theorem desc_length (s : Int) (k : Nat) : (desc s k).length = k := by simp [desc]
theorem mem_desc {s x : Int} {k : Nat} (h : x ∈ desc s k) : x ≤ s ∧ s - k < x := by
  unfold desc at h
  obtain ⟨j, hj, rfl⟩ := List.mem_map.mp h
  rw [List.mem_range] at hj
  omega
theorem st_desc : ∀ (k : Nat) (h s : Int), stB h s (desc (s - 1) k) = true
  | 0, _, _ => rfl
  | k + 1, h, s => by
    rw [desc_cons, stB_run rfl]
    exact st_desc k h (s - 1)
theorem st_append : ∀ (rs : List Int) (h l s : Int) (k : Nat), stB h l rs = true → h < s → l < s → (∀ r ∈ rs, r < s) → stB h l (rs ++ desc s k) = true
  | [], h, l, s, k, _, hh, hl, _ => by
    rw [List.nil_append]
    cases k with
    | zero => rfl
    | succ k =>
      rw [desc_cons, stB_new (by omega)]
      exact ⟨hh, st_desc k s s⟩
  | r :: rs, h, l, s, k, hs, hh, hl, hr => by
    have h1 := hr r List.mem_cons_self
    rw [List.cons_append]
    by_cases e : r = l - 1
    · rw [stB_run e] at hs ⊢
      exact st_append rs h r s k hs hh h1 fun q hq => hr q (List.mem_cons_of_mem _ hq)
    · rw [stB_new e] at hs ⊢
      exact ⟨hs.1, st_append rs r r s k hs.2 h1 h1 fun q hq => hr q (List.mem_cons_of_mem _ hq)⟩
/-- how many before w come out behind it -/
def kOf (f : Int → Int) (w : Nat) : Nat := ((tab w f).filter fun o => decide (f (w : Int) < o)).length
theorem kOf_le (f : Int → Int) (w : Nat) : kOf f w ≤ w := by
  unfold kOf
  exact Nat.le_trans (List.length_filter_le _ _) (Nat.le_of_eq (tab_length _ _))
def stdN (f : Int → Int) : Nat → List Int
  | 0 => []
  | w + 1 => stdN f w ++ desc ((w : Int) - 1) (kOf f w)
theorem stdN_congr {f g : Int → Int} : ∀ {n : Nat}, (∀ i : Nat, i < n → f i = g i) → stdN f n = stdN g n
  | 0, _ => rfl
  | n + 1, h => by
    have e : tab n f = tab n g := tab_congr fun i hi => h i (by omega)
    have ek : kOf f n = kOf g n := by
      unfold kOf
      rw [e, h n (by omega)]
    show stdN f n ++ _ = stdN g n ++ _
    rw [stdN_congr (fun i hi => h i (by omega)), ek]
/-! ### sorted lists and counting -/
theorem cnt_up : ∀ (xs : List Int) (c : Int), xs.Pairwise (· < ·) → ∀ i : Nat, i < xs.length → (c < xs.getD i 0 ↔ xs.length - (xs.filter fun o => decide (c < o)).length ≤ i)
  | [], _, _, i, h => absurd h (Nat.not_lt_zero _)
  | x :: xs, c, hs, i, hi => by
    obtain ⟨h1, h2⟩ := List.pairwise_cons.mp hs
    have ih := cnt_up xs c h2
    by_cases hc : c < x
    · have hall : ∀ y ∈ xs, c < y := fun y hy => Int.lt_trans hc (h1 y hy)
      have hf : (x :: xs).filter (fun o => decide (c < o)) = x :: xs := List.filter_eq_self.mpr fun y hy => by
        rcases List.mem_cons.mp hy with rfl | hy
        · exact decide_eq_true hc
        · exact decide_eq_true (hall y hy)
      rw [hf, Nat.sub_self]
      refine ⟨fun _ => Nat.zero_le _, fun _ => ?_⟩
      cases i with
      | zero => exact hc
      | succ i =>
        rw [List.getD_cons_succ, List.getD_eq_getElem?_getD, List.getElem?_eq_getElem (by simpa using hi)]
        exact hall _ (List.getElem_mem _)
    · rw [List.filter_cons_of_neg (by rw [decide_eq_false hc]; decide)]
      have hle : (xs.filter fun o => decide (c < o)).length ≤ xs.length := List.length_filter_le _ _
      cases i with
      | zero =>
        rw [List.length_cons]
        constructor
        · intro z
          exact absurd z hc
        · intro z
          omega
      | succ i =>
        rw [List.getD_cons_succ, ih i (by simpa using hi), List.length_cons]
        omega
/-- what is known when the blocks of the first w walkers stand -/
structure Form (f : Int → Int) (w : Nat) (rs : List Int) : Prop where
  ok : Ok (w : Int) rs
  inc : ∀ p q : Int, 0 ≤ p → p < q → q < w → f (bwd rs p) < f (bwd rs q)
  nice : Nice rs
  st : stB (-1) (-1) rs = true
theorem feet_perm {n : Nat} {rs : List Int} (h : Ok (n : Int) rs) : (feet n rs).Perm (tab n id) := by
  have := ends_perm h.reverse
  unfold ends at this
  unfold feet
  rwa [show tab n (fwd rs.reverse) = tab n (bwd rs) from tab_congr fun i _ => fwd_reverse _ _] at this
theorem tab_map (n : Nat) (f g : Int → Int) : (tab n f).map g = tab n (fun i => g (f i)) := by
  unfold tab
  rw [List.map_map]
  rfl
theorem form_count {f : Int → Int} {w : Nat} {rs : List Int} (h : Form f w rs) {p : Int} (h0 : 0 ≤ p) (h1 : p < w) : f (w : Int) < f (bwd rs p) ↔ (w : Int) - kOf f w ≤ p := by
  have hperm : (tab w fun i => f (bwd rs i)).Perm (tab w f) := by
    have h2 := (feet_perm h.ok).map f
    unfold feet at h2
    rw [tab_map, tab_map] at h2
    exact h2
  have hk : ((tab w fun i => f (bwd rs i)).filter fun o => decide (f (w : Int) < o)).length = kOf f w := by
    unfold kOf
    exact (hperm.filter _).length_eq
  have hs : (tab w fun i => f (bwd rs i)).Pairwise (· < ·) := by
    rw [List.pairwise_iff_getElem]
    intro i j hi hj hij
    rw [tab_get, tab_get]
    rw [tab_length] at hj
    exact h.inc _ _ (by omega) (by omega) (by omega)
  have hc := cnt_up _ (f (w : Int)) hs p.toNat (by rw [tab_length]; omega)
  have hle := kOf_le f w
  rw [hk, tab_length, tab_getD _ (by omega), Int.toNat_of_nonneg h0] at hc
  rw [hc]
  omega
/-- the walker w goes j posts down -/
theorem block_bwd {w : Nat} {rs : List Int} (hok : Ok (w : Int) rs) : ∀ (j : Nat), j ≤ w → ∀ p : Int, 0 ≤ p → bwd (rs ++ desc ((w : Int) - 1) j) p = if p < (w : Int) - j then bwd rs p else if p = (w : Int) - j then w else if p ≤ w then bwd rs (p - 1) else p
  | 0, _, p, h0 => by
    rw [desc_zero, List.append_nil]
    split
    · rfl
    · split
      · rename_i h1 h2
        rw [bwd_far hok (by omega)]
        simpa using h2
      · split
        · omega
        · exact bwd_far hok (by omega)
  | j + 1, hj, p, h0 => by
    have c := across_cases ((w : Int) - 1 - (j : Int)) p
    rw [desc_succ, ← List.append_assoc, bwd_snoc, block_bwd hok j (by omega) _ (by omega)]
    rcases c with ⟨c1, c2⟩ | ⟨c1, c2⟩ | ⟨c1, c2, c3⟩
    · rw [c2, if_neg (show ¬ (w : Int) - 1 - (j : Int) + 1 < (w : Int) - j by omega), if_pos (show (w : Int) - 1 - (j : Int) + 1 = (w : Int) - j by omega), if_neg (show ¬ p < (w : Int) - ((j + 1 : Nat) : Int) by omega), if_pos (show p = (w : Int) - ((j + 1 : Nat) : Int) by omega)]
    · rw [c2, if_pos (show (w : Int) - 1 - (j : Int) < (w : Int) - j by omega), if_neg (show ¬ p < (w : Int) - ((j + 1 : Nat) : Int) by omega), if_neg (show ¬ p = (w : Int) - ((j + 1 : Nat) : Int) by omega), if_pos (show p ≤ (w : Int) by omega), show (w : Int) - 1 - (j : Int) = p - 1 by omega]
    · rw [c3]
      have c2' : ¬ p = (w : Int) - j := by omega
      by_cases h1 : p < (w : Int) - j
      · rw [if_pos h1, if_pos (show p < (w : Int) - ((j + 1 : Nat) : Int) by omega)]
      · rw [if_neg h1, if_neg c2', if_neg (show ¬ p < (w : Int) - ((j + 1 : Nat) : Int) by omega), if_neg (show ¬ p = (w : Int) - ((j + 1 : Nat) : Int) by omega)]
theorem block_nice {w : Nat} {rs : List Int} (hok : Ok (w : Int) rs) (hn : Nice rs) : ∀ (j : Nat), j ≤ w → Nice (rs ++ desc ((w : Int) - 1) j)
  | 0, _ => by rwa [desc_zero, List.append_nil]
  | j + 1, hj => by
    rw [desc_succ, ← List.append_assoc]
    refine nice_snoc (block_nice hok hn j (by omega)) ?_
    rw [block_bwd hok j (by omega) _ (by omega), block_bwd hok j (by omega) _ (by omega), if_pos (show (w : Int) - 1 - (j : Int) < (w : Int) - j by omega), if_neg (show ¬ (w : Int) - 1 - (j : Int) + 1 < (w : Int) - j by omega), if_pos (show (w : Int) - 1 - (j : Int) + 1 = (w : Int) - j by omega)]
    have := bwd_ok hok (w := (w : Int) - 1 - (j : Int)) (by omega)
    omega
theorem block_ok {w k : Nat} {rs : List Int} (hok : Ok (w : Int) rs) (hk : k ≤ w) : Ok ((w + 1 : Nat) : Int) (rs ++ desc ((w : Int) - 1) k) := fun r hr => by
  rcases List.mem_append.mp hr with h | h
  · have := hok r h
    omega
  · have := mem_desc h
    omega
theorem form_step {f : Int → Int} {w : Nat} {rs : List Int} (h : Form f w rs) (hinj : ∀ p : Int, 0 ≤ p → p < w → f p ≠ f w) : Form f (w + 1) (rs ++ desc ((w : Int) - 1) (kOf f w)) := by
  have hk := kOf_le f w
  refine ⟨block_ok h.ok hk, fun p q h0 h1 h2 => ?_, block_nice h.ok h.nice _ hk, ?_⟩
  · have hb := block_bwd h.ok (kOf f w) hk
    rw [hb p h0, hb q (by omega)]
    have key : ∀ p : Int, 0 ≤ p → p < w → (f (w : Int) < f (bwd rs p) ↔ (w : Int) - kOf f w ≤ p) := fun p a b => form_count h a b
    have key2 : ∀ p : Int, 0 ≤ p → p < w → p < (w : Int) - kOf f w → f (bwd rs p) < f (w : Int) := fun p a b c => by
      have h3 := key p a b
      have h4 := bwd_ok h.ok (w := p) ⟨a, b⟩
      have h5 := hinj _ h4.1 h4.2
      have : ¬ f (w : Int) < f (bwd rs p) := fun z => by
        have := h3.mp z
        omega
      omega
    by_cases p1 : p < (w : Int) - kOf f w
    · rw [if_pos p1]
      by_cases q1 : q < (w : Int) - kOf f w
      · rw [if_pos q1]
        exact h.inc _ _ h0 h1 (by omega)
      · rw [if_neg q1]
        by_cases q2 : q = (w : Int) - kOf f w
        · rw [if_pos q2]
          exact key2 p h0 (by omega) p1
        · rw [if_neg q2, if_pos (by omega)]
          exact h.inc _ _ h0 (by omega) (by omega)
    · rw [if_neg p1, if_neg (show ¬ q < (w : Int) - kOf f w by omega), if_neg (show ¬ q = (w : Int) - kOf f w by omega), if_pos (show q ≤ (w : Int) by omega)]
      by_cases p2 : p = (w : Int) - kOf f w
      · rw [if_pos p2]
        exact (key _ (by omega) (by omega)).mpr (by omega)
      · rw [if_neg p2, if_pos (by omega)]
        exact h.inc _ _ (by omega) (by omega) (by omega)
  · cases w with
    | zero =>
      have e : kOf f 0 = 0 := Nat.le_zero.mp hk
      rw [e, desc_zero, List.append_nil]
      exact h.st
    | succ v =>
      by_cases hv : v = 0
      · subst hv
        have hnil : rs = [] := by
          cases rs with
          | nil => rfl
          | cons r rs =>
            have := h.ok r List.mem_cons_self
            omega
        rw [hnil]
        exact st_append [] _ _ _ _ rfl (by omega) (by omega) (fun r hr => nomatch hr)
      · exact st_append rs _ _ _ _ h.st (by omega) (by omega) fun r hr => by
          have := h.ok r hr
          omega
theorem form_all {f : Int → Int} {n : Nat} (hinj : ∀ p q : Int, 0 ≤ p → p < q → q < n → f p ≠ f q) : ∀ w : Nat, w ≤ n → Form f w (stdN f w)
  | 0, _ => ⟨Ok.nil, fun p q _ _ _ => by omega, nice_nil, rfl⟩
  | w + 1, hw => form_step (form_all hinj w (by omega)) fun p h0 h1 => hinj p w h0 h1 (by omega)
theorem inc_id {n : Nat} {g : Int → Int} (inc : ∀ p q : Int, 0 ≤ p → p < q → q < n → g p < g q) (hin : ∀ p : Int, 0 ≤ p → p < n → 0 ≤ g p ∧ g p < n) : ∀ p : Int, 0 ≤ p → p < n → g p = p := by
  have lo : ∀ k : Nat, k < n → (k : Int) ≤ g k := by
    intro k
    induction k with
    | zero => exact fun h => (hin 0 (by omega) (by omega)).1
    | succ k ih =>
      intro h
      have h1 := ih (by omega)
      have h2 := inc (k : Int) ((k + 1 : Nat) : Int) (by omega) (by omega) (by omega)
      omega
  have hi : ∀ k : Nat, k < n → g ((n - 1 - k : Nat) : Int) ≤ ((n - 1 - k : Nat) : Int) := by
    intro k
    induction k with
    | zero =>
      intro h
      have := (hin ((n - 1 - 0 : Nat) : Int) (by omega) (by omega)).2
      omega
    | succ k ih =>
      intro h
      have h1 := ih (by omega)
      have h2 := inc ((n - 1 - (k + 1) : Nat) : Int) ((n - 1 - k : Nat) : Int) (by omega) (by omega) (by omega)
      omega
  intro p h0 h1
  have l := lo p.toNat (by omega)
  have u := hi (n - 1 - p.toNat) (by omega)
  rw [show ((n - 1 - (n - 1 - p.toNat) : Nat) : Int) = p by omega] at u
  rw [Int.toNat_of_nonneg h0] at l
  omega
/-- an outcome as a map -/
structure Perm (f : Int → Int) (n : Nat) : Prop where
  inj : ∀ p q : Int, 0 ≤ p → p < q → q < n → f p ≠ f q
  into : ∀ p : Int, 0 ≤ p → p < n → 0 ≤ f p ∧ f p < n
theorem std_fwd {f : Int → Int} {n : Nat} (h : Perm f n) {w : Int} (h0 : 0 ≤ w) (h1 : w < n) : fwd (stdN f n) w = f w := by
  have F := form_all h.inj n (Nat.le_refl _)
  have hid := inc_id (g := fun p => f (bwd (stdN f n) p)) F.inc fun p a b => by
    have := bwd_ok F.ok (w := p) ⟨a, b⟩
    exact h.into _ this.1 this.2
  have hw := fwd_ok F.ok (w := w) ⟨h0, h1⟩
  have := hid (fwd (stdN f n) w) hw.1 hw.2
  simp only [bwd_fwd] at this
  exact this.symm
theorem std_ends {f : Int → Int} {n : Nat} (h : Perm f n) : ends n (stdN f n) = tab n f := tab_congr fun i hi => std_fwd h (by omega) (by omega)
theorem perm_ends {n : Nat} {rs : List Int} (hok : Ok (n : Int) rs) : Perm (fwd rs) n := ⟨fun p q _ h1 _ e => by
  have := fwd_inj e
  omega, fun p h0 h1 => fwd_ok hok ⟨h0, h1⟩⟩
/-- a standing ladder is that of its ends -/
theorem st_is_std {n : Nat} {rs : List Int} (hok : Ok (n : Int) rs) (hs : stB (-1) (-1) rs = true) : rs = stdN (fwd rs) n := by
  have F := form_all (perm_ends hok).inj n (Nat.le_refl _)
  exact st_ends hok F.ok hs F.st (std_ends (perm_ends hok)).symm
end Lm

/-! enumerate over a tuple. -/
namespace La
open PySem L2 PySem.Spec PyProof.Rows
theorem meets_enum1 {v : Value} {o : Obj} {G : Heap → Prop} (B : Begins v o G) :
    Meets (Builtin.«enumerate.__new__» ⟨[.type "enumerate", v], []⟩) (fun _ R s => G s.heap ∧
      R (.ok (.ret (.ref (s.heap.push o).objs.size))) { s with heap := (s.heap.push o).push { cls := .type "enumerate", data := .fields #[.none, .bool false, .ref s.heap.objs.size, rawInt 0, .none, .none] } }) :=
  .of_wp fun prog w A R s h => by
    obtain ⟨hp, g, d, tk, os⟩ := s
    obtain ⟨h1, h⟩ := h
    have hsub := sub_enumerate
    have q1 : ∀ {A' : Around} {E : Value → Shared → Prop} {Q : Value → Shared → Prop}, Q (.ref hp.objs.size) ⟨hp.push o, g, d, tk, os⟩ → wpAny (model prog w) A' (pyIter v) Q E ⟨hp, g, d, tk, os⟩ :=
      fun q => B.iter prog w _ _ ⟨hp, g, d, tk, os⟩ _ h1 q
    wp_walk using q1
    refine wpAny_stack_any fun st => wpAny_pure ?_
    split
    · rename_i c _ _ _ _ _
      cases (c == Value.type "enumerate")
      · wp_walk using q1
        exact ⟨_, rfl, h⟩
      · wp_walk using q1
        exact ⟨_, rfl, h⟩
    · wp_walk using q1
      exact ⟨_, rfl, h⟩
theorem call_enumT {prog : Program} {w : World} {A : Around} {E : Value → Shared → Prop} {s : Shared} {t : Addr} {items : Array Value} {Q : Value → Shared → Prop} (hT : s.heap.IsTuple t items)
    (h : ∀ h', IsEnum h' (s.heap.objs.size + 1) s.heap.objs.size 0 .none → h'.IsTupleIter s.heap.objs.size t 0 → h'.objs.size = s.heap.objs.size + 2 →
      (∀ b o, s.heap.get? b = some o → h'.get? b = some o) → Q (.ref (s.heap.objs.size + 1)) { s with heap := h' }) :
    wpAny (model prog w) A (call (.type "enumerate") [.ref t]) Q E s := by
  refine callType_new F.called_enumerate (by decide) (F.typeCall_enumerate_1 _) (F.newCall_enumerate_1 _) (fun obj => F.args_object_init_2 obj _) F.entry_enumerate_new
    (meets_enum1 (begins_tuple t items)) ⟨hT, ?_⟩
  have hz : (s.heap.push { cls := .type "tuple_iterator", data := .fields #[.ref t, .int 0 0] }).objs.size = s.heap.objs.size + 1 := Heap.size_push ..
  show _ ∧ _
  rw [hz]
  have he : IsEnum ((s.heap.push { cls := .type "tuple_iterator", data := .fields #[.ref t, .int 0 0] }).push
      { cls := .type "enumerate", data := .fields #[.none, .bool false, .ref s.heap.objs.size, rawInt 0, .none, .none] }) (s.heap.objs.size + 1) s.heap.objs.size 0 .none := by
    have := Heap.get?_push_size (s.heap.push { cls := .type "tuple_iterator", data := .fields #[.ref t, .int 0 0] })
      (o := { cls := .type "enumerate", data := .fields #[.none, .bool false, .ref s.heap.objs.size, rawInt 0, .none, .none] }) rfl
    rw [hz] at this
    exact this
  refine ⟨⟨_, he, rfl⟩, h _ he ⟨_, Heap.get?_push_of_some _ (Heap.get?_push_size _ rfl), rfl, rfl⟩ (by rw [Heap.size_push, hz]) fun b o x => Heap.get?_push_of_some _ (Heap.get?_push_of_some _ x)⟩
theorem enum_endT {prog : Program} {w : World} {A : Around} {E : Value → Shared → Prop} {s : Shared} {e it t : Addr} {items : Array Value} {i : Nat} {old : Value} {Q : Option Value → Shared → Prop} (hh : A.in1.handled = none)
    (he : IsEnum s.heap e it i old) (hit : s.heap.IsTupleIter it t i) (ht : s.heap.IsTuple t items) (hx : items[i]? = none) (hQ : ∀ h', Heap.ExtBut it s.heap h' → Q none { s with heap := h' }) : wpAny (model prog w) A (pyNext (.ref e)) Q E s := by
  have hT : s.TypeIs (.ref e) "enumerate" := ⟨_, he, rfl⟩
  unfold pyNext
  refine wpAny_bind (wpAny_attempt (wpAny_callSpecial?_slot (name := Str.ofString "__next__") hT F.slot_enumerate_next
    (wpAny_call_entry F.slot_enumerate_next hT F.entry_enumerate_next ?_ (F.args_enumerate_next_1 _))))
  show wpAny _ _ (field (.ref e) 2 >>= _) _ _ _
  refine wpAny_bind (wpAny_field he rfl (x := .ref it) rfl ?_)
  refine wpAny_bind (wpAny_nextOf_tuple_end hh hit ht hx fun h' x he' hx' => ?_)
  obtain ⟨o, ho, hc⟩ := hx'
  refine wpAny_bind (wpAny_isInstance (T := "StopIteration") (b := true) ⟨o, ho, hc⟩ isSubtype_stop ?_)
  exact wpAny_pure (hQ _ he')
/-- the tuple at a, each item in a new pair -/
def IteT (K : PySem.W.Frag) (a : Addr) : It :=
  ⟨fun i H => ∃ (xs : List V) (x : V), SqT K H a xs ∧ xs[i]? = some x, fun i H v H' => ∃ T x, v = .ref T ∧ H T = none ∧ H' = upd H T (.tup [.int (i : Nat), x]) ∧ ∀ xs, SqT K H a xs → xs[i]? = some x, fun i H => ∃ xs : List V, SqT K H a xs ∧ xs.length ≤ i⟩
theorem turn_enumT {P : Program} {w : World} {K : PySem.W.Frag} {elts : List Expr} {kk : Nat} {tpos : Pos} (a e it : Addr) :
    Turn P w K (.Tuple elts kk tpos) (IteT K a) [e, it] e (fun i h => (∃ old, IsEnum h e it ((i : Nat) : Int) old) ∧ h.IsTupleIter it a i ∧ e ≠ it ∧ a ≠ it ∧ a ≠ e) where
  mem := by simp
  obj := fun i h st b hb => by
    obtain ⟨⟨old, he⟩, ⟨o, ho, hc, hd⟩, _⟩ := st
    have e' : b = e ∨ b = it := by simpa using hb
    rcases e' with z | z
    · rw [z]; exact ⟨_, he, fun v q => nomatch q⟩
    · rw [z]; exact ⟨o, ho, fun v q => by rw [hd] at q; cases q⟩
  keep := fun i h h' st k => let ⟨⟨old, he⟩, hi, hne⟩ := st; ⟨⟨old, k e (by simp) _ he⟩, hi.at fun o q => k it (by simp) o q, hne⟩
  item := by
    intro X hP hw hK hc i pins s σ H E I hf st hg
    subst hP hw hK
    obtain ⟨⟨old, he⟩, hit, hne, hai, hae⟩ := st
    obtain ⟨xs, x, hq, hx⟩ := hg
    obtain ⟨its, rv, p, hz⟩ := I.tuple hq
    obtain ⟨u, hu, ru⟩ := rv.get hx
    have hel : e < s.heap.objs.size := Heap.lt_size he
    have hil : it < s.heap.objs.size := by obtain ⟨_, q, _⟩ := hit; exact Heap.lt_size q
    have hlt : i < its.toArray.size := by
      have := (List.getElem?_eq_some_iff.mp hu).1
      simpa using this
    refine wpAny_pyNext_enum_itemD (Draws.tuple (A := X.A.in1) (I.ok.hd hc) it a hai its.toArray) he ⟨hit, p⟩ hlt hne (by simp [hne, Ne.symm hae]) fun u' h' tk hPu ho hit' hT hsz hk => ?_
    have eu : u' = u := by
      have h1 : its.toArray[i]? = some u := by simpa using hu
      have h2 : its.toArray[i]? = some u' := hPu
      rw [h1] at h2
      injection h2 with h2
      exact h2.symm
    subst eu
    refine ⟨_, rfl, wpAny_letOwnedTupleGo_enum (s := { s with heap := h', toks := tk + 1 }) ho fun h'' he' sb => ?_⟩
    have hT2 : h''.get? s.heap.objs.size = some { cls := .type "tuple", data := .seq #[.int i tk, u'] } := (sb.2 _ (Nat.ne_of_gt hel)).trans hT
    have new : ObjOk X.prog X.w (upd H s.heap.objs.size (.tup [.int (i : Nat), x])) h'' s.heap.objs.size (.tup [.int (i : Nat), x]) :=
      ⟨by show 2 ≤ sizeLine; decide, [.int i tk, u'], .cons ⟨_, rfl⟩ (.cons ru .nil), ⟨_, hT2, rfl, _, rfl⟩⟩
    have I1 : Inv X pins σ (upd H s.heap.objs.size (.tup [.int (i : Nat), x])) { s with heap := h'', toks := tk + 1 } :=
      I.turnedNew (ch := [e, it]) (fun b ob hb q => (sb.2 b (fun z => hb (by simp [z]))).trans (hk b ob (fun z => hb (by simp [z])) (fun z => hb (by simp [z])) q)) hf (Nat.le_refl _) new
    refine ⟨.ref s.heap.objs.size, _, I1, rfl, ⟨_, x, rfl, I.hok.fresh (Nat.le_refl _), rfl, fun ys hy => by rw [I.tuple_inj hy hq]; exact hx⟩, ⟨⟨u', ?_⟩, hit'.1.at fun o q => (sb.2 it (Ne.symm hne)).trans q, hne, hai, hae⟩, fun b hb => ?_⟩
    · have e1 : ((i + 1 : Nat) : Int) = (i : Int) + 1 := by omega
      rw [e1]; exact he'
    · have hb' : b < s.heap.objs.size := by
        have e' : b = e ∨ b = it := by simpa using hb
        rcases e' with z | z
        · rw [z]; exact hel
        · rw [z]; exact hil
      rw [upd_ne (Nat.ne_of_lt hb')]
      exact (hf b hb).1
  done := by
    intro X hP hw hK hc i pins s σ H E I hf st hg
    subst hP hw hK
    obtain ⟨⟨old, he⟩, hit, hne, hai, hae⟩ := st
    obtain ⟨xs, hq, hx⟩ := hg
    obtain ⟨its, rv, p, hz⟩ := I.tuple hq
    obtain ⟨f0, f1, f2, f3, f4, f5⟩ := hf it (by simp)
    have hl := rv.length
    exact enum_endT (I.ok.hd hc) he hit p (by simp; omega) fun h' eb => ⟨rfl, I.turned (t' := s.toks) (fun b o hb q => eb b o hb q) f0 f1 f3 f4 f5⟩
  self := fun A i s Q E st h => let ⟨⟨_, he⟩, _⟩ := st; wpAny_pyIter_enum he h
def iEnumT (K : PySem.W.Frag) (ta : TA) : TI := fun σ H R => ta σ H fun vs H1 => ∃ a xs, vs = [.ref a] ∧ SqT K H1 a xs ∧ R (IteT K a) H1
theorem pi_enumT {X : Cx} {e : Expr} {ta : TA} {p pos tpos : Pos} {elts : List Expr} {kk : Nat} (hg : Gl X "enumerate") (hm : X.mg "enumerate" = none) (ha : PA X [e] ta) (hs : starEach [e] X.env = [(false, eval e X.env)] := by rfl) :
    PI X (.Tuple elts kk tpos) (.Call (.Name "enumerate" p) [e] [] pos) (iEnumT X.K ta) := by
  refine ⟨fun pins s σ H R I h => ?_⟩
  refine Call_ (ld_blt I hg hm boot_enumerate (PyProof.Rows.callWith_type1 (thn (ha.run pos pins s σ H _ I h) fun us s1 ⟨vs, H1, I1, r1, q1⟩ => ?_) hs rfl))
  obtain ⟨a, xs, ex, hq, q⟩ := q1
  subst ex
  cases r1 with
  | cons r rr =>
    cases rr
    cases r
    obtain ⟨its, rv, p', hz⟩ := I1.tuple hq
    have hal : a < s1.heap.objs.size := by obtain ⟨_, y, _⟩ := id p'; exact Heap.lt_size y
    refine call_enumT p' fun h' he hit hsz hk => wpAny_pyIter_enum he ?_
    have I2 : Inv X pins σ H1 { s1 with heap := h' } := I1.kept (t' := s1.toks) hk
    refine ⟨s1.heap.objs.size + 1, [s1.heap.objs.size + 1, s1.heap.objs.size], _, _, H1, rfl, I2, turn_enumT a (s1.heap.objs.size + 1) s1.heap.objs.size, ⟨⟨.none, he⟩, hit, Nat.succ_ne_self _, Nat.ne_of_lt hal, Nat.ne_of_lt (Nat.lt_succ_of_lt hal)⟩, fun b hb => ?_, q⟩
    have e' : b = s1.heap.objs.size + 1 ∨ b = s1.heap.objs.size := by simpa using hb
    have hle : s1.heap.objs.size ≤ b := by
      rcases e' with z | z
      · rw [z]; exact Nat.le_add_right _ _
      · rw [z]; exact Nat.le_refl _
    exact I1.fpOk hle (I1.hok.fresh hle)
section
variable {K : PySem.W.Frag} {σ : L2.St} {H H' : Hp} {t : TS} {nx bk ct : L2.St → Hp → Prop} {rt : VK} {g : TG}
theorem s_forEnumT {ta : TA} (h : Cl (ta σ) H fun vs Hb => ∃ a xs, vs = [.ref a] ∧ SqT K Hb a xs ∧ ∃ Pv : Nat → L2.St → Hp → Prop, Pv 0 σ Hb ∧ (∀ i σ' Hc, i ≤ xs.length → Pv i σ' Hc → SqT K Hc a xs) ∧
      (∀ (i : Nat) x σ' Hc T, xs[i]? = some x → Pv i σ' Hc → Hc T = none → ClG g (.ref T) σ' (upd Hc T (.tup [.int (i : Int), x])) fun σ2 H2 => S t (Pv (i + 1)) rt nx (Pv (i + 1)) σ2 H2) ∧ ∀ σ' Hc, Pv xs.length σ' Hc → nx σ' Hc) : S (tFor (iEnumT K ta) g t) nx rt bk ct σ H := fun H1 e D d1 d2 d3 d4 =>
  h H1 e _ fun vs Hb H2 ⟨a, xs, ex, hs, Pv, h0, hl, hst, hd⟩ e2 => ⟨a, xs, ex, seqT e2 hs, fun i m σ' H' => m = xs.length - i ∧ i ≤ xs.length ∧ Up (Pv i) σ' H', ⟨xs.length, by simp, Nat.zero_le _, Hb, e2, h0⟩, by
    rintro i m σ' H' ⟨rfl, hi, Hc, ec, p⟩
    have q := seqT ec (hl i σ' Hc hi p)
    by_cases hlt : i < xs.length
    · refine .inr ⟨⟨xs, xs[i], q, by simp [hlt]⟩, Up (Pv (i + 1)), fun σ2 H2 p' => ⟨xs.length - (i + 1), by omega, rfl, hlt, p'⟩, fun x H3 y => ?_⟩
      obtain ⟨T, v, rfl, hT, rfl, hv⟩ := y
      exact hst i v σ' Hc T (hv xs q) p (ec.free hT) _ (sameUpd ec) _ fun σ2 Hd H4 hS e4 => hS H4 e4 { D with nx := Up (Pv (i + 1)), ct := Up (Pv (i + 1)), bk := D.nx } (fun _ Hb _ q e => ⟨Hb, e, q⟩) d2 d1 (fun _ Hb _ q e => ⟨Hb, e, q⟩)
    · have ei : i = xs.length := by omega
      subst ei
      exact .inl ⟨⟨xs, q, Nat.le_refl _⟩, d1 _ _ _ (hd _ _ p) ec⟩⟩
end
end La

/-! Lists of ints by <=, pairs of ints by >. -/
namespace La
open PySem L2 PySem.Spec PyProof.Rows
theorem first_lex : ∀ (ns ms : List Int), PySem.SeqAt.firstLt (fun j => decide (ns.getD j 0 = ms.getD j 0)) (fun j => decide (ns.getD j 0 ≤ ms.getD j 0)) (decide (ns.length ≤ ms.length)) (List.range (min ns.length ms.length)) = Lm.lexL ns ms
  | [], ms => by
    rw [List.length_nil, Nat.zero_min]
    show decide (0 ≤ ms.length) = Lm.lexL [] ms
    rw [decide_eq_true (Nat.zero_le _)]
    cases ms <;> rfl
  | n :: ns, [] => by
    rw [List.length_nil, Nat.min_zero]
    show decide (ns.length + 1 ≤ 0) = false
    exact decide_eq_false (by omega)
  | n :: ns, m :: ms => by
    have ih := first_lex ns ms
    rw [List.length_cons, List.length_cons, Nat.add_min_add_right, List.range_succ_eq_map]
    show (if decide (n = m) = true then PySem.SeqAt.firstLt _ _ _ ((List.range (min ns.length ms.length)).map Nat.succ) else decide (n ≤ m)) = (decide (n < m) || (decide (n = m) && Lm.lexL ns ms))
    rw [PySem.W.firstLt_map]
    by_cases h : n = m
    · have e1 : decide (n < m) = false := decide_eq_false (by omega)
      have e2 : decide (ns.length + 1 ≤ ms.length + 1) = decide (ns.length ≤ ms.length) := decide_eq_decide.mpr (by omega)
      rw [if_pos (decide_eq_true h), decide_eq_true h, e1, Bool.false_or, Bool.true_and, ← ih, e2]
      rfl
    · rw [if_neg (by rw [decide_eq_false h]; decide), decide_eq_false h, Bool.false_and, Bool.or_false]
      exact decide_eq_decide.mpr (by omega)
def rLeL (K : PySem.W.Frag) : R2 := fun x y H Q => ∃ (a b : Addr) (ns ms : List Int), x = .ref a ∧ y = .ref b ∧ SqL K H a (ns.map V.int) ∧ SqL K H b (ms.map V.int) ∧ Q (.bl (Lm.lexL ns ms)) H
theorem op_leL {X : Cx} (hu : X.A.units < cLine) : OpR X (compareOp .LtE) (rLeL X.K) := by
  intro pins s σ H x y v u Q I rx ry h
  obtain ⟨a, b, ns, ms, rfl, rfl, ha, hb, q⟩ := h
  cases rx
  cases ry
  obtain ⟨its, r1, p1, _⟩ := I.list ha
  obtain ⟨its2, r2, p2, _⟩ := I.list hb
  have i1 : IntsAre its ns := Vals.ints r1
  have i2 : IntsAre its2 ms := Vals.ints r2
  have e1 : its.toArray.size = ns.length := by rw [List.size_toArray]; exact i1.length
  have e2 : its2.toArray.size = ms.length := by rw [List.size_toArray]; exact i2.length
  have at1 : ∀ j (h1 : j < its.toArray.size), ∃ t, its.toArray[j] = .int (ns.getD j 0) t := fun j h1 => PyProof.Rows.IntsAre.int_at i1 _ _ (by simp at h1; simp [h1])
  have at2 : ∀ j (h1 : j < its2.toArray.size), ∃ t, its2.toArray[j] = .int (ms.getD j 0) t := fun j h1 => PyProof.Rows.IntsAre.int_at i2 _ _ (by simp at h1; simp [h1])
  have R := PySem.SeqAt.RcOp.lists_le (A := X.A) (s := s) (e := fun j => decide (ns.getD j 0 = ms.getD j 0)) (r := fun j => decide (ns.getD j 0 ≤ ms.getD j 0)) p1.isList p2.isList hu (fun j h1 h2 => by
    obtain ⟨t, et⟩ := at1 j h1
    obtain ⟨t', et'⟩ := at2 j h2
    rw [et, et']
    have z : (ns.getD j 0 == ms.getD j 0) = decide (ns.getD j 0 = ms.getD j 0) := by
      by_cases q : ns.getD j 0 = ms.getD j 0
      · rw [decide_eq_true q]; exact beq_iff_eq.mpr q
      · rw [decide_eq_false q]; exact beq_eq_false_iff_ne.mpr q
    rw [← z]
    exact SeqAt.EqAt.int_int _ _ _ _) (fun j h1 h2 _ => by
    obtain ⟨t, et⟩ := at1 j h1
    obtain ⟨t', et'⟩ := at2 j h2
    rw [et, et']
    exact fun _ _ _ _ h => PyProof.Rows.le_int h)
  rw [e1, e2, first_lex] at R
  have z : wpAny (model X.prog X.w) X.A (compareOp .LtE (.ref a) (.ref b)) (EP X pins σ Q) X.xe s := R X.prog X.w X.xe (EP X pins σ Q) ⟨.bl _, H, I, rfl, q⟩
  exact z
theorem op_leLK {X : Cx} {K : PySem.W.Frag} (hK : X.K = K) (hu : X.A.units < cLine) : OpR X (compareOp .LtE) (rLeL K) := hK ▸ op_leL hu
def rGtT (K : PySem.W.Frag) : R2 := fun x y H Q => ∃ (a b : Addr) (i j k l : Int), x = .ref a ∧ y = .ref b ∧ SqT K H a [.int i, .int j] ∧ SqT K H b [.int k, .int l] ∧ Q (.bl (decide (k < i ∨ (i = k ∧ l < j)))) H
theorem op_gtT {X : Cx} (hu : X.A.units < cLine) : OpR X (compareOp .Gt) (rGtT X.K) := by
  intro pins s σ H x y v u Q I rx ry h
  obtain ⟨a, b, i, j, k, l, rfl, rfl, ha, hb, q⟩ := h
  cases rx
  cases ry
  obtain ⟨its, r1, p1, _⟩ := I.tuple ha
  obtain ⟨its2, r2, p2, _⟩ := I.tuple hb
  have i1 : IntsAre its [i, j] := Vals.ints (ns := [i, j]) r1
  have i2 : IntsAre its2 [k, l] := Vals.ints (ns := [k, l]) r2
  have e1 : its.toArray.size = 2 := by rw [List.size_toArray]; exact i1.length
  have e2 : its2.toArray.size = 2 := by rw [List.size_toArray]; exact i2.length
  have at1 : ∀ m (h1 : m < its.toArray.size), ∃ t, its.toArray[m] = .int ([i, j].getD m 0) t := fun m h1 => PyProof.Rows.IntsAre.int_at i1 _ _ (by simp at h1; simp [h1])
  have at2 : ∀ m (h1 : m < its2.toArray.size), ∃ t, its2.toArray[m] = .int ([k, l].getD m 0) t := fun m h1 => PyProof.Rows.IntsAre.int_at i2 _ _ (by simp at h1; simp [h1])
  have R := Ob.RcOp.tuples_gt (A := X.A) (s := s) (e := fun m => decide ([i, j].getD m 0 = [k, l].getD m 0)) (r := fun m => decide ([k, l].getD m 0 < [i, j].getD m 0)) p1 p2 hu (fun m h1 h2 => by
    obtain ⟨t, et⟩ := at1 m h1
    obtain ⟨t', et'⟩ := at2 m h2
    rw [et, et']
    have z : ([i, j].getD m 0 == [k, l].getD m 0) = decide ([i, j].getD m 0 = [k, l].getD m 0) := by
      by_cases q : [i, j].getD m 0 = [k, l].getD m 0
      · rw [decide_eq_true q]; exact beq_iff_eq.mpr q
      · rw [decide_eq_false q]; exact beq_eq_false_iff_ne.mpr q
    rw [← z]
    exact SeqAt.EqAt.int_int _ _ _ _) (fun m h1 h2 _ => by
    obtain ⟨t, et⟩ := at1 m h1
    obtain ⟨t', et'⟩ := at2 m h2
    rw [et, et']
    exact Ob.RcOp.gt_int _ _ _ _)
  rw [e1, e2] at R
  have e3 : Ob.lexAt (fun m => decide ([i, j].getD m 0 = [k, l].getD m 0)) (fun m => decide ([k, l].getD m 0 < [i, j].getD m 0)) (decide (2 > 2)) 0 (min 2 2) = decide (k < i ∨ (i = k ∧ l < j)) := by
    show (if decide (i = k) = true then (if decide (j = l) = true then decide (2 > 2) else decide (l < j)) else decide (k < i)) = _
    by_cases h1 : i = k
    · subst h1
      rw [if_pos (decide_eq_true rfl)]
      by_cases h2 : j = l
      · subst h2
        simp
      · rw [if_neg (by simpa using h2)]
        simp
    · rw [if_neg (by simpa using h1)]
      simp [h1]
  rw [e3] at R
  have z : wpAny (model X.prog X.w) X.A (compareOp .Gt (.ref a) (.ref b)) (EP X pins σ Q) X.xe s := R X.prog X.w X.xe (EP X pins σ Q) ⟨.bl _, H, I, rfl, q⟩
  exact z
theorem op_gtTK {X : Cx} {K : PySem.W.Frag} (hK : X.K = K) (hu : X.A.units < cLine) : OpR X (compareOp .Gt) (rGtT K) := hK ▸ op_gtT hu
section
variable {K : PySem.W.Frag} {H : Hp} {Q : VK} {a b : Addr}
theorem r_leL {ns ms : List Int} (h1 : SqL K H a (ns.map V.int)) (h2 : SqL K H b (ms.map V.int)) (q : Q (.bl (Lm.lexL ns ms)) H) : Cl (rLeL K (.ref a) (.ref b)) H Q := fun H1 e Q' q' => ⟨a, b, ns, ms, rfl, rfl, e.seq h1, e.seq h2, q' _ _ _ q e⟩
theorem r_gtT {i j k l : Int} (h1 : H a = some (.tup [.int i, .int j])) (h2 : H b = some (.tup [.int k, .int l])) (q : Q (.bl (decide (k < i ∨ (i = k ∧ l < j)))) H) : Cl (rGtT K (.ref a) (.ref b)) H Q := fun H1 e Q' q' => ⟨a, b, i, j, k, l, rfl, rfl, SqT.of (e _ _ h1), SqT.of (e _ _ h2), q' _ _ _ q e⟩
end
end La

/-! Thinning: which rungs are kept. -/
namespace Lm
open La
/-- the two whom r would bring together meet on the k-th rung -/
def Meets (ks : List Int) (k : Nat) (r : Int) : Prop :=
  (bwd (ks.drop (k + 1)) r = ks.getD k 0 ∧ bwd (ks.drop (k + 1)) (r + 1) = ks.getD k 0 + 1) ∨ (bwd (ks.drop (k + 1)) r = ks.getD k 0 + 1 ∧ bwd (ks.drop (k + 1)) (r + 1) = ks.getD k 0)
theorem norm_eq2 {x y z w : Int} : norm (x, y) = norm (z, w) ↔ (x = z ∧ y = w) ∨ (x = w ∧ y = z) := by
  unfold norm
  by_cases h1 : x < y <;> by_cases h2 : z < w
  · rw [if_pos h1, if_pos h2, Prod.mk.injEq]
    omega
  · rw [if_pos h1, if_neg h2, Prod.mk.injEq]
    show (x = w ∧ y = z) ↔ _
    omega
  · rw [if_neg h1, if_pos h2, Prod.mk.injEq]
    show (y = z ∧ x = w) ↔ _
    omega
  · rw [if_neg h1, if_neg h2, Prod.mk.injEq]
    show (y = w ∧ x = z) ↔ _
    omega
theorem cut3 {ks : List Int} {k : Nat} (h : k < ks.length) : ks = ks.take k ++ (ks.getD k 0 :: ks.drop (k + 1)) := by
  have e : ks.drop k = ks.getD k 0 :: ks.drop (k + 1) := by
    rw [List.drop_eq_getElem_cons h, List.getD_eq_getElem?_getD, List.getElem?_eq_getElem h]
    rfl
  rw [← e, List.take_append_drop]
theorem bwd_cut {ks : List Int} {k : Nat} (h : k < ks.length) (p : Int) : bwd ks p = bwd (ks.take k) (across (ks.getD k 0) (bwd (ks.drop (k + 1)) p)) := by
  have e := congrArg (fun l => bwd l p) (cut3 h)
  refine e.trans ?_
  show bwd (ks.take k ++ (ks.getD k 0 :: ks.drop (k + 1))) p = _
  rw [bwd_append, bwd_cons]
theorem fwd_cut {ks : List Int} {k : Nat} (h : k < ks.length) (p : Int) : fwd ks p = fwd (ks.drop (k + 1)) (across (ks.getD k 0) (fwd (ks.take k) p)) := by
  have e := congrArg (fun l => fwd l p) (cut3 h)
  refine e.trans ?_
  show fwd (ks.take k ++ (ks.getD k 0 :: ks.drop (k + 1))) p = _
  rw [fwd_append, fwd_cons]
theorem meets_iff {ks : List Int} {k : Nat} (h : k < ks.length) (r : Int) : Meets ks k r ↔ norm (bwd (ks.take k) (ks.getD k 0), bwd (ks.take k) (ks.getD k 0 + 1)) = norm (bwd ks r, bwd ks (r + 1)) := by
  rw [norm_eq2, bwd_cut h r, bwd_cut h (r + 1)]
  unfold Meets
  generalize bwd (ks.drop (k + 1)) r = a
  generalize bwd (ks.drop (k + 1)) (r + 1) = b
  generalize ks.getD k 0 = g
  have ca := across_cases g a
  have cb := across_cases g b
  constructor
  · rintro (⟨h1, h2⟩ | ⟨h1, h2⟩)
    · refine .inr ⟨?_, ?_⟩
      · congr 1
        omega
      · congr 1
        omega
    · refine .inl ⟨?_, ?_⟩
      · congr 1
        omega
      · congr 1
        omega
  · rintro (⟨h1, h2⟩ | ⟨h1, h2⟩)
    · have e1 := bwd_inj h1
      have e2 := bwd_inj h2
      omega
    · have e1 := bwd_inj h1
      have e2 := bwd_inj h2
      omega
theorem meets_cnt {ks : List Int} {k : Nat} {r : Int} (h : k < ks.length) (m : Meets ks k r) : 0 < cnt ks (norm (bwd ks r, bwd ks (r + 1))) := by
  refine List.count_pos_iff.mpr (List.mem_map.mpr ⟨(bwd (ks.take k) (ks.getD k 0), bwd (ks.take k) (ks.getD k 0 + 1)), ?_, (meets_iff h r).mp m⟩)
  have hk : ks[k]? = some (ks.getD k 0) := by
    rw [List.getD_eq_getElem?_getD, List.getElem?_eq_getElem h]
    rfl
  exact List.mem_of_getElem? (metL_get hk)
theorem cnt_meets {ks : List Int} {r : Int} (h : ∀ k, k < ks.length → ¬ Meets ks k r) : cnt ks (norm (bwd ks r, bwd ks (r + 1))) = 0 := by
  refine Nat.eq_zero_of_not_pos fun hp => ?_
  obtain ⟨p, hp1, hp2⟩ := List.mem_map.mp (List.count_pos_iff.mp hp)
  obtain ⟨k, hk, e⟩ := List.mem_iff_getElem.mp hp1
  have hk2 : k < ks.length := by rw [metL_length] at hk; exact hk
  have hkg : ks[k]? = some (ks.getD k 0) := by
    rw [List.getD_eq_getElem?_getD, List.getElem?_eq_getElem hk2]
    rfl
  have h1 := metL_get hkg
  rw [List.getElem?_eq_getElem hk, e] at h1
  injection h1 with h1
  exact h k hk2 ((meets_iff hk2 r).mpr (by rw [← h1]; exact hp2))
/-- the rung and the later one that it meets are taken out -/
theorem pop_fwd {ks : List Int} {k : Nat} {r : Int} (h : k < ks.length) (m : Meets ks k r) (p : Int) : fwd (ks.take k ++ ks.drop (k + 1)) p = fwd (ks ++ [r]) p := by
  rw [fwd_append, fwd_snoc, fwd_cut h]
  generalize fwd (ks.take k) p = x
  have f1 := fwd_bwd (ks.drop (k + 1)) r
  have f2 := fwd_bwd (ks.drop (k + 1)) (r + 1)
  unfold Meets at m
  have cx := across_cases (ks.getD k 0) x
  generalize ks.getD k 0 = g at *
  have c1 := across_cases r (fwd (ks.drop (k + 1)) (across g x))
  rcases cx with ⟨e1, e2⟩ | ⟨e1, e2⟩ | ⟨e1, e2, e3⟩
  · rw [e2] at c1 ⊢
    rcases m with ⟨m1, m2⟩ | ⟨m1, m2⟩
    · rw [m1] at f1
      rw [m2] at f2
      rw [e1]
      omega
    · rw [m1] at f1
      rw [m2] at f2
      rw [e1]
      omega
  · rw [e2] at c1 ⊢
    rcases m with ⟨m1, m2⟩ | ⟨m1, m2⟩
    · rw [m1] at f1
      rw [m2] at f2
      rw [e1]
      omega
    · rw [m1] at f1
      rw [m2] at f2
      rw [e1]
      omega
  · rw [e3] at c1 ⊢
    have n1 : fwd (ks.drop (k + 1)) x ≠ fwd (ks.drop (k + 1)) g := fun e => e1 (fwd_inj e)
    have n2 : fwd (ks.drop (k + 1)) x ≠ fwd (ks.drop (k + 1)) (g + 1) := fun e => e2 (fwd_inj e)
    rcases m with ⟨m1, m2⟩ | ⟨m1, m2⟩
    · rw [m1] at f1
      rw [m2] at f2
      omega
    · rw [m1] at f1
      rw [m2] at f2
      omega
theorem pop_red {n : Nat} {ks : List Int} {k : Nat} {r : Int} (hok : Ok (n : Int) ks) (hr : 0 ≤ r ∧ r ≤ (n : Int) - 2) (hred : Red n ks) (h : k < ks.length) (m : Meets ks k r) : Red n (ks.take k ++ ks.drop (k + 1)) := by
  have hs := inv_snoc hok hr
  have hc := meets_cnt h m
  have h1 := red_cnt hok hred (norm (bwd ks r, bwd ks (r + 1)))
  have hw := walk_par ks r
  rw [if_neg (fun z => by have := hw.mp z; omega)] at hs
  unfold Red at *
  rw [inv_congr (pop_fwd h m), List.length_append, List.length_take, List.length_drop]
  omega
theorem push_red {n : Nat} {ks : List Int} {r : Int} (hok : Ok (n : Int) ks) (hr : 0 ≤ r ∧ r ≤ (n : Int) - 2) (hred : Red n ks) (h : ∀ k, k < ks.length → ¬ Meets ks k r) : Red n (ks ++ [r]) := by
  have hs := inv_snoc hok hr
  have hc := cnt_meets h
  have hw := walk_par ks r
  rw [if_pos (hw.mpr (by omega))] at hs
  unfold Red at *
  rw [hs, List.length_append, hred]
  rfl
def pick (rs nums : List Int) : List Int := nums.map fun m => rs.getD m.toNat 0
/-- what is known when i rungs have been gone through -/
structure Kept (n : Nat) (rs : List Int) (i : Nat) (nums : List Int) : Prop where
  rise : nums.Pairwise (· < ·)
  rng : ∀ m ∈ nums, 0 ≤ m ∧ m < i
  red : Red n (pick rs nums)
  fw : ∀ p, fwd (pick rs nums) p = fwd (rs.take i) p
  all : Nice rs → nums = tab i id
theorem pick_ok {n : Nat} {rs nums : List Int} {i : Nat} (hok : Ok (n : Int) rs) (hi : i ≤ rs.length) (h : ∀ m ∈ nums, 0 ≤ m ∧ m < i) : Ok (n : Int) (pick rs nums) := fun r hr => by
  obtain ⟨m, hm, rfl⟩ := List.mem_map.mp hr
  have h1 := h m hm
  have hlt : m.toNat < rs.length := by omega
  refine hok _ ?_
  rw [List.getD_eq_getElem?_getD, List.getElem?_eq_getElem hlt]
  exact List.getElem_mem hlt
theorem kept_nil (n : Nat) (rs : List Int) : Kept n rs 0 [] := ⟨List.Pairwise.nil, fun m h => (nomatch h), inv_nil n, fun p => rfl, fun _ => rfl⟩
theorem tab_succ (n : Nat) (f : Int → Int) : tab (n + 1) f = tab n f ++ [f (n : Int)] := by
  unfold tab
  rw [List.range_succ, List.map_append]
  rfl
theorem pick_tab {rs : List Int} : ∀ {i : Nat}, i ≤ rs.length → pick rs (tab i id) = rs.take i
  | 0, _ => rfl
  | i + 1, h => by
    have hr : rs[i]? = some (rs.getD i 0) := by
      rw [List.getD_eq_getElem?_getD, List.getElem?_eq_getElem (by omega)]
      rfl
    rw [tab_succ, take_snoc hr, ← pick_tab (by omega : i ≤ rs.length)]
    unfold pick
    rw [List.map_append]
    rfl
theorem nice_no {rs : List Int} {i : Nat} (hi : i < rs.length) (hn : Nice rs) (k : Nat) (hk : k < i) : ¬ Meets (rs.take i) k (rs.getD i 0) := fun m => by
  have hr : rs[i]? = some (rs.getD i 0) := by
    rw [List.getD_eq_getElem?_getD, List.getElem?_eq_getElem hi]
    rfl
  have h1 := meets_cnt (by rw [List.length_take]; omega) m
  have h2 := (walk_par _ _).mp (hn i _ hr)
  have h3 := cnt_take_le rs i (norm (bwd (rs.take i) (rs.getD i 0), bwd (rs.take i) (rs.getD i 0 + 1)))
  have h4 := nice_cnt rs hn (norm (bwd (rs.take i) (rs.getD i 0), bwd (rs.take i) (rs.getD i 0 + 1)))
  omega
theorem kept_push {n : Nat} {rs nums : List Int} {i : Nat} (hok : Ok (n : Int) rs) (hi : i < rs.length) (h : Kept n rs i nums) (hm : ∀ k, k < nums.length → ¬ Meets (pick rs nums) k (rs.getD i 0)) : Kept n rs (i + 1) (nums ++ [(i : Int)]) := by
  have hr : rs[i]? = some (rs.getD i 0) := by
    rw [List.getD_eq_getElem?_getD, List.getElem?_eq_getElem hi]
    rfl
  have ep : pick rs (nums ++ [(i : Int)]) = pick rs nums ++ [rs.getD i 0] := by
    unfold pick
    rw [List.map_append]
    rfl
  have hko := pick_ok hok (Nat.le_of_lt hi) h.rng
  have hlp : (pick rs nums).length = nums.length := List.length_map ..
  refine ⟨?_, ?_, ?_, ?_, ?_⟩
  · refine List.pairwise_append.mpr ⟨h.rise, List.pairwise_cons.mpr ⟨fun a ha => (nomatch ha), List.Pairwise.nil⟩, ?_⟩
    intro a ha b hb
    rw [List.mem_singleton] at hb
    subst hb
    exact (h.rng a ha).2
  · intro m hm
    rcases List.mem_append.mp hm with hm | hm
    · have := h.rng m hm
      omega
    · rw [List.mem_singleton] at hm
      omega
  · rw [ep]
    exact push_red hko (hok _ (List.mem_of_getElem? hr)) h.red (by rw [hlp]; exact hm)
  · intro p
    rw [ep, take_snoc hr, fwd_snoc, fwd_snoc, h.fw]
  · intro hn
    rw [h.all hn, tab_succ]
    rfl
theorem kept_pop {n : Nat} {rs nums : List Int} {i k : Nat} (hok : Ok (n : Int) rs) (hi : i < rs.length) (h : Kept n rs i nums) (hk : k < nums.length) (m : Meets (pick rs nums) k (rs.getD i 0)) : Kept n rs (i + 1) (nums.eraseIdx k) := by
  have hr : rs[i]? = some (rs.getD i 0) := by
    rw [List.getD_eq_getElem?_getD, List.getElem?_eq_getElem hi]
    rfl
  have hlp : (pick rs nums).length = nums.length := List.length_map ..
  have ep : pick rs (nums.eraseIdx k) = (pick rs nums).take k ++ (pick rs nums).drop (k + 1) := by
    unfold pick
    rw [List.eraseIdx_eq_take_drop_succ, List.map_append, List.map_take, List.map_drop]
  have hko := pick_ok hok (Nat.le_of_lt hi) h.rng
  have hk2 : k < (pick rs nums).length := by rw [hlp]; exact hk
  refine ⟨h.rise.sublist (List.eraseIdx_sublist _ _), ?_, ?_, ?_, ?_⟩
  · intro q hq
    have := h.rng q ((List.eraseIdx_sublist _ _).subset hq)
    omega
  · rw [ep]
    exact pop_red hko (hok _ (List.mem_of_getElem? hr)) h.red hk2 m
  · intro p
    rw [ep, pop_fwd hk2 m, take_snoc hr, fwd_snoc, fwd_snoc, h.fw]
  · intro hn
    have e := h.all hn
    rw [e, pick_tab (Nat.le_of_lt hi)] at m
    rw [e, tab_length] at hk
    exact absurd m (nice_no hi hn k hk)
instance (ks : List Int) (k : Nat) (r : Int) : Decidable (Meets ks k r) := inferInstanceAs (Decidable (_ ∨ _))
theorem meets_one {n : Nat} {ks : List Int} {r : Int} (hok : Ok (n : Int) ks) (hred : Red n ks) {j k : Nat} (hj : j < ks.length) (hk : k < ks.length) (mj : Meets ks j r) (mk : Meets ks k r) : j = k := by
  have hnd : ((metL ks).map norm).Nodup := (red_perm hok hred).nodup_iff.mpr (crossX_nodup _ _)
  have at' : ∀ i, (hi : i < ks.length) → ((metL ks).map norm)[i]? = some (norm (bwd (ks.take i) (ks.getD i 0), bwd (ks.take i) (ks.getD i 0 + 1))) := fun i hi => by
    have hg : ks[i]? = some (ks.getD i 0) := by
      rw [List.getD_eq_getElem?_getD, List.getElem?_eq_getElem hi]
      rfl
    rw [List.getElem?_map, metL_get hg]
    rfl
  have e1 := at' j hj
  have e2 := at' k hk
  rw [(meets_iff hj r).mp mj] at e1
  rw [(meets_iff hk r).mp mk] at e2
  obtain ⟨l1, g1⟩ := List.getElem?_eq_some_iff.mp e1
  obtain ⟨l2, g2⟩ := List.getElem?_eq_some_iff.mp e2
  exact (List.getElem_inj hnd).mp (g1.trans g2.symm)
/-- the numbers that are kept of the first i rungs -/
def keptN (rs : List Int) : Nat → List Int
  | 0 => []
  | i + 1 => match (List.range (keptN rs i).length).find? (fun k => decide (Meets (pick rs (keptN rs i)) k (rs.getD i 0))) with
    | some k => (keptN rs i).eraseIdx k
    | none => keptN rs i ++ [(i : Int)]
theorem keptN_no {rs : List Int} {i : Nat} (h : ∀ k, k < (keptN rs i).length → ¬ Meets (pick rs (keptN rs i)) k (rs.getD i 0)) : keptN rs (i + 1) = keptN rs i ++ [(i : Int)] := by
  have e : (List.range (keptN rs i).length).find? (fun k => decide (Meets (pick rs (keptN rs i)) k (rs.getD i 0))) = none := List.find?_eq_none.mpr fun k hk => by
    rw [decide_eq_false (h k (List.mem_range.mp hk))]
    decide
  rw [keptN, e]
theorem keptN_yes {n : Nat} {rs : List Int} {i k : Nat} (hok : Ok (n : Int) rs) (hi : i < rs.length) (K : Kept n rs i (keptN rs i)) (hk : k < (keptN rs i).length) (m : Meets (pick rs (keptN rs i)) k (rs.getD i 0)) : keptN rs (i + 1) = (keptN rs i).eraseIdx k := by
  have hlp : (pick rs (keptN rs i)).length = (keptN rs i).length := List.length_map ..
  cases e : (List.range (keptN rs i).length).find? (fun k => decide (Meets (pick rs (keptN rs i)) k (rs.getD i 0))) with
  | none =>
    have := List.find?_eq_none.mp e k (List.mem_range.mpr hk)
    exact absurd (decide_eq_true m) this
  | some j =>
    have h1 := List.find?_some e
    have h2 := List.mem_range.mp (List.mem_of_find?_eq_some e)
    have : j = k := meets_one (pick_ok hok (Nat.le_of_lt hi) K.rng) K.red (by rw [hlp]; exact h2) (by rw [hlp]; exact hk) (of_decide_eq_true h1) m
    rw [keptN, e, this]
theorem kept_all {n : Nat} {rs : List Int} (hok : Ok (n : Int) rs) : ∀ i, i ≤ rs.length → Kept n rs i (keptN rs i)
  | 0, _ => kept_nil n rs
  | i + 1, hi => by
    have K := kept_all hok i (by omega)
    by_cases h : ∃ k, k < (keptN rs i).length ∧ Meets (pick rs (keptN rs i)) k (rs.getD i 0)
    · obtain ⟨k, hk, m⟩ := h
      rw [keptN_yes hok (by omega) K hk m]
      exact kept_pop hok (by omega) K hk m
    · have h' : ∀ k, k < (keptN rs i).length → ¬ Meets (pick rs (keptN rs i)) k (rs.getD i 0) := fun k hk m => h ⟨k, hk, m⟩
      rw [keptN_no h']
      exact kept_push hok (by omega) K h'
theorem bwd_of_fwd {rs ss : List Int} (h : ∀ p, fwd rs p = fwd ss p) (p : Int) : bwd rs p = bwd ss p := by
  have h1 := h (bwd ss p)
  rw [fwd_bwd] at h1
  have h2 := congrArg (bwd rs) h1
  rw [bwd_fwd] at h2
  exact h2.symm
/-- the standing ladder of the ends of a thinned one -/
theorem std_thin {n : Nat} {ks : List Int} (hok : Ok (n : Int) ks) (hr : Red n ks) : (stdN (fwd ks) n).length = ks.length ∧ lexL (stdN (fwd ks) n) ks = true := by
  have F := form_all (perm_ends hok).inj n (Nat.le_refl _)
  have he := fwd_ext F.ok hok (std_ends (perm_ends hok))
  have hred := nice_red _ F.ok F.nice
  refine ⟨?_, st_least _ _ F.st F.ok.nn (nice_desc (red_nice hok hr)) he⟩
  unfold Red at hred hr
  rw [← hred, ← hr]
  exact inv_congr he
end Lm

/-! A row stands when the heads of its runs rise. -/
namespace Lm
open La
def hdV (l : Int) : List Int → List Int
  | [] => []
  | r :: rs => if r = l - 1 then hdV r rs else r :: hdV r rs
def incB (h : Int) : List Int → Bool
  | [] => true
  | x :: xs => decide (h < x) && incB x xs
theorem stB_inc : ∀ (rs : List Int) (h l : Int), stB h l rs = incB h (hdV l rs)
  | [], _, _ => rfl
  | r :: rs, h, l => by
    rw [stB_cons, hdV]
    by_cases e : r = l - 1
    · rw [if_pos e, if_pos e, stB_inc rs]
    · rw [if_neg e, if_neg e, incB, stB_inc rs]
theorem hdV_snoc : ∀ (rs : List Int) (l r : Int), hdV l (rs ++ [r]) = hdV l rs ++ (if r = rs.getLastD l - 1 then [] else [r])
  | [], l, r => by
    show (if r = l - 1 then [] else [r]) = [] ++ (if r = l - 1 then [] else [r])
    rw [List.nil_append]
  | x :: rs, l, r => by
    rw [List.cons_append, hdV, hdV, List.getLastD_cons]
    by_cases e : x = l - 1
    · rw [if_pos e, if_pos e, hdV_snoc rs]
    · rw [if_neg e, if_neg e, hdV_snoc rs, List.cons_append]
def pH (rs : List Int) (k : Int) : Bool := decide (k = 0) || !decide (rs.getD k.toNat 0 = rs.getD (k - 1).toNat 0 - 1)
def heads (rs : List Int) : List Int := (tab rs.length id).filter (pH rs)
def hv (rs : List Int) : List Int := (heads rs).map fun k => rs.getD k.toNat 0
theorem heads_in {rs : List Int} {k : Int} (h : k ∈ heads rs) : 0 ≤ k ∧ k < rs.length := by
  obtain ⟨i, hi, e⟩ := mem_tab.mp (List.mem_filter.mp h).1
  have e' : (i : Int) = k := e
  omega
theorem last_at {X : List Int} {l : Int} (h : X ≠ []) : X.getLastD l = X.getD (X.length - 1) 0 := by
  cases X with
  | nil => exact absurd rfl h
  | cons x X =>
    rw [List.getLastD_cons, List.getD_eq_getElem?_getD]
    clear h
    induction X generalizing x with
    | nil => rfl
    | cons y X ih =>
      rw [List.getLastD_cons, ih]
      rfl
theorem tab_snoc (n : Nat) (f : Int → Int) : tab (n + 1) f = tab n f ++ [f (n : Int)] := by
  unfold tab
  rw [List.range_succ, List.map_append]
  rfl
theorem heads_snoc (rs : List Int) (r : Int) : heads (rs ++ [r]) = heads rs ++ (if pH (rs ++ [r]) (rs.length : Int) = true then [(rs.length : Int)] else []) := by
  unfold heads
  have e : (rs ++ [r]).length = rs.length + 1 := by simp
  rw [e, tab_snoc, List.filter_append]
  congr 1
  · refine List.filter_congr fun k hk => ?_
    obtain ⟨i, hi, ek⟩ := mem_tab.mp hk
    have ek' : (i : Int) = k := ek
    unfold pH
    by_cases h0 : k = 0
    · rw [decide_eq_true h0, Bool.true_or, Bool.true_or]
    · rw [getD_append_left (by omega), getD_append_left (by omega)]
  · show List.filter (pH (rs ++ [r])) [(rs.length : Int)] = _
    by_cases h : pH (rs ++ [r]) (rs.length : Int) = true
    · rw [if_pos h, List.filter_cons_of_pos h]
      rfl
    · rw [if_neg h, List.filter_cons_of_neg h]
      rfl
theorem hv_eq : ∀ (rs : List Int), NN rs → hv rs = hdV (-1) rs := by
  refine snoc_ind (fun _ => rfl) fun rs r ih hn => ?_
  have hr := hn r (List.mem_append_right _ (List.mem_singleton.mpr rfl))
  have ih' := ih fun x hx => hn x (List.mem_append_left _ hx)
  rw [hdV_snoc, ← ih']
  unfold hv
  rw [heads_snoc, List.map_append]
  congr 1
  · refine List.map_congr_left fun k hk => ?_
    have := heads_in hk
    exact getD_append_left (by omega)
  · have g : (rs ++ [r]).getD rs.length 0 = r := by
      rw [getD_append_right (Nat.le_refl _), Nat.sub_self]
      rfl
    unfold pH
    rw [Int.toNat_natCast, g]
    by_cases h0 : rs = []
    · subst h0
      show List.map _ (if (decide ((0 : Int) = 0) || _) = true then [(0 : Int)] else []) = (if r = -1 - 1 then [] else [r])
      rw [if_neg (show ¬ r = -1 - 1 by omega), decide_eq_true (rfl : (0 : Int) = 0), Bool.true_or, if_pos rfl]
      rfl
    · have hl : 0 < rs.length := by
        cases rs with
        | nil => exact absurd rfl h0
        | cons x rs => exact Nat.succ_pos _
      have e1 : ((rs.length : Int) - 1).toNat = rs.length - 1 := by omega
      rw [e1, getD_append_left (show rs.length - 1 < rs.length by omega), last_at h0, decide_eq_false (by omega), Bool.false_or]
      by_cases h : r = rs.getD (rs.length - 1) 0 - 1
      · rw [if_pos h, decide_eq_true h]
        rfl
      · rw [if_neg h, decide_eq_false h]
        show [(rs ++ [r]).getD (rs.length : Int).toNat 0] = [r]
        rw [Int.toNat_natCast, g]
theorem inc_adj : ∀ (xs : List Int) (x : Int), incB x xs = true ↔ ∀ j, j + 1 < (x :: xs).length → (x :: xs).getD j 0 < (x :: xs).getD (j + 1) 0
  | [], x => ⟨fun _ j h => by simp at h, fun _ => rfl⟩
  | y :: xs, x => by
    rw [incB, Bool.and_eq_true, decide_eq_true_eq, inc_adj xs y]
    constructor
    · rintro ⟨h1, h2⟩ j hj
      cases j with
      | zero => exact h1
      | succ j => exact h2 j (by simpa using hj)
    · intro h
      exact ⟨h 0 (by simp), fun j hj => h (j + 1) (by simpa using hj)⟩
theorem st_heads {rs : List Int} (hn : NN rs) : stB (-1) (-1) rs = true ↔ ∀ j, j + 1 < (hv rs).length → (hv rs).getD j 0 < (hv rs).getD (j + 1) 0 := by
  have hin : ∀ x ∈ hv rs, 0 ≤ x := fun x hx => by
    obtain ⟨k, hk, rfl⟩ := List.mem_map.mp hx
    have := heads_in hk
    refine hn _ ?_
    rw [List.getD_eq_getElem?_getD, List.getElem?_eq_getElem (by omega)]
    exact List.getElem_mem _
  rw [stB_inc, ← hv_eq rs hn]
  cases e : hv rs with
  | nil => exact ⟨fun _ j h => by simp at h, fun _ => rfl⟩
  | cons x xs =>
    rw [e] at hin
    have hx := hin x List.mem_cons_self
    rw [incB, decide_eq_true (by omega), Bool.true_and]
    exact inc_adj xs x
theorem hv_length (rs : List Int) : (hv rs).length = (heads rs).length := List.length_map ..
theorem hv_getD {rs : List Int} {k : Nat} (h : k < (heads rs).length) : rs.getD ((heads rs).getD k 0).toNat 0 = (hv rs).getD k 0 := by
  unfold hv
  rw [List.getD_eq_getElem?_getD (l := List.map _ _), List.getElem?_map, List.getD_eq_getElem?_getD (l := heads rs), List.getElem?_eq_getElem h]
  rfl
end Lm

/-! sorted(range(n), key=lambda i: xs[i]). -/
namespace La
open PySem PySem.Spec PySem.W PyProof.Rows
section
variable {prog : Program} {w : World} {A : Around} {s : Shared}
/-- one call of the lambda -/
theorem lam_turn {f c' a cc : Addr} {qual xT xA : Str} {params : Arguments} {scope : Scope} {cl : List (Str × Addr)} {pm ctv : Value} {p1 p2 p3 : Pos} {items : Array Value} {i g : Int} {t u : Tok}
    (hdep : A.depth < recursionLimit) (hnl : s.heap.NoLimit)
    (hf : s.heap.get? f = some (kla_obj "<lambda>" qual params (.Subscript (.Name xT p1) (.Name xA p2) p3) scope cl pm c' ctv)) (hcd : s.heap.CodeRec (.ref c') qual)
    (hco : scope.isCoroutine = false) (hgen : scope.isGenerator = false) (hk : scope.kind = .function) (hcell : ∀ x ∈ scope.names, x.2 ≠ .cell)
    (hA : scope.names.lookup xA = some .local) (hT : scope.names.lookup xT = some .free)
    (hbind : bindArgs (kla_fn "<lambda>" qual params (.Subscript (.Name xT p1) (.Name xA p2) p3) scope cl pm (.ref c') ctv) ⟨[.int i t], []⟩ = pure [(xA, .int i t)])
    (hcl : cl.lookup xT = some cc) (hcc : s.heap.IsCell cc (some (.ref a))) (hl : s.heap.IsList a items) (h0 : 0 ≤ i) (hfit : i < 2 ^ 63) (hx : items[i.toNat]? = some (.int g u))
    (d1 : (xT == ("__debug__" : Str)) = false) (d2 : (xA == ("__debug__" : Str)) = false) (d3 : (xT == ("__classdict__" : Str)) = false) :
    wpAny (model prog w) A (call (.ref f) [.int i t]) (KeyPure (.int g) s) (fun _ _ => False) s := by
  have rc : codeAny (model prog w) A (.call (.ref f) ⟨[.int i t], []⟩) (fun r s' => ∃ v, r = .ok (.ret v) ∧ KeyPure (.int g) s v s') s := by
    refine kla_callFunE hdep hf rfl hco hgen rfl hcd ?_
    rw [hbind]
    refine wpAny_pure (wpAny_newFunctionEnv hcell (fun y hy => ?_) (fun h₁ hns hsb => ⟨hnl.fresh _ hsb, ?_⟩) hk)
    · rw [List.mem_singleton.mp hy]
      exact hA
    show codeAny _ _ (.expr _ (envX qual scope s.heap.objs.size f (.ref c') cl)) _ _
    have kp : ∀ b o, s.heap.get? b = some o → h₁.get? b = some o := fun b o e => hsb.extBut b o (Nat.ne_of_lt (Heap.lt_size e)) (Heap.get?_push_of_some _ e)
    have hcc1 : h₁.IsCell cc (some (.ref a)) := by
      obtain ⟨o, ho, hd⟩ := hcc
      exact ⟨o, kp _ _ ho, hd⟩
    have hl1 : h₁.IsList a items := by
      obtain ⟨o, ho, hd⟩ := hl
      exact ⟨o, kp _ _ ho, hd⟩
    refine kla_codeExpr (Subscript_ (wpAny_Name (wpAny_loadName_free hk hT hcl hcc1 (wpAny_Name (wpAny_loadName_local (v := .int i t) hk hA hns ?_ (item_listR hl1 h0 hfit hx ⟨_, rfl, _, _, rfl, kp, .int g u⟩)) d2) d3) d1))
    show List.lookup xA [(xA, Value.int i t)] = _
    simp [List.lookup]
  refine wpAny_call (codeAny_mono rc fun r s' hq => ?_)
  obtain ⟨v, rfl, hp⟩ := hq
  exact hp
end
end La
namespace La
open PySem PySem.Spec PySem.W PySem.SeqAt PyProof.Rows
/-- the numbers below n in the order of their keys, alike ones in their turn -/
def srtK (n : Nat) (g : Int → Int) : List Int := (Lm.tab n id).mergeSort fun a b => decide (g a ≤ g b)
section
variable {prog : Program} {w : World} {A : Around} {E : Value → Shared → Prop} {s : Shared}
theorem each_range {acc : Array Value} {n : Nat} (h : ItemsOf (fun i v => ∃ t, v = Value.int ((0 : Int) + (i : Int) * 1) t) acc n) : EachIs (fun v (x : Int) => ∃ t, v = Value.int x t) acc.toList (Lm.tab n id) := by
  have gen : ∀ (m : Nat) (vs : List Value), vs.length = m → (∀ (j : Nat) v, vs[j]? = some v → ∃ t, v = Value.int (j : Int) t) → EachIs (fun v (x : Int) => ∃ t, v = Value.int x t) vs (Lm.tab m id) := by
    intro m
    induction m with
    | zero =>
      intro vs hl _
      rw [List.eq_nil_of_length_eq_zero hl]
      exact .nil
    | succ m ih =>
      intro vs hl hv
      have hne : vs ≠ [] := fun e => by rw [e] at hl; cases hl
      have hd := List.dropLast_concat_getLast hne
      have hdl : vs.dropLast.length = m := by rw [List.length_dropLast]; omega
      have h1 := ih vs.dropLast hdl fun j v hj => by
        refine hv j v ?_
        rw [← hd, List.getElem?_append_left (List.getElem?_eq_some_iff.mp hj).1]
        exact hj
      have h2 : ∃ t, vs.getLast hne = Value.int (m : Int) t := hv m _ (by
        rw [List.getLast_eq_getElem, List.getElem?_eq_getElem (by omega)]
        simp only [hl, Nat.add_sub_cancel])
      have e : Lm.tab (m + 1) id = Lm.tab m id ++ [(m : Int)] := by
        unfold Lm.tab
        rw [List.range_succ, List.map_append]
        rfl
      rw [e, ← hd]
      exact each_snoc h2 h1
  refine gen n acc.toList (by rw [Array.length_toList]; exact h.1) fun j v hj => ?_
  obtain ⟨t, e⟩ := h.2 j v (by rw [← Array.getElem?_toList]; exact hj)
  exact ⟨t, by rw [e, Int.zero_add, Int.mul_one]⟩
theorem sorted_key_range {r f : Addr} {n : Nat} {t u v : Tok} {g : Int → Int} {Q : Value → Shared → Prop} (hh : A.handled = none) (hr : IsRange s.heap r 0 n 1 t u v) (hn : n ≤ 1000000) (hu : A.units + 64 < cLine) {fo : Obj} (hfo : s.heap.get? f = some fo) (hs0 : s.heap.objs.size = f + 1)
    (turn : ∀ (i : Int) (tk0 : Tok), 0 ≤ i → i < n → ∀ (h : Heap) (tk : Nat), (∀ b o, s.heap.get? b = some o → h.get? b = some o) →
      wpAny (model prog w) A.in1.in1 (call (.ref f) [.int i tk0]) (KeyPure (.int (g i)) { s with heap := h, toks := tk }) (fun _ _ => False) { s with heap := h, toks := tk })
    (h : ∀ out p c h' tk, (∀ b o, s.heap.get? b = some o → h'.get? b = some o) → s.heap.objs.size ≤ p → h'.get? p = some (seqObj "list" (List.toArray out) c) → EachIs (fun v (x : Int) => ∃ t, v = Value.int x t) out (srtK n g) → Q (.ref p) { s with heap := h', toks := tk }) :
    wpAny (model prog w) A (call (.builtin "sorted") [.ref r] [(Str.ofString "key", .ref f)]) Q E s := by
  have hz := sizeLine_eq
  refine call_function_entry_kw kind_sorted plain_sorted entry_sorted (ksk_s1 _ _) ?_
  unfold Builtin.«sorted»
  refine wpAny_bind (m := checkCount "sorted" 1 1 _) (wpAny_pure ?_)
  refine wpAny_bind (L2.collect_range (n := n) hh hr ?_ ?_ (by omega) fun h1 tk1 acc hk1 hi => ?_)
  · exact small_one (by omega) (by omega) (by omega) (by omega)
  · rw [rangeSize_nat]
    omega
  have hal : acc.toList.length = n := by rw [Array.length_toList]; exact hi.1
  have ea := each_range hi
  refine wpAny_bind (wpAny_newList ?_ (by omega))
  have hnew : (h1.push (seqObj "list" acc.toList.toArray 0)).get? h1.objs.size = some (seqObj "list" acc.toList.toArray 0) := Heap.get?_push_size _ rfl
  have hsz : s.heap.objs.size ≤ h1.objs.size := by
    rw [hs0]
    exact Nat.succ_le_of_lt (Heap.lt_size (hk1 f fo hfo))
  have kp1 : ∀ b o, s.heap.get? b = some o → b ≠ h1.objs.size ∧ (h1.push (seqObj "list" acc.toList.toArray 0)).get? b = some o := fun b o q =>
    ⟨Nat.ne_of_lt (Nat.lt_of_lt_of_le (Heap.lt_size q) hsz), Heap.get?_push_of_some _ (hk1 b o q)⟩
  refine wpAny_bind (wpAny_holding (wpAny_call_entry_kw slot_list_sort ⟨_, hnew, rfl⟩ entry_list_sort ?body (ksk_l1 _ _)))
  case body =>
    show wpAny (model prog w) A.in1.in1 (Builtin.«list.sort» ⟨[.ref h1.objs.size], [(Str.ofString "key", .ref f)]⟩) _ _ _
    rw [ksk_t1]
    refine keyH_tree (kz := (Lm.tab n id).map fun x => PyData.int (g x)) (s := { s with heap := h1.push (seqObj "list" acc.toList.toArray 0), toks := tk1 }) hnew (by rw [List.length_map]; exact ea.length.symm) (by omega) (AllAlike.of fun _ _ => by simp [alike]) (Sortable.others fun _ => ⟨by simp, fun _ => by simp⟩) ?_
      (keyH_turns (s := { s with heap := h1.push (seqObj "list" acc.toList.toArray 0), toks := tk1 }) ea fun v x hR hx h tk kp => ?_) fun h' tk out c kp hD ko => ?_
    · intro d hd
      obtain ⟨x, _, rfl⟩ := List.mem_map.mp hd
      show A.units + 2 + (PyData.int (g x)).depth < cLine
      simp only [PyData.depth]
      omega
    · obtain ⟨tk0, rfl⟩ := hR
      obtain ⟨i, hi1, hi2⟩ := Lm.mem_tab.mp hx
      have hi2' : (i : Int) = x := hi2
      exact turn x tk0 (by omega) (by omega) h tk fun b o q => kp b o (kp1 b o q).1 (kp1 b o q).2
    · refine ⟨_, rfl, wpAny_pure ⟨_, rfl, h out h1.objs.size c h' tk (fun b o q => kp b o (kp1 b o q).1 (kp1 b o q).2) hsz hD ?_⟩⟩
      have e := keyedOut_each (fun x : Int => PyData.int (g x)) ko ea
      rw [dataLe_int (β := Int) g] at e
      exact e
end
end La
namespace La
open PySem PySem.Spec PySem.W PySem.SeqAt PyProof.Rows L2 LamX
section
variable {X : Cx} {pins : List (Addr × Obj)} {σ : L2.St} {H : Hp} {s : Shared}
/-- the lambda is made where no code object was made before -/
theorem lam_make0 {c P : Addr} {params : Arguments} {body : Expr} {scope : Scope} {pos : Pos} {E : Value → Shared → Prop} {Q : Value → Shared → Prop} (I : Inv X pins σ H s) (TB : TabB X.base X.mg c P) (hcode : X.env.code = .ref c)
    (hP : H P = some (.tbl #[])) (hdef : defaultsOf params X.env = ([], [])) (hfree : ∀ y ∈ scope.names, y.2 = .free → ∃ c, X.env.cells.lookup y.1 = some c)
    (h : ∀ (f c' : Addr) (pm ctv : Value) (ps : Array Value) (s' : Shared), Inv X pins σ (upd (upd H P (.tbl ps)) c' (CodeO c' (X.env.qual ++ "<lambda>"))) s' → H c' = none →
      s'.heap.get? f = some (kla_obj "<lambda>" (X.env.qual ++ "<lambda>") params body scope (cloFrom X.env.cells scope.names []) pm c' ctv) → s'.heap.objs.size = f + 1 → s'.heap.CodeRec (.ref c') (X.env.qual ++ "<lambda>") → Q (.ref f) s') :
    wpAny (model X.prog X.w) X.A (eval (.Lambda params body scope pos) X.env) Q E s := by
  refine PySem.W.kla_eval hdef ?_
  have bP : s.heap.BuiltinsAt X.mg P := TB.bm.keeps I.bk
  have hP' : s.heap.get? P = some { cls := .none, data := .fields #[] } := I.hok P _ hP
  refine PySem.W.kla_makeFunction (mg := X.mg) (c := c) (P := P) (ps := #[]) (closure_ok hfree) I.ok.glob (I.mod.glob.keeps I.bk) hcode (TB.code.keeps I.bk) hP' True.intro (by simp [codeAmong]) TB.gP bP fun c' ctv h' tk hx hge hlt hrec htb => ?_
  obtain ⟨c2, oc, vs, t, e2, hoc, hd, hv⟩ := hrec
  cases e2
  have nC : H c' = none := I.hok.fresh hge
  have I1 := inv_table (t' := tk) (more := #[rawInt pos.line, rawInt pos.col, .ref c']) (h' := h'.push (kla_obj "<lambda>" (X.env.qual ++ "<lambda>") params body scope (cloFrom X.env.cells scope.names []) ((X.mg "__name__").getD .none) c' ctv)) I hP
    (fun b o hb e => Heap.get?_push_of_some _ (hx b o hb e)) (Heap.get?_push_of_some _ htb) hge ⟨oc, vs, t, Heap.get?_push_of_some _ hoc, hd, hv⟩
  exact h h'.objs.size c' ((X.mg "__name__").getD .none) ctv _ _ I1 nC (Heap.get?_push_size _ rfl) (by rw [Heap.size_push]) ⟨c', oc, vs, t, rfl, Heap.get?_push_of_some _ hoc, hd, hv⟩
end
/-- sorted(.., key=lambda i: xs[i]), .. a range from 0 as long as xs, which stands in slot j -/
def tSortLam (K : PySem.W.Frag) (P : Addr) (q : Str) (j : Nat) (te : TE) : TE := fun σ H Q => te σ H fun x H1 => ∃ (r a : Addr) (ns : List Int), x = .ref r ∧ H1 r = some (.rng 0 (ns.length : Int)) ∧ σ[j]? = some (some (.ref a)) ∧ SqL K H1 a (ns.map V.int) ∧ ns.length ≤ 1000000 ∧ H1 P = some (.tbl #[]) ∧
  ∀ (p c' : Addr) (ps : Array Value), H1 c' = none → upd (upd H1 P (.tbl ps)) c' (CodeO c' q) p = none → Q (.ref p) (upd (upd (upd H1 P (.tbl ps)) c' (CodeO c' q)) p (.lst ((srtK ns.length fun i => ns.getD i.toNat 0).map V.int)))
theorem each_ints {out : List Value} {xs : List Int} (h : EachIs (fun v (x : Int) => ∃ t, v = Value.int x t) out xs) : Vals (xs.map V.int) out := by
  induction h with
  | nil => exact .nil
  | cons h1 _ ih => exact .cons h1 ih
theorem srtK_length (n : Nat) (g : Int → Int) : (srtK n g).length = n := by
  unfold srtK
  rw [List.length_mergeSort, Lm.tab_length]
theorem sql_tbl {K : PySem.W.Frag} {H : Hp} {a P c' : Addr} {xs : List V} {ps ps' : Array Value} {o : HO} (h : SqL K H a xs) (hP : H P = some (.tbl ps)) (hc : H c' = none) : SqL K (upd (upd H P (.tbl ps')) c' o) a xs := by
  rcases h with (h | ⟨u, h⟩) | h
  · exact .inl (.inl (by rw [upd_ne (ne_of_none h hc), upd_ne (ne_of h hP (by intro z; cases z))]; exact h))
  · exact .inl (.inr ⟨u, by rw [upd_ne (ne_of_none h hc), upd_ne (ne_of h hP (by intro z; cases z))]; exact h⟩)
  · exact .inr h
def SortW (K : PySem.W.Frag) (P : Addr) (q : Str) (j : Nat) (σ : L2.St) (Q : VK) (x : V) (H1 : Hp) : Prop := ∃ (r a : Addr) (ns : List Int), x = .ref r ∧ H1 r = some (.rng 0 (ns.length : Int)) ∧ σ[j]? = some (some (.ref a)) ∧ SqL K H1 a (ns.map V.int) ∧ ns.length ≤ 1000000 ∧ H1 P = some (.tbl #[]) ∧
  ∀ (p c' : Addr) (ps : Array Value), H1 c' = none → upd (upd H1 P (.tbl ps)) c' (CodeO c' q) p = none → Q (.ref p) (upd (upd (upd H1 P (.tbl ps)) c' (CodeO c' q)) p (.lst ((srtK ns.length fun i => ns.getD i.toNat 0).map V.int)))
section
variable {X : Cx} {c P : Addr} {e : Expr} {te : TE} {params : Arguments} {scope : Scope} {xS xT xA : Str} {j : Nat} {p0 p1 p2 p3 lpos kpos pos : Pos}
theorem pe_sortLam (ha : PE X e te) (hg : Gl X "sorted") (hm : X.mg "sorted" = none) (hu : X.A.units + 64 < cLine) (TB : TabB X.base X.mg c P) (hcode : X.env.code = .ref c) (hdef : defaultsOf params X.env = ([], [])) (hc : X.calm = true) (hdep : X.A.in1.in1.depth < recursionLimit)
    (hbind : ∀ (pm ctv : Value) (c' : Addr) (v : Value), bindArgs (kla_fn "<lambda>" (X.env.qual ++ "<lambda>") params (.Subscript (.Name xT p1) (.Name xA p2) p3) scope (cloFrom X.env.cells scope.names []) pm (.ref c') ctv) ⟨[v], []⟩ = pure [(xA, v)])
    (hco : scope.isCoroutine = false) (hgen : scope.isGenerator = false) (hk : scope.kind = .function) (hsc : scope.names = [(xA, .local), (xT, .free)] ∨ scope.names = [(xT, .free), (xA, .local)]) (hne : (xA == xT) = false) (hne2 : (xT == xA) = false)
    (hN : X.N[j]? = some xT) (hcell : X.env.scope.names.lookup xT = some .cell)
    (d1 : (xT == ("__debug__" : Str)) = false) (d2 : (xA == ("__debug__" : Str)) = false) (d3 : (xT == ("__classdict__" : Str)) = false)
    (hst : starEach [e] X.env = [(false, eval e X.env)] := by rfl) :
    PE X (.Call (.Name "sorted" p0) [e] [⟨some "key", .Lambda params (.Subscript (.Name xT p1) (.Name xA p2) p3) scope lpos, kpos⟩] pos) (tSortLam X.K P (X.env.qual ++ "<lambda>") j te) := by
  have hfreeN : ∀ y ∈ scope.names, y.2 = .free → y.1 = xT := fun y hy e => by
    rcases hsc with h | h <;> rw [h] at hy <;> simp only [List.mem_cons, List.not_mem_nil, or_false] at hy <;> rcases hy with rfl | rfl <;> first | rfl | cases e
  have hlA : scope.names.lookup xA = some .local := by
    rcases hsc with h | h <;> rw [h] <;> simp [List.lookup, hne]
  have hlT : scope.names.lookup xT = some .free := by
    rcases hsc with h | h <;> rw [h] <;> simp [List.lookup, hne2]
  have hmT : (xT, NameKind.free) ∈ scope.names := PySem.mem_of_lookup hlT
  have hcl0 : ∀ x ∈ scope.names, x.2 ≠ .cell := fun y hy e => by
    rcases hsc with h | h <;> rw [h] at hy <;> simp only [List.mem_cons, List.not_mem_nil, or_false] at hy <;> rcases hy with rfl | rfl <;> cases e
  refine ⟨fun pins s σ H Q I h => ?_⟩
  obtain ⟨ccT, hccT⟩ := I.ok.has xT (.inl hcell)
  have hfree : ∀ y ∈ scope.names, y.2 = .free → ∃ c, X.env.cells.lookup y.1 = some c := fun y hy e => ⟨ccT, by rw [hfreeN y hy e]; exact hccT⟩
  have hv : bootBuiltins "sorted" = some (.builtin "sorted") := by decide +kernel
  refine wpAny_Call_Name_kw (ld_blt I hg hm hv ?_ (by decide) (by decide))
  have ha' : PA X [e] (tCons te tNil) := pa_cons ha pa_nil (by rw [hst]; rfl)
  refine PyProof.Rows.callWith_kw (thn (ha'.run pos pins s σ H (fun vs H1 => match vs with | [x] => SortW X.K P (X.env.qual ++ "<lambda>") j σ Q x H1 | _ => False) I h) fun us s1 ⟨vs, H1, I1, r1, q1⟩ => ?_) (by simp only [hst]; rfl) (by simp only [hst]; rfl) (by rfl) (by rfl)
  obtain ⟨x, rfl⟩ : ∃ x, vs = [x] := by
    match vs, q1 with
    | [x], _ => exact ⟨x, rfl⟩
  obtain ⟨u, rfl, ru⟩ := vals1 r1
  obtain ⟨r, a, ns, rfl, hr, hσ, hS, hz, hP, q⟩ := q1
  obtain rfl : u = Value.ref r := ru
  show wpAny _ _ (evalAll ((do let v ← eval (.Lambda params (.Subscript (.Name xT p1) (.Name xA p2) p3) scope lpos) X.env; standAt pos; pure v) :: [])) _ _ s1
  refine wpAny_evalAll_cons (wpAny_bind (lam_make0 I1 TB hcode hP hdef hfree fun f c' pm ctv ps s2 I2 nC hf hs0 hcd => wpAny_bind (wpAny_standAt (wpAny_pure (wpAny_evalAll_nil ?_)))))
  show wpAny _ _ (call (.builtin "sorted") [.ref r] [(Str.ofString "key", .ref f)]) _ _ s2
  have hrP : r ≠ P := ne_of hr hP (by intro z; cases z)
  have hr2 : upd (upd H1 P (.tbl ps)) c' (CodeO c' (X.env.qual ++ "<lambda>")) r = some (.rng 0 (ns.length : Int)) := by rw [upd_ne (ne_of_none hr nC), upd_ne hrP]; exact hr
  have hS2 : SqL X.K (upd (upd H1 P (.tbl ps)) c' (CodeO c' (X.env.qual ++ "<lambda>"))) a (ns.map V.int) := sql_tbl hS hP nC
  have q2 := fun p => q p c' ps nC
  clear q
  generalize upd (upd H1 P (.tbl ps)) c' (CodeO c' (X.env.qual ++ "<lambda>")) = H2 at *
  obtain ⟨tr, ur, vr, er⟩ := I2.hok r _ hr2
  obtain ⟨its, rv, pl, hzz⟩ := I2.list hS2
  obtain ⟨m, hn, hl⟩ := I2.loc
  obtain ⟨w', rw', lk⟩ := hl j xT _ hN hσ (.inr (.inl hcell))
  obtain rfl : w' = Value.ref a := rw'
  have hcc : ∃ cc, X.env.cells.lookup xT = some cc ∧ s2.heap.IsCell cc (some (.ref a)) := by
    rcases lk with ⟨k, _⟩ | ⟨_, c3, e3, z⟩
    · rw [show X.env.kindOf xT = some .cell from hcell] at k
      cases k
    · exact ⟨c3, e3, z⟩
  obtain ⟨cc, hc1, hc2⟩ := hcc
  have hclo := NdefX.clo_has hfree hmT hc1
  refine sorted_key_range (n := ns.length) (g := fun i => ns.getD i.toNat 0) (I2.ok.hd hc) er hz hu hf hs0 (fun i tk0 h0 h1 hp tk kp => ?_) (fun out p cx h' tk kp hsz hD he => ?_)
  · obtain ⟨v, hv1, hv2⟩ := rv.get (i := i.toNat) (x := V.int (ns.getD i.toNat 0)) (by
      rw [List.getElem?_map, List.getD_eq_getElem?_getD, List.getElem?_eq_getElem (by omega)]
      rfl)
    obtain ⟨tv, rfl⟩ := hv2
    have I3 : L2.Inv X pins σ H2 { s2 with heap := hp, toks := tk } := I2.kept kp
    obtain ⟨cq, oc, vsq, tq, q1', q2', q3', q4'⟩ := hcd
    obtain ⟨oc2, ho2, hd2⟩ := hc2
    obtain ⟨ol, hol, hdl⟩ := pl.isList
    exact lam_turn (s := { s2 with heap := hp, toks := tk }) (items := its.toArray) hdep I3.nolimit (kp _ _ hf) ⟨cq, oc, vsq, tq, q1', kp _ _ q2', q3', q4'⟩ hco hgen hk hcl0 hlA hlT (hbind _ _ _ _) hclo ⟨oc2, kp _ _ ho2, hd2⟩ ⟨ol, kp _ _ hol, hdl⟩ h0 (by omega) (by simpa using hv1) d1 d2 d3
  · have hnew : H2 p = none := I2.hok.fresh hsz
    refine ⟨.ref p, upd H2 p (.lst ((srtK ns.length fun i => ns.getD i.toNat 0).map V.int)), I2.laid (t' := tk) kp hsz ⟨by rw [List.length_map, srtK_length, sizeLine_eq]; omega, out, cx, each_ints he, hD⟩, rfl, q2 p hnew⟩
end
end La

/-! A def with a lambda: its code object, its table; the end of such a law. -/
namespace La
open PySem PySem.Spec PySem.W PyProof.Rows L2 LamX
def rRg1 : List V → Hp → VK → Prop := fun vs H Q => ∃ i, vs = [V.int i] ∧ ∀ p, H p = none → Q (.ref p) (upd H p (.rng 0 i))
theorem cr_range1 {X : Cx} : CallR X (.type "range") rRg1 := by
  intro pins s σ H vs us Q I r h
  obtain ⟨i, rfl, q⟩ := h
  obtain ⟨u1, rfl, ri⟩ := vals1 r
  obtain ⟨t, rfl⟩ := ri
  refine call_range_1 ⟨.ref s.heap.objs.size, upd H s.heap.objs.size (.rng 0 i), I.laid (t' := s.toks + 1 + 1) (fun b o e => Heap.get?_push_of_some _ e) (Nat.le_refl _) ?_, rfl, q _ (I.hok.fresh (Nat.le_refl _))⟩
  exact ⟨_, _, _, Heap.get?_push_size _ rfl⟩
theorem b_rg1 {H : Hp} {Q : VK} {i : Int} (q : ∀ p, Free H p → Q (.ref p) (upd H p (.rng 0 i))) : Cl (rRg1 [.int i]) H Q := fun H1 e Q' q' => ⟨i, rfl, fun p hp => q' _ _ _ (q p (e.free hp)) (sameUpd e)⟩
/-- H' is H but at P -/
def But (P : Addr) (H H' : Hp) : Prop := ∀ b o, b ≠ P → H b = some o → H' b = some o
/-- what is wished where range(n), given to sorted with the lambda's key, is x -/
def SortB (K : PySem.W.Frag) (P : Addr) (j : Nat) (σ : L2.St) (Q : VK) (x : V) (H1 : Hp) : Prop := ∃ (r a : Addr) (ns : List Int), x = .ref r ∧ H1 r = some (.rng 0 (ns.length : Int)) ∧ σ[j]? = some (some (.ref a)) ∧ SqL K H1 a (ns.map V.int) ∧ ns.length ≤ 1000000 ∧ H1 P = some (.tbl #[]) ∧
  ∀ p Hn, Free H1 p → But P H1 Hn → Hn p = some (.lst ((srtK ns.length fun i => ns.getD i.toNat 0).map V.int)) → Q (.ref p) Hn
theorem c_sortLam {K : PySem.W.Frag} {P : Addr} {q : Str} {j : Nat} {te : TE} {σ : L2.St} {H : Hp} {Q : VK} (h : Cl (te σ) H fun x H1 => SortB K P j σ Q x H1) : Cl (tSortLam K P q j te σ) H Q := fun H1 e Q' q' =>
  h H1 e _ fun x Hb H2 ⟨r, a, ns, ex, hr, hσ, hS, hz, hP, hq⟩ e2 => by
    refine ⟨r, a, ns, ex, e2 _ _ hr, hσ, e2.seq hS, hz, e2 _ _ hP, fun p c' ps hc hp => ?_⟩
    have hp2 := NdefX.upd_none hp
    have n0 : c' ≠ P := fun z => by
      rw [z, e2 _ _ hP] at hc
      cases hc
    have hpP : H2 p = none := NdefX.upd_none hp2
    refine q' (.ref p) _ _ (hq p (upd (upd (upd Hb P (.tbl ps)) c' (CodeO c' q)) p (.lst ((srtK ns.length fun i => ns.getD i.toNat 0).map V.int))) (e2.free hpP) (fun b o nb hb => ?_) upd_same) (sameUpd (sameUpd (sameUpd e2)))
    rw [upd_ne (ne_of_none (e2 _ _ hb) hpP), upd_ne (ne_of_none (e2 _ _ hb) hc), upd_ne nb]
    exact hb
section
variable {Pg : Program} {w : World} {K : PySem.W.Frag} {mg : Str → Option Value} {base : Heap}
/-- okX_of for a def whose code object is known -/
theorem okXc_of {x qual : Str} {st : Stmt} {f c : Addr} {fd : FuncData} {N ps : List Str} {k : Nat} {P : PK'} (F : Fun K x qual st f fd) (hc : fd.code = .ref c) (Sc : FnScope N ps (defScope st)) (len : ∀ vs H Q E, P vs H Q E → vs.length = ps.length)
    (body : ∀ (A : Around) (outer : List Env) (s : Shared) (H' : Hp) (E' : XK) (vs : List V) (H : Hp) (Q : VK) (E : XK), Room k (A.deeper (envOfC qual (defScope st) s.heap.objs.size f (.ref c))) → LeX E E' → P vs H Q E →
      ∃ t, PSs (cxOf (L2.CX Pg w) Pg w K mg base N qual (defScope st) f (.ref c) A outer s H' E') (defBody st) t ∧ S t (fun _ H => UpV Q .non H) (UpV Q) (fun _ _ => False) (fun _ _ => False) (start N vs) H) : FnOk Pg w K mg base (L2.CX Pg w) (k + 1) f fd ps (spc P) := by
  obtain ⟨oc, od, kV, doc, pm, an, cdv, ct, osl, rfl, lk, hcd⟩ := F.ex
  obtain rfl : cdv = .ref c := hc
  refine fn_of lk hcd Sc (fun vs H Q E ⟨_, _, _, _, _, _, hp⟩ => len _ _ _ _ hp) fun A outer s H' vs Q' E' hr ⟨Hb, Q, E, e, q, x, hp⟩ => ?_
  obtain ⟨t, ht, hs⟩ := body A outer s H' E' vs Hb Q E hr x hp
  exact ⟨t, ht, hs H' e _ (fun _ _ _ ⟨_, e1, z⟩ e2 => q _ _ _ z (e1.trans e2)) (fun _ _ _ ⟨_, e1, z⟩ e2 => q _ _ _ z (e1.trans e2)) (fun _ _ _ z _ => z.elim) (fun _ _ _ z _ => z.elim)⟩
end
/-- the end of a law that reaches one def with a lambda, named xP -/
theorem walk_tab {l : PySem.W.OpenLaw} {n k : Nat} {q : Program} {loose : List Str} {XP : (Str → Option Value) → Heap → Prop} {YP : World → Heap → Prop} {d dP : DefRec} {K : Params → PySem.W.Frag} {CX : World → CXT} {x xP : Str} {SP : PySem.W.Frag → Addr → Sp}
    (hn : l.most = some n) (hn2 : n ≤ sizeLine) (hdf : d.params.defaults = []) (hr : Room k callerA) (hrec : (recsOf q).find? (fun e => e.name == xP) = some dP) (hY : ∀ (w : World) (h : Heap), YP w h → (K w.params).In h)
    (F : ∀ (w : World) (mg : Str → Option Value) (fa : Addr) (h : Heap), (K w.params).In h → h.Ns mainGlobals mg → mg d.name = some (.ref fa) →
      ∃ (fd : FuncData) (c P : Addr), PySem.W.tabIn (K w.params) xP = some (c, P) ∧ (K w.params).lookup P = none ∧ (∀ (s : Shared) (u : Value), BindsTo s fd ⟨[u], []⟩ [(x, u)]) ∧
        ∀ base : Heap, (K w.params).In base → base.Ns mainGlobals mg → TabB base mg c P → FnOk l.prog w (K w.params) mg base (CX w) k fa fd [x] (SP (K w.params) P))
    (hsp : ∀ (K : PySem.W.Frag) (P : Addr) (H : Hp) (a : Addr) (ns : List Int), ns.length ≤ n → H P = some (.tbl #[]) → SqL K H a (ns.map V.int) → SP K P [.ref a] H (fun v _ => v = .bl true) fun _ _ _ => False)
    (hCX : ∀ (w : World) (H : Hp) (s : Shared) (e : Value) (s' : Shared), CX w [] H s (fun _ _ _ => False) e s' → False) :
    PySem.W.WalkO q loose XP YP l.row.toRowW d [] (fun f vs => PySem.call f vs) := by
  refine Att.attach_callB hn hdf fun w s₀ s₁ mg mb fa o pm cd doc a vs ns G Y ho hd hcd hmg hobj hints hlen hbits hg => ?_
  have KX := hY w _ Y
  obtain ⟨fd, c, P, ht, nP, hb, hF⟩ := F w mg fa _ KX G.T.g hmg
  obtain ⟨h1, h2⟩ := PySem.W.tab_of G.T KX hrec ht
  refine law_callTs (cs := [(c, P)]) KX G.T.g G.T.b G.T.builtins G.T.nolimit hg (fun p hp => ?_) (fun p hp => ?_) (fun p hp => ?_) G.T.bmain hobj hints (Nat.le_trans hlen hn2) hr (fun base hK hN hT => hF base hK hN (hT _ List.mem_cons_self)) hb (fun H hH hS => hsp _ P H a ns hlen (hH _ List.mem_cons_self) hS) fun H e s' => hCX w H s₁ e s'
  · rw [List.mem_singleton.mp hp]
    exact h2
  · rw [List.mem_singleton.mp hp]
    exact nP
  · rw [List.mem_singleton.mp hp]
    exact h1
end La

/-! Who is let out when: the places of numbers. -/
namespace Lm
theorem two_ways {α : Type} {x y : α} (hne : x ≠ y) : ∀ {T : List α}, T.Nodup → [x, y].Sublist T → [y, x].Sublist T → False
  | [], _, h, _ => by cases h
  | t :: ts, nd, h1, h2 => by
    have nd' := List.nodup_cons.mp nd
    rcases h1 with _ | h1 | h1
    · rename_i h1
      rcases h2 with _ | h2 | h2
      · rename_i h2
        exact two_ways hne nd'.2 h1 h2
      · rename_i h2
        exact nd'.1 (h1.subset (by simp))
    · rename_i h1
      rcases h2 with _ | h2 | h2
      · rename_i h2
        exact nd'.1 (h2.subset (by simp))
      · exact hne rfl
/-- the place of x in T -/
def posI (T : List Int) (x : Int) : Int := (T.findIdx (fun y => decide (y = x)) : Int)
theorem posI_at {T : List Int} (nd : T.Nodup) {k : Nat} (hk : k < T.length) : posI T (T.getD k 0) = (k : Int) := by
  unfold posI
  have e : T.getD k 0 = T[k] := by rw [List.getD_eq_getElem?_getD, List.getElem?_eq_getElem hk]; rfl
  have h2 := (List.findIdx_eq (p := fun y => decide (y = T[k])) hk).mpr ⟨decide_eq_true rfl, fun j hj => decide_eq_false fun z => by
    have := (List.getElem_inj nd).mp z
    omega⟩
  rw [e, h2]
theorem posI_in {T : List Int} {x : Int} (h : x ∈ T) : 0 ≤ posI T x ∧ posI T x < T.length ∧ T.getD (posI T x).toNat 0 = x := by
  have hl : T.findIdx (fun y => decide (y = x)) < T.length := List.findIdx_lt_length_of_exists ⟨x, h, decide_eq_true rfl⟩
  have hg := of_decide_eq_true (List.findIdx_getElem (w := hl))
  unfold posI
  refine ⟨by omega, by omega, ?_⟩
  rw [Int.toNat_natCast, List.getD_eq_getElem?_getD, List.getElem?_eq_getElem hl]
  exact hg
end Lm
namespace La
open Lm
def keyOf (ns : List Int) : Int → Int := fun i => ns.getD i.toNat 0
def turnsL (ns : List Int) : List Int := srtK ns.length (keyOf ns)
def placesL (ns : List Int) : List Int := tab ns.length (posI (turnsL ns))
theorem turns_perm (ns : List Int) : (turnsL ns).Perm (tab ns.length id) := List.mergeSort_perm _ _
theorem turns_length (ns : List Int) : (turnsL ns).length = ns.length := by rw [(turns_perm ns).length_eq, tab_length]
theorem turns_nodup (ns : List Int) : (turnsL ns).Nodup := (turns_perm ns).nodup_iff.mpr (tab_nodup fun i j _ _ e => by have e' : (i : Int) = (j : Int) := e; omega)
theorem turns_mem {ns : List Int} {x : Int} : x ∈ turnsL ns ↔ 0 ≤ x ∧ x < ns.length := by
  rw [(turns_perm ns).mem_iff, mem_tab]
  constructor
  · rintro ⟨i, hi, rfl⟩
    show 0 ≤ (i : Int) ∧ (i : Int) < _
    omega
  · rintro ⟨h0, h1⟩
    exact ⟨x.toNat, by omega, by show ((x.toNat : Nat) : Int) = x; omega⟩
theorem turns_in (ns : List Int) {k : Nat} (hk : k < ns.length) : 0 ≤ (turnsL ns).getD k 0 ∧ (turnsL ns).getD k 0 < ns.length := by
  refine turns_mem.mp ?_
  rw [List.getD_eq_getElem?_getD, List.getElem?_eq_getElem (by rw [turns_length]; exact hk)]
  exact List.getElem_mem _
theorem places_length (ns : List Int) : (placesL ns).length = ns.length := tab_length _ _
theorem le_trans_key (g : Int → Int) (a b c : Int) (h1 : decide (g a ≤ g b) = true) (h2 : decide (g b ≤ g c) = true) : decide (g a ≤ g c) = true := decide_eq_true (Int.le_trans (of_decide_eq_true h1) (of_decide_eq_true h2))
theorem le_tot_key (g : Int → Int) (a b : Int) : (decide (g a ≤ g b) || decide (g b ≤ g a)) = true := by
  rw [Bool.or_eq_true, decide_eq_true_eq, decide_eq_true_eq]
  exact Int.le_total _ _
theorem turns_le (ns : List Int) : (turnsL ns).Pairwise fun a b => keyOf ns a ≤ keyOf ns b := (List.pairwise_mergeSort (le := fun a b => decide (keyOf ns a ≤ keyOf ns b)) (le_trans_key _) (le_tot_key _) _).imp fun h => of_decide_eq_true h
/-- alike ones in their turn -/
theorem turns_lex (ns : List Int) : (turnsL ns).Pairwise fun a b => keyOf ns a < keyOf ns b ∨ (keyOf ns a = keyOf ns b ∧ a < b) := by
  have hle : ∀ {a b : Int}, [a, b].Sublist (turnsL ns) → keyOf ns a ≤ keyOf ns b := List.pairwise_iff_forall_sublist.mp (turns_le ns)
  refine List.pairwise_iff_forall_sublist.mpr fun {a b} hs => ?_
  have h1 := hle hs
  by_cases h2 : keyOf ns a < keyOf ns b
  · exact .inl h2
  refine .inr ⟨by omega, ?_⟩
  have ma : a ∈ turnsL ns := hs.subset (by simp)
  have mb : b ∈ turnsL ns := hs.subset (by simp)
  have hne : a ≠ b := fun e => by
    subst e
    have := List.Nodup.sublist hs (turns_nodup ns)
    simp at this
  by_cases h3 : a < b
  · exact h3
  have hba : [b, a].Sublist (tab ns.length id) := by
    have i1 := turns_mem.mp ma
    have i2 := turns_mem.mp mb
    have e : tab ns.length id = (tab ns.length id).take a.toNat ++ (tab ns.length id).drop a.toNat := (List.take_append_drop _ _).symm
    rw [e]
    have z1 : [b].Sublist ((tab ns.length id).take a.toNat) := by
      refine List.singleton_sublist.mpr ?_
      rw [List.mem_take_iff_getElem]
      exact ⟨b.toNat, by rw [tab_length]; omega, by rw [tab_get]; show ((b.toNat : Nat) : Int) = b; omega⟩
    have z2 : [a].Sublist ((tab ns.length id).drop a.toNat) := by
      refine List.singleton_sublist.mpr ?_
      rw [List.mem_drop_iff_getElem]
      exact ⟨0, by rw [tab_length]; omega, by rw [tab_get]; show ((a.toNat + 0 : Nat) : Int) = a; omega⟩
    exact z1.append z2
  exact (two_ways hne (turns_nodup ns) hs (List.pair_sublist_mergeSort (le_trans_key _) (le_tot_key _) (decide_eq_true (show keyOf ns b ≤ keyOf ns a by omega)) hba)).elim
theorem turns_next (ns : List Int) {k : Nat} (hk : k + 1 < ns.length) : keyOf ns ((turnsL ns).getD k 0) < keyOf ns ((turnsL ns).getD (k + 1) 0) ∨ (keyOf ns ((turnsL ns).getD k 0) = keyOf ns ((turnsL ns).getD (k + 1) 0) ∧ (turnsL ns).getD k 0 < (turnsL ns).getD (k + 1) 0) := by
  have h := List.pairwise_iff_getElem.mp (turns_lex ns) k (k + 1) (by rw [turns_length]; omega) (by rw [turns_length]; omega) (by omega)
  rw [List.getD_eq_getElem?_getD, List.getElem?_eq_getElem (by rw [turns_length]; omega), List.getD_eq_getElem?_getD, List.getElem?_eq_getElem (by rw [turns_length]; omega)]
  exact h
theorem turns_key (ns : List Int) : (turnsL ns).map (keyOf ns) = srt ns := by
  refine srt_unique ?_ ?_
  · have h := (turns_perm ns).map (keyOf ns)
    have e : (tab ns.length id).map (keyOf ns) = ns := by
      rw [tab_map]
      refine (eq_tab rfl fun i hi => ?_).symm
      show _ = ns.getD (i : Int).toNat 0
      rw [Int.toNat_natCast]
    rw [e] at h
    exact h
  · exact List.pairwise_map.mpr (turns_le ns)
theorem places_at (ns : List Int) {k : Nat} (hk : k < ns.length) : (placesL ns).getD ((turnsL ns).getD k 0).toNat 0 = (k : Int) := by
  have hi := turns_in ns hk
  unfold placesL
  rw [tab_getD _ (by omega), show (((turnsL ns).getD k 0).toNat : Int) = (turnsL ns).getD k 0 by omega, posI_at (turns_nodup ns) (by rw [turns_length]; exact hk)]
theorem turns_at (ns : List Int) {i : Nat} (hi : i < ns.length) : 0 ≤ (placesL ns).getD i 0 ∧ (placesL ns).getD i 0 < ns.length ∧ (turnsL ns).getD ((placesL ns).getD i 0).toNat 0 = (i : Int) := by
  have h := posI_in (turns_mem.mpr (show 0 ≤ (i : Int) ∧ (i : Int) < ns.length by omega))
  rw [turns_length] at h
  unfold placesL
  rw [tab_getD _ hi]
  exact h
theorem places_perm (ns : List Int) : (placesL ns).Perm (tab ns.length id) := by
  have hinj : (placesL ns).Nodup := tab_nodup fun i j hi hj e => by
    have h1 := posI_in (turns_mem.mpr (show 0 ≤ (i : Int) ∧ (i : Int) < ns.length by omega))
    have h2 := posI_in (turns_mem.mpr (show 0 ≤ (j : Int) ∧ (j : Int) < ns.length by omega))
    rw [e] at h1
    have := h1.2.2.symm.trans h2.2.2
    omega
  refine (List.perm_ext_iff_of_nodup hinj (tab_nodup fun i j _ _ e => by have e' : (i : Int) = (j : Int) := e; omega)).mpr fun x => ?_
  unfold placesL
  rw [mem_tab, mem_tab]
  constructor
  · rintro ⟨i, hi, rfl⟩
    have h := posI_in (turns_mem.mpr (show 0 ≤ (i : Int) ∧ (i : Int) < ns.length by omega))
    rw [turns_length] at h
    exact ⟨(posI (turnsL ns) i).toNat, by omega, by show ((posI (turnsL ns) i).toNat : Int) = _; omega⟩
  · rintro ⟨i, hi, rfl⟩
    have h := turns_in ns hi
    refine ⟨((turnsL ns).getD i 0).toNat, by omega, ?_⟩
    rw [show (((turnsL ns).getD i 0).toNat : Int) = (turnsL ns).getD i 0 by omega, posI_at (turns_nodup ns) (by rw [turns_length]; exact hi)]
    rfl
theorem srt_places (ns : List Int) : srt (placesL ns) = tab (placesL ns).length id := by
  rw [places_length]
  exact (srt_unique (places_perm ns).symm (tab_sorted _)).symm
/-- the places told until turn k; the row of turns read until k -/
def toldN (ns : List Int) (k : Nat) : List Int := tab ns.length fun i => if posI (turnsL ns) i < k then posI (turnsL ns) i else 0
theorem told_zero (ns : List Int) : toldN ns 0 = List.replicate ns.length 0 := by
  unfold toldN
  refine List.ext_getElem (by rw [tab_length, List.length_replicate]) fun i h1 h2 => ?_
  rw [tab_length] at h1
  rw [tab_get, List.getElem_replicate]
  have h := posI_in (turns_mem.mpr (show 0 ≤ (i : Int) ∧ (i : Int) < ns.length by omega))
  rw [if_neg (by omega)]
theorem told_step (ns : List Int) {k : Nat} (hk : k < ns.length) : (toldN ns k).set ((turnsL ns).getD k 0).toNat (k : Int) = toldN ns (k + 1) := by
  have hi := turns_in ns hk
  unfold toldN
  rw [tab_set (by omega)]
  refine tab_congr fun i hil => ?_
  have h := posI_in (turns_mem.mpr (show 0 ≤ (i : Int) ∧ (i : Int) < ns.length by omega))
  rw [turns_length] at h
  by_cases e : (i : Int) = (((turnsL ns).getD k 0).toNat : Int)
  · have e2 : posI (turnsL ns) i = (k : Int) := by
      rw [e, show (((turnsL ns).getD k 0).toNat : Int) = (turnsL ns).getD k 0 by omega, posI_at (turns_nodup ns) (by rw [turns_length]; exact hk)]
    rw [if_pos e, e2, if_pos (by omega)]
  · rw [if_neg e]
    have ne : posI (turnsL ns) i ≠ (k : Int) := fun z => by
      rw [z, Int.toNat_natCast] at h
      omega
    by_cases h2 : posI (turnsL ns) i < (k : Int)
    · rw [if_pos h2, if_pos (by omega)]
    · rw [if_neg h2, if_neg (by omega)]
theorem told_all (ns : List Int) : toldN ns ns.length = placesL ns := tab_congr fun i hi => by
  have h := posI_in (turns_mem.mpr (show 0 ≤ (i : Int) ∧ (i : Int) < ns.length by omega))
  rw [turns_length] at h
  exact if_pos h.2.1
/-- the row that _law_rises fills, k steps on -/
def rowN (ns : List Int) (k : Nat) : List Int := tab ns.length fun i => if (turnsL ns).getD i.toNat 0 < k then (turnsL ns).getD i.toNat 0 else -1
theorem rowN_length (ns : List Int) (k : Nat) : (rowN ns k).length = ns.length := tab_length _ _
theorem row_zero (ns : List Int) : rowN ns 0 = List.replicate ns.length (-1) := by
  unfold rowN
  refine List.ext_getElem (by rw [tab_length, List.length_replicate]) fun i h1 h2 => ?_
  rw [tab_length] at h1
  rw [tab_get, List.getElem_replicate, Int.toNat_natCast]
  have h := turns_in ns h1
  rw [if_neg (by omega)]
theorem row_step (ns : List Int) {k : Nat} (hk : k < ns.length) : (rowN ns k).set ((placesL ns).getD k 0).toNat (k : Int) = rowN ns (k + 1) := by
  have ht := turns_at ns hk
  unfold rowN
  rw [tab_set (by omega)]
  refine tab_congr fun i hi => ?_
  rw [Int.toNat_natCast]
  by_cases e : (i : Int) = (((placesL ns).getD k 0).toNat : Int)
  · have ei : i = ((placesL ns).getD k 0).toNat := by omega
    rw [if_pos e, ei, ht.2.2, if_pos (by omega)]
  · rw [if_neg e]
    have ne : (turnsL ns).getD i 0 ≠ (k : Int) := fun z => by
      have h2 := places_at ns hi
      rw [z, Int.toNat_natCast] at h2
      omega
    by_cases h2 : (turnsL ns).getD i 0 < (k : Int)
    · rw [if_pos h2, if_pos (by omega)]
    · rw [if_neg h2, if_neg (by omega)]
theorem row_all (ns : List Int) : rowN ns ns.length = turnsL ns := by
  refine (eq_tab (turns_length ns) fun i hi => ?_).symm
  rw [Int.toNat_natCast, if_pos (turns_in ns hi).2]
end La

namespace Ll
open PySem L2 La
def top (i : Nat) : Stmt := PySem.Challenge.pw_ladderlots_k06_whole_made_in_order.main.body.getD i (.Pass ⟨0, 0, 0, 0⟩)
abbrev s_init : Stmt := inClass (top 9) 0
abbrev s_feet : Stmt := inClass (top 9) 2
abbrev s_ends : Stmt := inClass (top 9) 3
abbrev s_carried : Stmt := inClass (top 9) 4
abbrev s_turned : Stmt := inClass (top 9) 5
abbrev s_above : Stmt := inClass (top 9) 6
abbrev s_is_outcome : Stmt := top 11
abbrev s_places : Stmt := top 12
abbrev s_stands : Stmt := top 14
abbrev s_standing : Stmt := top 15
abbrev s_must : Stmt := top 17
abbrev s_l_cell_at : Stmt := top 19
abbrev s_l_whole : Stmt := top 20
abbrev s_l_numbers_by : Stmt := top 21
abbrev s_l_list : Stmt := top 22
abbrev s_l_rises : Stmt := top 23
abbrev s_l_stands : Stmt := top 24
abbrev s_l_says : Stmt := top 25
abbrev s_l_made : Stmt := top 26
abbrev s_l_spoiled : Stmt := top 27
abbrev s_l_refused : Stmt := top 28
abbrev s_l_no_places : Stmt := top 29
abbrev s_law : Stmt := top 30
theorem sc_init : FnScope ["self", "posts", "rungs", "rung"] ["self", "posts", "rungs"] (defScope s_init) := ⟨rfl, rfl, rfl, by decide +kernel, rfl, by decide +kernel, by decide +kernel⟩
theorem sc_feet : FnScope ["self", "row", "rung"] ["self"] (defScope s_feet) := ⟨rfl, rfl, rfl, by decide +kernel, rfl, by decide +kernel, by decide +kernel⟩
theorem sc_ends : FnScope ["self", "told", "post", "walker"] ["self"] (defScope s_ends) := ⟨rfl, rfl, rfl, by decide +kernel, rfl, by decide +kernel, by decide +kernel⟩
theorem sc_carried : FnScope ["self", "things", "walker"] ["self", "things"] (defScope s_carried) := ⟨rfl, rfl, rfl, by decide +kernel, rfl, by decide +kernel, by decide +kernel⟩
theorem sc_turned : FnScope ["self"] ["self"] (defScope s_turned) := ⟨rfl, rfl, rfl, by decide +kernel, rfl, by decide +kernel, by decide +kernel⟩
theorem sc_above : FnScope ["self", "other"] ["self", "other"] (defScope s_above) := ⟨rfl, rfl, rfl, by decide +kernel, rfl, by decide +kernel, by decide +kernel⟩
theorem sc_is_outcome : FnScope ["some"] ["some"] (defScope s_is_outcome) := ⟨rfl, rfl, rfl, by decide +kernel, rfl, by decide +kernel, by decide +kernel⟩
theorem sc_places : FnScope ["things", "told", "turns", "place", "at"] ["things"] (defScope s_places) := ⟨rfl, rfl, rfl, by decide +kernel, rfl, by decide +kernel, by decide +kernel⟩
theorem sc_stands : FnScope ["ladder", "high", "last", "rung"] ["ladder"] (defScope s_stands) := ⟨rfl, rfl, rfl, by decide +kernel, rfl, by decide +kernel, by decide +kernel⟩
theorem sc_standing : FnScope ["outcome", "rungs", "walker", "rung", "other"] ["outcome"] (defScope s_standing) := ⟨rfl, rfl, rfl, by decide +kernel, rfl, by decide +kernel, by decide +kernel⟩
theorem sc_must : FnScope ["outcome", "told", "left", "right"] ["outcome"] (defScope s_must) := ⟨rfl, rfl, rfl, by decide +kernel, rfl, by decide +kernel, by decide +kernel⟩
theorem sc_l_cell_at : FnScope ["_law_script", "_law_k"] ["_law_script", "_law_k"] (defScope s_l_cell_at) := ⟨rfl, rfl, rfl, by decide +kernel, rfl, by decide +kernel, by decide +kernel⟩
theorem sc_l_whole : FnScope ["_law_found"] ["_law_found"] (defScope s_l_whole) := ⟨rfl, rfl, rfl, by decide +kernel, rfl, by decide +kernel, by decide +kernel⟩
theorem sc_l_numbers_by : FnScope ["_law_cells", "_law_kind", "_law_cell"] ["_law_cells", "_law_kind"] (defScope s_l_numbers_by) := ⟨rfl, rfl, rfl, by decide +kernel, rfl, by decide +kernel, by decide +kernel⟩
theorem sc_l_list : FnScope ["_law_found", "_law_many", "_law_one"] ["_law_found", "_law_many"] (defScope s_l_list) := ⟨rfl, rfl, rfl, by decide +kernel, rfl, by decide +kernel, by decide +kernel⟩
theorem sc_l_rises : FnScope ["_law_numbers", "_law_outcome", "_law_row", "_law_k"] ["_law_numbers", "_law_outcome"] (defScope s_l_rises) := ⟨rfl, rfl, rfl, by decide +kernel, rfl, by decide +kernel, by decide +kernel⟩
theorem sc_l_stands : FnScope ["_law_rungs", "_law_heads", "_law_k"] ["_law_rungs"] (defScope s_l_stands) := ⟨rfl, rfl, rfl, by decide +kernel, rfl, by decide +kernel, by decide +kernel⟩
theorem sc_l_says : FnScope ["_law_found", "_law_due"] ["_law_found", "_law_due"] (defScope s_l_says) := ⟨rfl, rfl, rfl, by decide +kernel, rfl, by decide +kernel, by decide +kernel⟩
theorem sc_l_made : FnScope ["_law_found", "_law_outcome", "_law_row", "_law_crossed", "_law_rung", "_law_left", "_law_k"] ["_law_found", "_law_outcome"] (defScope s_l_made) := ⟨rfl, rfl, rfl, by decide +kernel, rfl, by decide +kernel, by decide +kernel⟩
theorem sc_l_spoiled : FnScope ["_law_ends", "_law_cell", "_law_number", "_law_at", "_law_way", "_law_spoiled_here"] ["_law_ends", "_law_cell", "_law_number"] (defScope s_l_spoiled) := ⟨rfl, rfl, rfl, by decide +kernel, rfl, by decide +kernel, by decide +kernel⟩
theorem sc_l_refused : FnScope ["_law_outcome", "e"] ["_law_outcome"] (defScope s_l_refused) := ⟨rfl, rfl, rfl, by decide +kernel, rfl, by decide +kernel, by decide +kernel⟩
theorem sc_l_no_places : FnScope ["_law_numbers", "e"] ["_law_numbers"] (defScope s_l_no_places) := ⟨rfl, rfl, rfl, by decide +kernel, rfl, by decide +kernel, by decide +kernel⟩
theorem sc_law : FnScope ["_law_script", "_law_numbers", "_law_handed", "_law_outcome", "_law_held", "_law_ladder", "_law_other", "_law_most", "_law_rungs", "_law_spoiled_here", "_law_due", "_law_cell"] ["_law_script"] (defScope s_law) := ⟨rfl, rfl, rfl, by decide +kernel, rfl, by decide +kernel, by decide +kernel⟩
/-- where the top has put things -/
structure Ad where
  c_Ladder : Addr
  c_LotError : Addr
  c_NoPost : Addr
  c_NoRung : Addr
  c_Unlike : Addr
  c_NoOutcome : Addr
  f_init : Addr
  d_init : FuncData
  f_feet : Addr
  d_feet : FuncData
  f_ends : Addr
  d_ends : FuncData
  f_carried : Addr
  d_carried : FuncData
  f_turned : Addr
  d_turned : FuncData
  f_above : Addr
  d_above : FuncData
  f_is_outcome : Addr
  d_is_outcome : FuncData
  f_places : Addr
  d_places : FuncData
  f_stands : Addr
  d_stands : FuncData
  f_standing : Addr
  d_standing : FuncData
  f_must : Addr
  d_must : FuncData
  f_l_cell_at : Addr
  d_l_cell_at : FuncData
  f_l_whole : Addr
  d_l_whole : FuncData
  f_l_numbers_by : Addr
  d_l_numbers_by : FuncData
  f_l_list : Addr
  d_l_list : FuncData
  f_l_rises : Addr
  d_l_rises : FuncData
  f_l_stands : Addr
  d_l_stands : FuncData
  f_l_says : Addr
  d_l_says : FuncData
  f_l_made : Addr
  d_l_made : FuncData
  f_l_spoiled : Addr
  d_l_spoiled : FuncData
  f_l_refused : Addr
  d_l_refused : FuncData
  f_l_no_places : Addr
  d_l_no_places : FuncData
  c_code : Addr
  c_tab : Addr
/-- what the top has written -/
structure Txt (K : PySem.W.Frag) (mg : Str → Option Value) (A : Ad) : Prop where
  n_bool : mg "bool" = none
  n_enumerate : mg "enumerate" = none
  n_int : mg "int" = none
  n_isinstance : mg "isinstance" = none
  n_len : mg "len" = none
  n_list : mg "list" = none
  n_min : mg "min" = none
  n_range : mg "range" = none
  n_reversed : mg "reversed" = none
  n_sorted : mg "sorted" = none
  n_tuple : mg "tuple" = none
  g_MOST : ∃ t, mg "MOST" = some (.int 100 t)
  g_Ladder : mg "Ladder" = some (.ref A.c_Ladder)
  cl : Cls K A.c_Ladder
  nP : NoAttr K A.c_Ladder "posts"
  nR : NoAttr K A.c_Ladder "rungs"
  mk_Ladder : Mk K A.c_Ladder A.f_init
  ty_Ladder : ∀ (H : Hp) (p dx : Addr) (fs : List (Str × V)), H p = some (.ins A.c_Ladder dx fs) → TyOf K H (.ref p) (.ref A.c_Ladder)
  kit_Ladder : PySem.W.kitOne K (.ref A.c_Ladder) (.ref A.c_Ladder) = some true
  g_LotError : mg "LotError" = some (.ref A.c_LotError)
  g_NoPost : mg "NoPost" = some (.ref A.c_NoPost)
  x_NoPost : PySem.W.excIn K A.c_NoPost [.type "ValueError", .type "Exception", .type "BaseException", .type "object"] "ValueError.__new__" = true
  k_NoPost : PySem.W.keepIn K (.ref A.c_NoPost) = true
  bs_NoPost : PySem.W.subIn K (.ref A.c_NoPost) (.type "BaseException") = some true
  ty_NoPost : PySem.W.typeIn K (.ref A.c_NoPost) = some (.type "type")
  exc_NoPost : ExcC K A.c_NoPost
  exm_NoPost_LotError : PySem.W.exmOne K (.ref A.c_NoPost) (.ref A.c_LotError) = some true
  kit_NoPost_NoPost : PySem.W.kitOne K (.ref A.c_NoPost) (.ref A.c_NoPost) = some true
  kit_NoPost_NoOutcome : PySem.W.kitOne K (.ref A.c_NoPost) (.ref A.c_NoOutcome) = some false
  g_NoRung : mg "NoRung" = some (.ref A.c_NoRung)
  x_NoRung : PySem.W.excIn K A.c_NoRung [.type "ValueError", .type "Exception", .type "BaseException", .type "object"] "ValueError.__new__" = true
  k_NoRung : PySem.W.keepIn K (.ref A.c_NoRung) = true
  bs_NoRung : PySem.W.subIn K (.ref A.c_NoRung) (.type "BaseException") = some true
  ty_NoRung : PySem.W.typeIn K (.ref A.c_NoRung) = some (.type "type")
  exc_NoRung : ExcC K A.c_NoRung
  exm_NoRung_LotError : PySem.W.exmOne K (.ref A.c_NoRung) (.ref A.c_LotError) = some true
  kit_NoRung_NoPost : PySem.W.kitOne K (.ref A.c_NoRung) (.ref A.c_NoPost) = some false
  kit_NoRung_NoOutcome : PySem.W.kitOne K (.ref A.c_NoRung) (.ref A.c_NoOutcome) = some false
  g_Unlike : mg "Unlike" = some (.ref A.c_Unlike)
  x_Unlike : PySem.W.excIn K A.c_Unlike [.type "ValueError", .type "Exception", .type "BaseException", .type "object"] "ValueError.__new__" = true
  k_Unlike : PySem.W.keepIn K (.ref A.c_Unlike) = true
  bs_Unlike : PySem.W.subIn K (.ref A.c_Unlike) (.type "BaseException") = some true
  ty_Unlike : PySem.W.typeIn K (.ref A.c_Unlike) = some (.type "type")
  exc_Unlike : ExcC K A.c_Unlike
  exm_Unlike_LotError : PySem.W.exmOne K (.ref A.c_Unlike) (.ref A.c_LotError) = some true
  kit_Unlike_NoPost : PySem.W.kitOne K (.ref A.c_Unlike) (.ref A.c_NoPost) = some false
  kit_Unlike_NoOutcome : PySem.W.kitOne K (.ref A.c_Unlike) (.ref A.c_NoOutcome) = some false
  g_NoOutcome : mg "NoOutcome" = some (.ref A.c_NoOutcome)
  x_NoOutcome : PySem.W.excIn K A.c_NoOutcome [.type "ValueError", .type "Exception", .type "BaseException", .type "object"] "ValueError.__new__" = true
  k_NoOutcome : PySem.W.keepIn K (.ref A.c_NoOutcome) = true
  bs_NoOutcome : PySem.W.subIn K (.ref A.c_NoOutcome) (.type "BaseException") = some true
  ty_NoOutcome : PySem.W.typeIn K (.ref A.c_NoOutcome) = some (.type "type")
  exc_NoOutcome : ExcC K A.c_NoOutcome
  exm_NoOutcome_LotError : PySem.W.exmOne K (.ref A.c_NoOutcome) (.ref A.c_LotError) = some true
  kit_NoOutcome_NoPost : PySem.W.kitOne K (.ref A.c_NoOutcome) (.ref A.c_NoPost) = some false
  kit_NoOutcome_NoOutcome : PySem.W.kitOne K (.ref A.c_NoOutcome) (.ref A.c_NoOutcome) = some true
  F_init : FunD K "__init__" "Ladder.__init__" (defArgs s_init) (defBody s_init) (defScope s_init) [.non] [] A.f_init A.d_init
  b_init2 : Binds K A.d_init ["self", "posts", "rungs"] []
  b_init1 : Binds K A.d_init ["self", "posts", "rungs"] [.none]
  F_feet : Fun K "feet" "Ladder.feet" s_feet A.f_feet A.d_feet
  b_feet : Binds K A.d_feet ["self"] []
  m_feet : Meth K A.c_Ladder "feet" A.f_feet
  F_ends : Fun K "ends" "Ladder.ends" s_ends A.f_ends A.d_ends
  b_ends : Binds K A.d_ends ["self"] []
  m_ends : Meth K A.c_Ladder "ends" A.f_ends
  F_carried : Fun K "carried" "Ladder.carried" s_carried A.f_carried A.d_carried
  b_carried : Binds K A.d_carried ["self", "things"] []
  m_carried : Meth K A.c_Ladder "carried" A.f_carried
  F_turned : Fun K "turned" "Ladder.turned" s_turned A.f_turned A.d_turned
  b_turned : Binds K A.d_turned ["self"] []
  m_turned : Meth K A.c_Ladder "turned" A.f_turned
  F_above : Fun K "above" "Ladder.above" s_above A.f_above A.d_above
  b_above : Binds K A.d_above ["self", "other"] []
  m_above : Meth K A.c_Ladder "above" A.f_above
  F_is_outcome : Fun K "is_outcome" "is_outcome" s_is_outcome A.f_is_outcome A.d_is_outcome
  b_is_outcome : Binds K A.d_is_outcome ["some"] []
  g_is_outcome : mg "is_outcome" = some (.ref A.f_is_outcome)
  F_places : Fun K "places" "places" s_places A.f_places A.d_places
  b_places : Binds K A.d_places ["things"] []
  code_places : A.d_places.code = .ref A.c_code
  g_places : mg "places" = some (.ref A.f_places)
  F_stands : Fun K "stands" "stands" s_stands A.f_stands A.d_stands
  b_stands : Binds K A.d_stands ["ladder"] []
  g_stands : mg "stands" = some (.ref A.f_stands)
  F_standing : Fun K "standing" "standing" s_standing A.f_standing A.d_standing
  b_standing : Binds K A.d_standing ["outcome"] []
  g_standing : mg "standing" = some (.ref A.f_standing)
  F_must : Fun K "must" "must" s_must A.f_must A.d_must
  b_must : Binds K A.d_must ["outcome"] []
  g_must : mg "must" = some (.ref A.f_must)
  F_l_cell_at : Fun K "_law_cell_at" "_law_cell_at" s_l_cell_at A.f_l_cell_at A.d_l_cell_at
  b_l_cell_at : Binds K A.d_l_cell_at ["_law_script", "_law_k"] []
  g_l_cell_at : mg "_law_cell_at" = some (.ref A.f_l_cell_at)
  F_l_whole : Fun K "_law_whole" "_law_whole" s_l_whole A.f_l_whole A.d_l_whole
  b_l_whole : Binds K A.d_l_whole ["_law_found"] []
  g_l_whole : mg "_law_whole" = some (.ref A.f_l_whole)
  F_l_numbers_by : Fun K "_law_numbers_by" "_law_numbers_by" s_l_numbers_by A.f_l_numbers_by A.d_l_numbers_by
  b_l_numbers_by : Binds K A.d_l_numbers_by ["_law_cells", "_law_kind"] []
  g_l_numbers_by : mg "_law_numbers_by" = some (.ref A.f_l_numbers_by)
  F_l_list : Fun K "_law_list" "_law_list" s_l_list A.f_l_list A.d_l_list
  b_l_list : Binds K A.d_l_list ["_law_found", "_law_many"] []
  g_l_list : mg "_law_list" = some (.ref A.f_l_list)
  F_l_rises : Fun K "_law_rises" "_law_rises" s_l_rises A.f_l_rises A.d_l_rises
  b_l_rises : Binds K A.d_l_rises ["_law_numbers", "_law_outcome"] []
  g_l_rises : mg "_law_rises" = some (.ref A.f_l_rises)
  F_l_stands : Fun K "_law_stands" "_law_stands" s_l_stands A.f_l_stands A.d_l_stands
  b_l_stands : Binds K A.d_l_stands ["_law_rungs"] []
  g_l_stands : mg "_law_stands" = some (.ref A.f_l_stands)
  F_l_says : Fun K "_law_says" "_law_says" s_l_says A.f_l_says A.d_l_says
  b_l_says : Binds K A.d_l_says ["_law_found", "_law_due"] []
  g_l_says : mg "_law_says" = some (.ref A.f_l_says)
  F_l_made : Fun K "_law_made" "_law_made" s_l_made A.f_l_made A.d_l_made
  b_l_made : Binds K A.d_l_made ["_law_found", "_law_outcome"] []
  g_l_made : mg "_law_made" = some (.ref A.f_l_made)
  F_l_spoiled : Fun K "_law_spoiled" "_law_spoiled" s_l_spoiled A.f_l_spoiled A.d_l_spoiled
  b_l_spoiled : Binds K A.d_l_spoiled ["_law_ends", "_law_cell", "_law_number"] []
  g_l_spoiled : mg "_law_spoiled" = some (.ref A.f_l_spoiled)
  F_l_refused : Fun K "_law_refused" "_law_refused" s_l_refused A.f_l_refused A.d_l_refused
  b_l_refused : Binds K A.d_l_refused ["_law_outcome"] []
  g_l_refused : mg "_law_refused" = some (.ref A.f_l_refused)
  F_l_no_places : Fun K "_law_no_places" "_law_no_places" s_l_no_places A.f_l_no_places A.d_l_no_places
  b_l_no_places : Binds K A.d_l_no_places ["_law_numbers"] []
  g_l_no_places : mg "_law_no_places" = some (.ref A.f_l_no_places)
def P_law (K : PySem.W.Frag) (P : Addr) : PK' := fun vs H Q E => ∃ (a : Addr) (ns : List Int), vs = [.ref a] ∧ SqL K H a (ns.map V.int) ∧ ns.length ≤ 63 ∧ H P = some (.tbl #[]) ∧ ∀ H', Q (.bl true) H'
local macro_rules | `(tactic| wtm_at "same") => `(tactic| first
  | with_reducible assumption
  | with_reducible exact L2.Same.refl _
  | ((with_reducible apply La.same_stepF); (focus (first | with_reducible assumption | assumption)); (focus (wtm_at "same")))
  | ((fail_if_success ((with_reducible apply La.same_stepF); (focus (first | with_reducible assumption | assumption)))); (with_reducible apply La.same_mutF); (focus (wtm_at "same")); (focus (wtm_at "fre")))
  | (refine' L2.Same.trans ?e ?f; (case f => with_reducible assumption); (case e => wtm_at "same")))
local macro_rules | `(tactic| wtm_at "fre") => `(tactic| first
  | with_reducible assumption
  | (refine' La.free_of ?e ?f; (case f => with_reducible assumption); (case e => wtm_at "same")))
local macro_rules | `(tactic| wtm_at "isfree") => `(tactic| ((with_reducible apply La.upd_oldF); (focus (with_reducible assumption))))
local macro_rules | `(tactic| wtm_at "look") => `(tactic| first
  | with_reducible assumption
  | with_reducible exact L2.upd_same
  | ((with_reducible apply La.upd_oldF); (focus (first | with_reducible assumption | assumption)); (focus (wtm_at "look")))
  | ((fail_if_success ((with_reducible apply La.upd_oldF); (focus (first | with_reducible assumption | assumption)))); (with_reducible apply La.upd_mutF); (focus (wtm_at "ne")); (focus (wtm_at "look")))
  | (refine' La.same_look ?e ?h; (case e => with_reducible assumption); (case h => wtm_at "look")))
local macro_rules | `(tactic| wtm_at "ne") => `(tactic| first
  | with_reducible assumption
  | (refine Ne.symm ?_; with_reducible assumption)
  | (refine' La.ne_of_free ?h ?f; (case f => with_reducible assumption); (case h => wtm_at "look"))
  | (refine' Ne.symm (La.ne_of_free ?h ?f); (case f => with_reducible assumption); (case h => wtm_at "look")))
local macro_rules | `(tactic| wtm_at "sql") => `(tactic| first
  | with_reducible assumption
  | ((with_reducible apply L2.SqL.of); wtm_at "look")
  | ((with_reducible apply La.sql_newF); (focus (first | with_reducible assumption | assumption)); (focus (wtm_at "sql")))
  | ((fail_if_success ((with_reducible apply La.sql_newF); (focus (first | with_reducible assumption | assumption)))); (with_reducible apply La.sql_mutF); (focus (wtm_at "ne")); (focus (wtm_at "sql")))
  | ((with_reducible apply La.sql_nil); (wtm_at "look"))
  | (refine' L2.Same.seq ?e ?h; (case h => with_reducible assumption); (case e => wtm_at "same")))
local macro_rules | `(tactic| wtm_at "sqt") => `(tactic| first
  | with_reducible assumption
  | ((with_reducible apply L2.SqT.of); wtm_at "look")
  | ((with_reducible apply La.sqt_newF); (focus (first | with_reducible assumption | assumption)); (focus (wtm_at "sqt")))
  | ((fail_if_success ((with_reducible apply La.sqt_newF); (focus (first | with_reducible assumption | assumption)))); (with_reducible apply La.sqt_mutF); (focus (wtm_at "look")); (focus (wtm_at "sqt")))
  | (refine' La.seqT ?e ?h; (case h => with_reducible assumption); (case e => wtm_at "same")))
local macro_rules | `(tactic| wtm_at "sq") => `(tactic| first
  | (apply Or.inl; wtm_at "sql")
  | (apply Or.inr; wtm_at "sqt"))
local macro_rules | `(tactic| wtm_at "lki") => `(tactic| first
  | (wtm_at "look")
  | ((with_reducible apply La.lki0); (wtm_at "look"))
  | ((with_reducible apply La.lki1); (wtm_at "look"))
  | ((with_reducible apply La.lki2); (wtm_at "look"))
  | ((with_reducible apply La.lki3); (wtm_at "look")))
local macro_rules | `(tactic| wtm_at "lad") => `(tactic| first
  | with_reducible assumption
  | ((with_reducible apply La.lad_newF); (focus (with_reducible assumption)); (focus (wtm_at "lad")))
  | ((fail_if_success ((with_reducible apply La.lad_newF); (focus (with_reducible assumption)))); (with_reducible apply La.lad_mutF); (focus (wtm_at "look")); (focus (wtm_at "lad")))
  | (refine' La.Lad.same ?e ?h; (case h => with_reducible assumption); (case e => wtm_at "same")))
local macro_rules | `(tactic| wtm_at "pra") => `(tactic| first
  | with_reducible assumption
  | exact La.PrA.nil
  | (refine' La.PrA.same ?e ?h; (case h => with_reducible assumption); (case e => wtm_at "same")))
local macro_rules | `(tactic| wtm_at "prs") => `(tactic| first
  | with_reducible assumption
  | (refine' ⟨_, ?a, ?b⟩; (case a => wtm_at "sql"); (case b => wtm_at "pra"))
  | (refine' La.Prs.same ?e ?h; (case h => with_reducible assumption); (case e => wtm_at "same")))
local macro_rules | `(tactic| wtm_at "cond") => `(tactic| first
  | assumption
  | (show (0 : Int) < _; first | decide | omega)
  | exact ⟨by decide, by decide⟩
  | exact Or.inr ⟨by decide, by decide⟩
  | exact Or.inl ⟨by decide, by decide⟩
  | exact ⟨by decide, by decide, by decide⟩
  | exact ⟨by omega, by omega⟩
  | exact Or.inr ⟨by omega, by omega⟩
  | exact Or.inl ⟨by omega, by omega⟩)
local macro_rules | `(tactic| wtm_at "len") => `(tactic| first
  | with_reducible assumption
  | decide
  | (refine Nat.le_trans (La.cutI_len _ _ _) ?_; wtm_at "len")
  | (have := PySem.sizeLine_eq; omega)
  | (simp only [List.length_map, List.length_append, List.length_cons, List.length_nil, List.length_reverse, List.length_set, List.length_range, List.length_replicate, List.length_take, List.length_drop]; have := PySem.sizeLine_eq; omega))
local macro_rules | `(tactic| wtm_at "ilen") => `(tactic| first
  | with_reducible assumption
  | omega
  | (simp only [List.length_map, List.length_append, List.length_cons, List.length_nil, List.length_reverse, List.length_set, List.length_range, List.length_replicate, List.length_take, List.length_drop]; omega))
local macro_rules | `(tactic| wtm_at "dat") => `(tactic| first
  | with_reducible assumption
  | exact La.dpAll_flat (La.flat_ints _)
  | (refine' La.dpAll_same ?e ?h; (case h => with_reducible assumption); (case e => wtm_at "same")))
local macro_rules | `(tactic| wtm_at "nn") => `(tactic| first
  | assumption
  | omega
  | exact Int.emod_nonneg _ (by omega))
local macro_rules | `(tactic| wtm_at "exc") => `(tactic| first
  | exact (by assumption : Ll.Txt _ _ _).exc_NoPost
  | exact (by assumption : Ll.Txt _ _ _).exc_NoRung
  | exact (by assumption : Ll.Txt _ _ _).exc_Unlike
  | exact (by assumption : Ll.Txt _ _ _).exc_NoOutcome
  | exact (by assumption : Ll.Txt _ _ _).exc_NoStep)
local macro_rules | `(tactic| wtm_at "clsv") => `(tactic| first
  | exact L2.ClsV.ty _
  | exact L2.ClsV.own _)
local macro_rules | `(tactic| wtm_at "kit") => `(tactic| first
  | exact (by assumption : Ll.Txt _ _ _).kit_NoPost_VE
  | exact (by assumption : Ll.Txt _ _ _).kit_NoPost_LotError
  | exact (by assumption : Ll.Txt _ _ _).kit_NoPost_NoPost
  | exact (by assumption : Ll.Txt _ _ _).kit_NoPost_NoRung
  | exact (by assumption : Ll.Txt _ _ _).kit_NoPost_Unlike
  | exact (by assumption : Ll.Txt _ _ _).kit_NoPost_NoOutcome
  | exact (by assumption : Ll.Txt _ _ _).kit_NoPost_NoStep
  | exact (by assumption : Ll.Txt _ _ _).kit_NoRung_VE
  | exact (by assumption : Ll.Txt _ _ _).kit_NoRung_LotError
  | exact (by assumption : Ll.Txt _ _ _).kit_NoRung_NoPost
  | exact (by assumption : Ll.Txt _ _ _).kit_NoRung_NoRung
  | exact (by assumption : Ll.Txt _ _ _).kit_NoRung_Unlike
  | exact (by assumption : Ll.Txt _ _ _).kit_NoRung_NoOutcome
  | exact (by assumption : Ll.Txt _ _ _).kit_NoRung_NoStep
  | exact (by assumption : Ll.Txt _ _ _).kit_Unlike_VE
  | exact (by assumption : Ll.Txt _ _ _).kit_Unlike_LotError
  | exact (by assumption : Ll.Txt _ _ _).kit_Unlike_NoPost
  | exact (by assumption : Ll.Txt _ _ _).kit_Unlike_NoRung
  | exact (by assumption : Ll.Txt _ _ _).kit_Unlike_Unlike
  | exact (by assumption : Ll.Txt _ _ _).kit_Unlike_NoOutcome
  | exact (by assumption : Ll.Txt _ _ _).kit_Unlike_NoStep
  | exact (by assumption : Ll.Txt _ _ _).kit_NoOutcome_VE
  | exact (by assumption : Ll.Txt _ _ _).kit_NoOutcome_LotError
  | exact (by assumption : Ll.Txt _ _ _).kit_NoOutcome_NoPost
  | exact (by assumption : Ll.Txt _ _ _).kit_NoOutcome_NoRung
  | exact (by assumption : Ll.Txt _ _ _).kit_NoOutcome_Unlike
  | exact (by assumption : Ll.Txt _ _ _).kit_NoOutcome_NoOutcome
  | exact (by assumption : Ll.Txt _ _ _).kit_NoOutcome_NoStep
  | exact (by assumption : Ll.Txt _ _ _).kit_NoStep_VE
  | exact (by assumption : Ll.Txt _ _ _).kit_NoStep_LotError
  | exact (by assumption : Ll.Txt _ _ _).kit_NoStep_NoPost
  | exact (by assumption : Ll.Txt _ _ _).kit_NoStep_NoRung
  | exact (by assumption : Ll.Txt _ _ _).kit_NoStep_Unlike
  | exact (by assumption : Ll.Txt _ _ _).kit_NoStep_NoOutcome
  | exact (by assumption : Ll.Txt _ _ _).kit_NoStep_NoStep)
local macro_rules | `(tactic| wtm_at "e1") => `(tactic| first
  | ((with_reducible apply La.c_var); (exact rfl))
  | with_reducible refine La.c_c ?_
  | with_reducible refine La.c_op ?_
  | with_reducible refine La.c_cons ?_
  | with_reducible refine La.c_nil ?_
  | with_reducible refine La.r_I0 ?_
  | with_reducible refine La.r_gt ?_
  | with_reducible refine La.r_ge ?_
  | with_reducible refine La.r_eqI ?_
  | with_reducible refine La.r_neI ?_
  | with_reducible refine La.r_eqS ?_
  | with_reducible refine La.r_neS ?_
  | with_reducible refine La.r_neB ?_
  | with_reducible refine La.r_eqB ?_
  | ((with_reducible apply La.r_I); (wtm_at "cond"))
  | with_reducible refine La.r_U ?_
  | ((with_reducible apply La.c_posts); (focus (exact (by assumption : Ll.Txt _ _ _).cl)); (focus (exact (by assumption : Ll.Txt _ _ _).nP)))
  | ((with_reducible apply La.c_rungs); (focus (exact (by assumption : Ll.Txt _ _ _).cl)); (focus (exact (by assumption : Ll.Txt _ _ _).nR)))
  | ((with_reducible apply La.c_posts); (focus (exact (by assumption : Ll.Txt _ _ _).cl)); (focus (exact (by assumption : Ll.Txt _ _ _).nP)))
  | ((with_reducible apply La.fp_intro); (focus (wtm_at "lad")))
  | ((with_reducible apply La.fr_intro); (focus (wtm_at "lad")); intro t' ht')
  | ((with_reducible apply La.ixT_p0); (focus (wtm_at "look")))
  | ((with_reducible apply La.ixT_p1); (focus (wtm_at "look")))
  | ((with_reducible apply La.ixT_int); (focus (wtm_at "sqt")); (focus omega))
  | ((with_reducible apply La.ixL_int); (focus (wtm_at "sql")); (focus omega))
  | ((with_reducible apply La.ixL_neg1); (focus (wtm_at "sql")); (focus (with_reducible assumption)))
  | ((with_reducible apply La.ixT_ok); (focus (wtm_at "sqt")); (focus (wtm_at "nn")); (focus (wtm_at "ilen")))
  | ((with_reducible apply La.ixL_ok); (focus (wtm_at "sql")); (focus (wtm_at "nn")); (focus (wtm_at "ilen")))
  | ((with_reducible apply La.lst_intro); (focus (wtm_at "len")); intro p' hp'; change La.Free _ p' at hp')
  | ((with_reducible apply La.tup_intro); (focus (wtm_at "len")); intro p' hp'; change La.Free _ p' at hp')
  | ((with_reducible apply La.cat_ints); (focus (wtm_at "lki")); (focus (wtm_at "lki")); (focus (wtm_at "len")); intro p' hp'; change La.Free _ p' at hp')
  | ((with_reducible apply La.cat33); (focus (wtm_at "look")); (focus (wtm_at "look")); intro p' hp'; change La.Free _ p' at hp')
  | ((with_reducible apply La.r_cat); (focus (wtm_at "look")); (focus (wtm_at "look")); (focus (wtm_at "len")); intro p' hp'; change La.Free _ p' at hp')
  | ((with_reducible apply La.b_isX); (focus (wtm_at "exc")); (focus (wtm_at "clsv")); (focus (wtm_at "kit")))
  | with_reducible refine La.isi_int_int ?_
  | with_reducible refine La.isi_int_bool ?_
  | with_reducible refine La.isi_bl_bool ?_
  | with_reducible refine La.isi_str_str ?_
  | ((with_reducible apply La.isi_list); (focus (wtm_at "look")))
  | ((with_reducible apply La.isi_tuple); (focus (wtm_at "look")))
  | ((with_reducible apply La.isi_lad); (focus (exact (by assumption : Ll.Txt _ _ _).kit_Ladder)); (focus (exact (by assumption : Ll.Txt _ _ _).ty_Ladder)); (focus (wtm_at "lad")))
  | (with_reducible refine La.c_call ?_)
  | with_reducible refine La.r_isN ?_
  | with_reducible refine La.r_notN ?_
  | with_reducible refine La.c_un ?_
  | with_reducible refine La.ex_bl ?_
  | with_reducible refine La.ex_int ?_
  | with_reducible refine La.t_test ?_
  | with_reducible refine La.t_B ?_
  | ((with_reducible apply La.t_andP); (focus (wtm_at "pure")); (focus (intro hpu; (try simp only [decide_eq_true_eq, decide_eq_false_iff_not, Bool.not_eq_true', Bool.not_eq_false', Bool.and_eq_true, Bool.or_eq_false_iff] at hpu); (first | done | (wtm_at "pure")))); intro Hb hb)
  | ((with_reducible apply La.t_orP); (focus (wtm_at "pure")); (focus (intro hpu; (try simp only [decide_eq_true_eq, decide_eq_false_iff_not, Bool.not_eq_true', Bool.not_eq_false', Bool.and_eq_true, Bool.or_eq_false_iff] at hpu); (first | done | (wtm_at "pure")))); intro Hb hb)
  | ((with_reducible apply La.c_andP); (focus (wtm_at "pure")); (focus (intro hpu; (try simp only [decide_eq_true_eq, decide_eq_false_iff_not, Bool.not_eq_true', Bool.not_eq_false', Bool.and_eq_true, Bool.or_eq_false_iff] at hpu); (first | done | (wtm_at "pure")))); intro Hb hb)
  | ((with_reducible apply La.c_orP); (focus (wtm_at "pure")); (focus (intro hpu; (try simp only [decide_eq_true_eq, decide_eq_false_iff_not, Bool.not_eq_true', Bool.not_eq_false', Bool.and_eq_true, Bool.or_eq_false_iff] at hpu); (first | done | (wtm_at "pure")))); intro Hb hb)
  | with_reducible refine La.t_and ?_
  | with_reducible refine La.t_or ?_
  | with_reducible refine La.t_not ?_
  | with_reducible refine La.t_yes ?_
  | with_reducible refine La.c_cb ?_
  | ((with_reducible apply La.b_lenI); (focus (wtm_at "sq")))
  | ((with_reducible apply La.b_len); (wtm_at "sq"))
  | ((with_reducible apply La.b_list); (focus (wtm_at "sq")); intro p' hp'; change La.Free _ p' at hp')
  | ((with_reducible apply La.b_tupL); (focus (wtm_at "sql")); intro p' hp'; change La.Free _ p' at hp')
  | with_reducible refine La.b_abs ?_
  | with_reducible refine La.b_max ?_
  | with_reducible refine La.b_min ?_
  | with_reducible refine La.c_tup ?_
  | with_reducible refine La.c_lst ?_
  | with_reducible refine La.c_sl ?_
  | with_reducible refine La.o_none ?_
  | with_reducible refine La.o_some ?_
  | ((with_reducible apply La.slL_take); (focus (wtm_at "sql")); (focus (wtm_at "nn")); intro p' hp'; change La.Free _ p' at hp')
  | ((with_reducible apply La.slL_drop); (focus (wtm_at "sql")); (focus (wtm_at "nn")); intro p' hp'; change La.Free _ p' at hp')
  | ((with_reducible apply La.slL_ints); (focus (wtm_at "sql")); intro p' hp'; change La.Free _ p' at hp')
  | ((with_reducible apply La.r_slL); (focus (wtm_at "sql")); intro p' hp'; change La.Free _ p' at hp')
  | ((with_reducible apply La.eqD_ints); (focus (wtm_at "sql")); (focus (wtm_at "sql")))
  | ((with_reducible apply La.neD_ints); (focus (wtm_at "sql")); (focus (wtm_at "sql")))
  | ((with_reducible apply La.eqD_same); (focus (wtm_at "sql")); (focus (wtm_at "sql")); (focus (decide)))
  | ((with_reducible apply La.neD_lists); (focus (wtm_at "sql")); (focus (wtm_at "sql")); (focus (wtm_at "dat")); (focus assumption); (focus assumption))
  | ((with_reducible apply La.neD_same); (focus (wtm_at "sql")); (focus (wtm_at "sql")); (focus (decide)))
  | ((with_reducible apply La.c_ifP); (focus (wtm_at "pure")))
  | with_reducible refine La.c_if ?_
  | with_reducible refine La.c_andV ?_
  | with_reducible refine La.c_orV ?_
  | with_reducible refine La.c_notV ?_
  | with_reducible refine La.c_chain ?_
  | with_reducible refine La.s_seq ?_
  | with_reducible refine La.s_set ?_
  | with_reducible refine La.s_ret ?_
  | ((with_reducible apply La.s_ifP); (focus (wtm_at "pure")))
  | with_reducible refine La.s_if ?_
  | with_reducible refine La.s_drop ?_
  | with_reducible refine La.s_next ?_
  | with_reducible refine La.s_asg ?_
  | with_reducible refine La.c_methW ?_
  | ((with_reducible apply La.methW_lad); (focus (wtm_at "lad")); (focus (decide +kernel)); (focus (decide +kernel)))
  | ((with_reducible refine La.c_revL ?_))
  | ((with_reducible refine La.c_revT ?_))
  | ((with_reducible apply La.revL_ints); (focus (wtm_at "sql")); intro p' hp'; change La.Free _ p' at hp')
  | ((with_reducible apply La.revT_ints); (focus (wtm_at "sqt")); intro p' hp'; change La.Free _ p' at hp')
  | with_reducible refine La.c_bmW ?_
  | with_reducible refine La.c_bm0W ?_
  | ((with_reducible apply La.bm_list); (focus (wtm_at "sql")))
  | ((with_reducible apply La.b_srt); (focus (wtm_at "sql")); intro p' hp'; change La.Free _ p' at hp')
  | ((with_reducible apply La.eqD_prs); (focus (wtm_at "prs")); (focus (wtm_at "prs")))
  | ((with_reducible apply La.neD_prs); (focus (wtm_at "prs")); (focus (wtm_at "prs")))
  | ((with_reducible apply La.b_srtP); (focus (wtm_at "prs")); intro p' ys' hp' hy'; change La.Free _ p' at hp')
  | with_reducible refine La.c_lrgW ?_
  | ((with_reducible apply La.rgW); (focus (wtm_at "len")); intro p' hp'; change La.Free _ p' at hp')
  | ((with_reducible apply La.rep_int); (focus (wtm_at "look")); (focus (wtm_at "len")); intro p' hp'; change La.Free _ p' at hp')
  | ((with_reducible apply La.catA_ints); (focus (wtm_at "look")); (focus (wtm_at "look")); (focus (wtm_at "len")); intro p' Hn' hs' hk')
  | with_reducible refine La.g_setW ?_
  | ((with_reducible apply La.setW_int); (focus (wtm_at "lki")); (focus (wtm_at "nn")); (focus (wtm_at "ilen")))
  | ((with_reducible apply La.m_appendI); (focus (wtm_at "lki")); (focus (wtm_at "len")))
  | ((with_reducible apply La.m_reverseI); (focus (wtm_at "look")))
  | ((with_reducible apply La.m_append); (focus (wtm_at "look")); (focus (wtm_at "len")))
  | ((with_reducible apply La.m_reverse); (focus (wtm_at "look")))
  | ((with_reducible apply La.m_clear); (focus (wtm_at "look")))
  | with_reducible refine La.g_name ?_
  | ((with_reducible apply La.ifF); (focus (simp; done)))
  | ((with_reducible apply La.ifT); (focus (simp; done))))
local macro_rules | `(tactic| wtm_at "pure") => `(tactic| (intro H1' h1'; (wtm_at "ev"); (refine ⟨rfl, ?_⟩); (wtm_at "same")))
local macro_rules | `(tactic| wtm_at "ev") => `(tactic| repeat (wtm_at "e1"))
local macro_rules | `(tactic| wtm_at "fin") => `(tactic| first
  | assumption
  | (refine ⟨_, ?_, by assumption⟩; wtm_at "same"))
local macro_rules | `(tactic| wtm_at "ixL") => `(tactic| ((with_reducible apply La.r_ixL); (wtm_at "sql")))
local macro_rules | `(tactic| wtm_at "ixT") => `(tactic| ((with_reducible apply La.r_ixT); (wtm_at "sqt")))
local macro_rules | `(tactic| wtm_at "no") => `(tactic| first | (refine La.ifF ?_ ?_; (focus (simp)); (wtm_at "ev")) | skip)
local macro_rules | `(tactic| wtm_at "yes") => `(tactic| first | (refine La.ifT ?_ ?_; (focus (simp)); (wtm_at "ev")) | skip)
local macro_rules | `(tactic| wtm_at "free") => `(tactic| first
  | with_reducible assumption
  | (change La.Free _ _; wtm_at "fre"))
local macro_rules | `(tactic| wtm_at "ret") => `(tactic| (refine La.up_new (by assumption) ?_ ?_ ?_; (focus (wtm_at "same")); (focus (wtm_at "free")); (focus (first | exact L2.upd_same | (wtm_at "look")))))
local macro_rules | `(tactic| wtm_at "pick") => `(tactic| ((with_reducible apply La.ixL_pick); (focus (wtm_at "sql")); (focus (first | omega | (simp; omega))); (focus (first | omega | (simp; omega) | simp))))
local macro_rules | `(tactic| wtm_at "each") => `(tactic| first
  | (refine La.s_eachL ⟨_, rfl⟩ ?_; (wtm_at "ev"); refine ⟨_, _, rfl, (by wtm_at "sql"), ?_, ?_⟩)
  | (refine La.s_eachT ⟨_, rfl⟩ ?_; (wtm_at "ev"); refine ⟨_, _, rfl, (by wtm_at "sqt"), ?_, ?_⟩)
  | (refine La.s_eachR ⟨_, rfl⟩ ?_; (wtm_at "ev"); refine ⟨_, rfl, (by omega), (by omega), ?_, ?_⟩))

section
variable {Pg : Program} {w : World} {K : PySem.W.Frag} {mg : Str → Option Value} {base : Heap} {A : Ad}
def cellAt (ns : List Int) (k : Nat) : Int := ns.getD k 0
def P_l_cell_at (K : PySem.W.Frag) : PK' := fun vs H Q E => ∃ (a : Addr) (ns : List Int) (k : Nat), vs = [.ref a, .int (k : Int)] ∧ SqL K H a (ns.map V.int) ∧ Q (.int (cellAt ns k)) H
def cellI (ns : List Int) (k : Int) : Int := cellAt ns k.toNat
theorem use_l_cell_at {a : Addr} {ns : List Int} {k : Int} {H : Hp} {Q : VK} {E : XK} (hS : SqL K H a (ns.map V.int)) (hk : 0 ≤ k) (q : Q (.int (cellI ns k)) H) : P_l_cell_at K ([V.ref a, .int k] ++ []) H Q E := ⟨a, ns, k.toNat, by rw [Int.toNat_of_nonneg hk]; rfl, hS, q⟩
local macro_rules | `(tactic| wtm_at "e1") => `(tactic| ((with_reducible apply Ll.use_l_cell_at); (focus (wtm_at "sql")); (focus (first | decide | omega))))
theorem ok_l_cell_at (T : Txt K mg A) : FnOk Pg w K mg base CX0 1 A.f_l_cell_at A.d_l_cell_at ["_law_script", "_law_k"] (spc (P_l_cell_at K)) := by
  refine ok_of T.F_l_cell_at sc_l_cell_at (fun vs H Q E h => ?_) (fun cdv A' outer s H' E' vs H Q E hr h => ?_)
  · obtain ⟨a, ns, k, rfl, _⟩ := h
    rfl
  · obtain ⟨a, ns, k, rfl, hS, q⟩ := h
    refine ⟨_, (pss_cons (ps_if (pt_cmpR op_lt (pv 1) (pe_callB (call_lenK (K := K) rfl) (by rfl) T.n_len PySem.boot_len (pa_cons (pv 0) pa_nil)) (nomark _)) (pss_one (ps_ret (pe_ix (ix_listK (K := K) rfl) (pv 0) (pv 1) (fun _ _ => rfl)))) pss_nil)
      (pss_one (ps_ret pe_int))), ?_⟩
    try dsimp only [L2.cxOf, L2.Cx.nox, L2.Cx.wish]
    show S _ _ _ _ _ [some (.ref a), some (.int (k : Int))] H
    wtm_at "ev"
    refine ifd (fun h => ?_) (fun h => ?_)
    · wtm_at "ev"
      exact ⟨_, Same.refl _, q⟩
    · wtm_at "ev"
      have e : cellAt ns k = 0 := by
        unfold cellAt
        rw [List.getD_eq_getElem?_getD, List.getElem?_eq_none (by omega)]
        rfl
      rw [e] at q
      exact ⟨_, by wtm_at "same", q⟩
def P_l_whole : PK' := fun vs H Q E => ∃ i : Int, vs = [.int i] ∧ Q (.bl true) H
theorem use_l_whole {i : Int} {H : Hp} {Q : VK} {E : XK} (q : Q (.bl true) H) : P_l_whole ([V.int i] ++ []) H Q E := ⟨i, rfl, q⟩
local macro_rules | `(tactic| wtm_at "e1") => `(tactic| with_reducible refine Ll.use_l_whole ?_)
theorem ok_l_whole (T : Txt K mg A) : FnOk Pg w K mg base CX0 1 A.f_l_whole A.d_l_whole ["_law_found"] (spc P_l_whole) := by
  refine ok_of T.F_l_whole sc_l_whole (fun vs H Q E h => ?_) (fun cdv A' outer s H' E' vs H Q E hr h => ?_)
  · obtain ⟨i, rfl, _⟩ := h
    rfl
  · obtain ⟨i, rfl, q⟩ := h
    refine ⟨_, (pss_one (ps_ret (pe_and (pe_callB (call_isiK (K := K) rfl) (by rfl) T.n_isinstance (by decide +kernel) (pa_cons (pv 0) (pa_cons (pe_bltn (v := .ty "int") (by rfl) T.n_int (by decide +kernel) rfl) pa_nil))) (pe_one (pe_not (pe_callB (call_isiK (K := K) rfl) (by rfl) T.n_isinstance (by decide +kernel) (pa_cons (pv 0) (pa_cons (pe_bltn (v := .ty "bool") (by rfl) T.n_bool (by decide +kernel) rfl) pa_nil)))))))), ?_⟩
    try dsimp only [L2.cxOf, L2.Cx.nox, L2.Cx.wish]
    show S _ _ _ _ _ [some (.int i)] H
    wtm_at "ev"
    exact ⟨_, by wtm_at "same", q⟩
end

local macro_rules | `(tactic| wtm_at "e1") => `(tactic| ((with_reducible apply Ll.use_l_cell_at); (focus (wtm_at "sql")); (focus (first | decide | omega))))
local macro_rules | `(tactic| wtm_at "e1") => `(tactic| with_reducible refine Ll.use_l_whole ?_)
section
variable {Pg : Program} {w : World} {K : PySem.W.Frag} {mg : Str → Option Value} {base : Heap} {A : Ad}
/-- Ladder.__init__: what is handed, and the ways out -/
def P_init (K : PySem.W.Frag) (A : Ad) : PK' := fun vs H Q E => ∃ (x dx : Addr) (n : Int) (rv : V) (rs : List Int), vs = [.ref x, .int n, rv] ∧ H x = some (.ins A.c_Ladder dx []) ∧
  ((rv = .non ∧ rs = []) ∨ (∃ a, rv = .ref a ∧ SqL K H a (rs.map V.int)) ∨ (∃ a, rv = .ref a ∧ H a = some (.tup (rs.map V.int)))) ∧
  ((¬ (1 ≤ n ∧ n ≤ 100) ∧ E (.ref A.c_NoPost) none H) ∨ ((1 ≤ n ∧ n ≤ 100) ∧ (¬ ∀ r ∈ rs, 0 ≤ r ∧ r ≤ n - 2) ∧ E (.ref A.c_NoRung) none H) ∨
    ((1 ≤ n ∧ n ≤ 100) ∧ (∀ r ∈ rs, 0 ≤ r ∧ r ≤ n - 2) ∧ ∀ t Hn, (∀ b o, b ≠ x → H b = some o → Hn b = some o) → Hn x = some (.ins A.c_Ladder dx (lf n t)) → Hn t = some (.tup (rs.map V.int)) → Q .non Hn))
/-- the fields, behind the tests -/
theorem init_fields {Q : VK} {H Hb : Hp} {x dx : Addr} {n : Int} {rs : List Int} (hx : H x = some (.ins A.c_Ladder dx [])) (e : Same H Hb) {t : Addr} (ht : Hb t = some (.tup (rs.map V.int)))
    (q : ∀ t Hn, (∀ b o, b ≠ x → H b = some o → Hn b = some o) → Hn x = some (.ins A.c_Ladder dx (lf n t)) → Hn t = some (.tup (rs.map V.int)) → Q .non Hn) : UpV Q .non (upd (upd Hb x (.ins A.c_Ladder dx (putF "posts" (.int n) []))) x (.ins A.c_Ladder dx (putF "rungs" (.ref t) (putF "posts" (.int n) [])))) := by
  refine ⟨_, Same.refl _, q t _ (fun b o hb h => ?_) ?_ ?_⟩
  · rw [upd_ne hb, upd_ne hb]
    exact e _ _ h
  · rw [upd_same, lf_make]
  · have hx2 := e _ _ hx
    have ne : t ≠ x := fun z => by
      rw [z, hx2] at ht
      cases ht
    rw [upd_ne ne, upd_ne ne]
    exact ht
theorem ok_init (T : Txt K mg A) : FnOk Pg w K mg base (L2.CX Pg w) 1 A.f_init A.d_init ["self", "posts", "rungs"] (spc (P_init K A)) := by
  refine okDX_of T.F_init sc_init (fun vs H Q E h => ?_) (fun cdv A' outer s H' E' vs H Q E hr hE h => ?_)
  · obtain ⟨x, dx, n, rv, rs, rfl, _⟩ := h
    rfl
  · obtain ⟨x, dx, n, rv, rs, rfl, hx, hrv, hw⟩ := h
    have bad : ∀ {r : Int}, r ∈ rs → (r < 0 ∨ n - 2 < r) → ¬ ∀ r ∈ rs, 0 ≤ r ∧ r ≤ n - 2 := fun hr hb h => by
      have := h _ hr
      omega
    have hL : (rv = .non ∧ rs = []) ∨ (∃ a, rv = .ref a ∧ SqL K H a (rs.map V.int)) → ∃ t, PSs (cxOf (L2.CX Pg w) Pg w K mg base ["self", "posts", "rungs", "rung"] "Ladder.__init__" (defScope s_init) A.f_init cdv A' outer s H' E') (defBody s_init) t ∧ S t (fun _ H => UpV Q .non H) (UpV Q) (fun _ _ => False) (fun _ _ => False) (start ["self", "posts", "rungs", "rung"] [.ref x, .int n, rv]) H := by
      intro hrv
      refine ⟨_, (pss_cons (ps_if (PW.pt (pw_or (pt_cmpR op_lt (pv 1) pe_int (nomark _)) (pw_or1 (pt_cmpR op_gt1 (pv 1) (pe_globI rfl T.g_MOST) (nomark _))))) (pss_one (ps_raise0 rfl (takes_of rfl rfl rfl rfl) PySem.F.excBase_ValueError T.x_NoPost T.g_NoPost T.k_NoPost (raises_own T.bs_NoPost T.ty_NoPost))) pss_nil)
      (pss_cons (ps_if (pt_cmpR op_isN1 (pv 2) pe_non (nomark _)) (pss_one (ps_set (i := 2) sc_init.nd rfl (Or.inl rfl) (pe_lst pa_nil))) pss_nil)
      (pss_cons (ps_for (passes_of rfl) rfl (pi_list (pv 2)) (pg_name (i := 3) sc_init.nd rfl (Or.inl rfl))
      (pss_one (ps_if (PW.pt (pw_or (pt_cmpR op_lt (pv 3) pe_int (nomark _)) (pw_or1 (pt_cmpR op_gt1 (pv 3) (pe_op op_sub (pv 1) pe_int) (nomark _))))) (pss_one (ps_raise0 rfl (takes_of rfl rfl rfl rfl) PySem.F.excBase_ValueError T.x_NoRung T.g_NoRung T.k_NoRung (raises_own T.bs_NoRung T.ty_NoRung))) pss_nil)))
      (pss_cons (ps_fld (pv 0) (pv 1) rfl)
      (pss_one (ps_fld (pv 0) (pe_callTy (call_tupK (K := K) rfl) (by rfl) T.n_tuple (by decide +kernel) (pa_cons (pv 2) pa_nil)) rfl)))))), ?_⟩
      try dsimp only [L2.cxOf, L2.Cx.nox, L2.Cx.wish]
      show S _ _ _ _ _ [some (.ref x), some (.int n), some rv, none] H
      wtm_at "ev"
      refine if2 (fun hb => ?_) (fun hb => ?_)
      · rcases hw with ⟨_, hq⟩ | ⟨hn, _⟩ | ⟨hn, _⟩
        · refine s_raise0 ?_
          exact fun H1 e1 => hE _ _ _ _ hq e1
        · simp at hb
          omega
        · simp at hb
          omega
      simp only [Bool.or_eq_false_iff, decide_eq_false_iff_not] at hb
      have hn : 1 ≤ n ∧ n ≤ 100 := by omega
      refine s_next ?_
      refine s_seq ?_
      refine s_cut (fun σ' Hb => ∃ a, σ' = [some (.ref x), some (.int n), some (.ref a), none] ∧ Same H Hb ∧ SqL K Hb a (rs.map V.int)) ?_ ?_
      · refine s_if ?_
        wtm_at "ev"
        rcases hrv with ⟨rfl, rfl⟩ | ⟨a, rfl, ha⟩
        · refine ifT (by decide) ?_
          wtm_at "ev"
          exact ⟨_, rfl, by wtm_at "same", SqL.of upd_same⟩
        · refine ifF (decide_eq_false (by intro q; cases q)) ?_
          wtm_at "ev"
          exact ⟨a, rfl, Same.refl _, ha⟩
      rintro σ0 Hb ⟨a, rfl, e, ha⟩
      wtm_at "ev"
      refine s_forL ?_
      wtm_at "ev"
      refine ⟨a, _, rfl, ha, fun i σ' Hc => ∃ v, σ' = [some (.ref x), some (.int n), some (.ref a), v] ∧ Hc = Hb ∧ ∀ r ∈ rs.take i, 0 ≤ r ∧ r ≤ n - 2, ⟨_, rfl, rfl, by simp⟩, ?_, ?_, ?_⟩
      · rintro i σ' Hc _ ⟨v, rfl, rfl, _⟩
        exact ha
      · rintro i y σ' Hc hy ⟨v, rfl, rfl, hok⟩
        rw [List.getElem?_map] at hy
        obtain ⟨r, hr0, rfl⟩ := Option.map_eq_some_iff.mp hy
        wtm_at "ev"
        have hmem : r ∈ rs := List.mem_of_getElem? hr0
        refine if2 (fun hb => ?_) (fun hb => ?_)
        · simp only [Bool.or_eq_true, decide_eq_true_eq] at hb
          rcases hw with ⟨hn', _⟩ | ⟨_, _, hq⟩ | ⟨_, hg, _⟩
          · exact absurd hn hn'
          · refine s_raise0 ?_
            exact fun H1 e1 => hE _ _ _ _ hq (e.trans e1)
          · exact absurd hg (bad hmem hb)
        · simp only [Bool.or_eq_false_iff, decide_eq_false_iff_not] at hb
          wtm_at "ev"
          refine ⟨_, rfl, rfl, fun z hz => ?_⟩
          rw [List.take_add_one, hr0] at hz
          rcases List.mem_append.mp hz with hz | hz
          · exact hok z hz
          · have : z = r := by simpa using hz
            subst this
            omega
      · rintro σ' Hc ⟨v, rfl, rfl, hok⟩
        rw [List.length_map, List.take_length] at hok
        rcases hw with ⟨hn', _⟩ | ⟨_, hg, _⟩ | ⟨_, _, hq⟩
        · exact absurd hn hn'
        · exact absurd hok hg
        wtm_at "ev"
        refine s_fld ?_
        wtm_at "ev"
        have hx2 := e _ _ hx
        refine ⟨x, A.c_Ladder, dx, [], rfl, hx2, T.cl, T.nP, by decide, ?_⟩
        refine s_fld ?_
        wtm_at "ev"
        have ha' : SqL K (upd Hc x (.ins A.c_Ladder dx (putF "posts" (.int n) []))) a (rs.map V.int) := by
          rcases ha with (h | ⟨o, h⟩) | h
          · refine .inl (.inl ?_)
            rw [upd_ne (ne_of h hx2 (by intro q; cases q))]
            exact h
          · refine .inl (.inr ⟨o, ?_⟩)
            rw [upd_ne (ne_of h hx2 (by intro q; cases q))]
            exact h
          · exact .inr h
        refine b_tupL ha' fun t ht => ?_
        wtm_at "ev"
        have nxt : x ≠ t := fun z => by
          rw [← z, upd_same] at ht
          cases ht
        refine ⟨x, A.c_Ladder, dx, _, rfl, by rw [upd_ne nxt, upd_same], T.cl, T.nR, (by show 1 < 1000; decide), ?_⟩
        have sw : upd (upd (upd Hc x (.ins A.c_Ladder dx (putF "posts" (.int n) []))) t (.tup (rs.map V.int))) x (.ins A.c_Ladder dx (putF "rungs" (.ref t) (putF "posts" (.int n) []))) =
            upd (upd (upd Hc t (.tup (rs.map V.int))) x (.ins A.c_Ladder dx (putF "posts" (.int n) []))) x (.ins A.c_Ladder dx (putF "rungs" (.ref t) (putF "posts" (.int n) []))) := by
          funext b
          unfold upd
          split <;> rfl
        rw [sw]
        have htb : Hc t = none := by
          rw [upd_ne nxt.symm] at ht
          exact ht
        exact init_fields hx (e.trans (same_new htb)) upd_same hq
    rcases hrv with hrv | hrv | ⟨a, rfl, ha⟩
    · exact hL (.inl hrv)
    · exact hL (.inr hrv)
    refine ⟨_, (pss_cons (ps_if (PW.pt (pw_or (pt_cmpR op_lt (pv 1) pe_int (nomark _)) (pw_or1 (pt_cmpR op_gt1 (pv 1) (pe_globI rfl T.g_MOST) (nomark _))))) (pss_one (ps_raise0 rfl (takes_of rfl rfl rfl rfl) PySem.F.excBase_ValueError T.x_NoPost T.g_NoPost T.k_NoPost (raises_own T.bs_NoPost T.ty_NoPost))) pss_nil)
      (pss_cons (ps_if (pt_cmpR op_isN1 (pv 2) pe_non (nomark _)) (pss_one (ps_set (i := 2) sc_init.nd rfl (Or.inl rfl) (pe_lst pa_nil))) pss_nil)
      (pss_cons (ps_for (passes_of rfl) rfl (pi_tup (pv 2)) (pg_name (i := 3) sc_init.nd rfl (Or.inl rfl))
      (pss_one (ps_if (PW.pt (pw_or (pt_cmpR op_lt (pv 3) pe_int (nomark _)) (pw_or1 (pt_cmpR op_gt1 (pv 3) (pe_op op_sub (pv 1) pe_int) (nomark _))))) (pss_one (ps_raise0 rfl (takes_of rfl rfl rfl rfl) PySem.F.excBase_ValueError T.x_NoRung T.g_NoRung T.k_NoRung (raises_own T.bs_NoRung T.ty_NoRung))) pss_nil)))
      (pss_cons (ps_fld (pv 0) (pv 1) rfl)
      (pss_one (ps_fld (pv 0) (pe_callTy (call_tupK (K := K) rfl) (by rfl) T.n_tuple (by decide +kernel) (pa_cons (pv 2) pa_nil)) rfl)))))), ?_⟩
    try dsimp only [L2.cxOf, L2.Cx.nox, L2.Cx.wish]
    show S _ _ _ _ _ [some (.ref x), some (.int n), some (.ref a), none] H
    wtm_at "ev"
    refine if2 (fun hb => ?_) (fun hb => ?_)
    · rcases hw with ⟨_, hq⟩ | ⟨hn, _⟩ | ⟨hn, _⟩
      · refine s_raise0 ?_
        exact fun H1 e1 => hE _ _ _ _ hq e1
      · simp at hb
        omega
      · simp at hb
        omega
    simp only [Bool.or_eq_false_iff, decide_eq_false_iff_not] at hb
    have hn : 1 ≤ n ∧ n ≤ 100 := by omega
    wtm_at "ev"
    refine s_forT ?_
    wtm_at "ev"
    refine ⟨a, _, rfl, SqT.of ha, fun i σ' Hc => ∃ v, σ' = [some (.ref x), some (.int n), some (.ref a), v] ∧ Hc = H ∧ ∀ r ∈ rs.take i, 0 ≤ r ∧ r ≤ n - 2, ⟨_, rfl, rfl, by simp⟩, ?_, ?_, ?_⟩
    · rintro i σ' Hc _ ⟨v, rfl, rfl, _⟩
      exact SqT.of ha
    · rintro i y σ' Hc hy ⟨v, rfl, rfl, hok⟩
      rw [List.getElem?_map] at hy
      obtain ⟨r, hr0, rfl⟩ := Option.map_eq_some_iff.mp hy
      wtm_at "ev"
      have hmem : r ∈ rs := List.mem_of_getElem? hr0
      refine if2 (fun hb => ?_) (fun hb => ?_)
      · simp only [Bool.or_eq_true, decide_eq_true_eq] at hb
        rcases hw with ⟨hn', _⟩ | ⟨_, _, hq⟩ | ⟨_, hg, _⟩
        · exact absurd hn hn'
        · refine s_raise0 ?_
          exact fun H1 e1 => hE _ _ _ _ hq e1
        · exact absurd hg (bad hmem hb)
      · simp only [Bool.or_eq_false_iff, decide_eq_false_iff_not] at hb
        wtm_at "ev"
        refine ⟨_, rfl, rfl, fun z hz => ?_⟩
        rw [List.take_add_one, hr0] at hz
        rcases List.mem_append.mp hz with hz | hz
        · exact hok z hz
        · have : z = r := by simpa using hz
          subst this
          omega
    · rintro σ' Hc ⟨v, rfl, rfl, hok⟩
      rw [List.length_map, List.take_length] at hok
      rcases hw with ⟨hn', _⟩ | ⟨_, hg, _⟩ | ⟨_, _, hq⟩
      · exact absurd hn hn'
      · exact absurd hok hg
      wtm_at "ev"
      refine s_fld ?_
      wtm_at "ev"
      refine ⟨x, A.c_Ladder, dx, [], rfl, hx, T.cl, T.nP, by decide, ?_⟩
      refine s_fld ?_
      wtm_at "ev"
      have ha' : (upd Hc x (.ins A.c_Ladder dx (putF "posts" (.int n) []))) a = some (.tup (rs.map V.int)) := by
        rw [upd_ne (ne_of ha hx (by intro q; cases q))]
        exact ha
      refine b_tupT (SqT.of ha') ?_
      wtm_at "ev"
      refine ⟨x, A.c_Ladder, dx, _, rfl, upd_same, T.cl, T.nR, (by show 1 < 1000; decide), ?_⟩
      exact init_fields hx (Same.refl _) ha hq
end


section
variable {Pg : Program} {w : World} {K : PySem.W.Frag} {mg : Str → Option Value} {base : Heap} {A : Ad} {σ : L2.St} {H : Hp} {ta : TA} {Q : VK}
/-- Ladder(..) of good posts and rungs -/
theorem c_ladder {dvs : List V} {E : XK} (h : Cl (ta σ) H fun vs H1 => ∃ (n : Int) (rv : V) (rs : List Int), vs ++ dvs = [.int n, rv] ∧
      ((rv = .non ∧ rs = []) ∨ (∃ a, rv = .ref a ∧ SqL K H1 a (rs.map V.int)) ∨ (∃ a, rv = .ref a ∧ H1 a = some (.tup (rs.map V.int)))) ∧ (1 ≤ n ∧ n ≤ 100) ∧ (∀ r ∈ rs, 0 ≤ r ∧ r ≤ n - 2) ∧
      ∀ p Hn, H1 p = none → Same H1 Hn → Lad K A.c_Ladder Hn p n rs → Q (.ref p) Hn) : Cl (tMake A.c_Ladder (spc (P_init K A)) dvs E ta σ) H Q := by
  refine c_make (cl_mono h fun vs H1 ⟨n, rv, rs, ev, hrv, hn, hg, q⟩ x dx hx hdx ne => ?_)
  have sm : Same H1 (upd (upd H1 dx (.own x)) x (.ins A.c_Ladder dx [])) := fun b o hb => by
    rw [upd_ne (ne_of_none hb hx), upd_ne (ne_of_none hb hdx)]
    exact hb
  refine ⟨x, dx, n, rv, rs, by rw [ev], upd_same, ?_, .inr (.inr ⟨hn, hg, fun t Hn keep hxn ht => ⟨rfl, q x Hn hx (fun b o hb => keep b o (ne_of_none hb hx) (sm _ _ hb)) ⟨dx, t, hxn, ht⟩⟩⟩)⟩
  rcases hrv with hrv | ⟨a, e1, h1⟩ | ⟨a, e1, h1⟩
  · exact .inl hrv
  · exact .inr (.inl ⟨a, e1, sm.seq h1⟩)
  · exact .inr (.inr ⟨a, e1, sm _ _ h1⟩)
/-- what is wished of Ladder(..) of good posts and rungs -/
def LadW (K : PySem.W.Frag) (A : Ad) (dvs : List V) (Q : VK) (vs : List V) (H1 : Hp) : Prop := ∃ (n : Int) (rv : V) (rs : List Int), vs ++ dvs = [.int n, rv] ∧
      ((rv = .non ∧ rs = []) ∨ (∃ a, rv = .ref a ∧ SqL K H1 a (rs.map V.int)) ∨ (∃ a, rv = .ref a ∧ H1 a = some (.tup (rs.map V.int)))) ∧ (1 ≤ n ∧ n ≤ 100) ∧ (∀ r ∈ rs, 0 ≤ r ∧ r ≤ n - 2) ∧
      ∀ p Hn, H1 p = none → Same H1 Hn → Lad K A.c_Ladder Hn p n rs → Q (.ref p) Hn
theorem c_ladW {dvs : List V} {E : XK} (h : Cl (ta σ) H fun vs H1 => LadW K A dvs Q vs H1) : Cl (tMake A.c_Ladder (spc (P_init K A)) dvs E ta σ) H Q := c_ladder h
theorem ladW_list {a : Addr} {n : Int} {rs : List Int} (hS : SqL K H a (rs.map V.int)) (hn : 1 ≤ n ∧ n ≤ 100) (hr : ∀ r ∈ rs, 0 ≤ r ∧ r ≤ n - 2) (q : ∀ p Hn, H p = none → Same H Hn → Lad K A.c_Ladder Hn p n rs → Q (.ref p) Hn) : LadW K A [] Q [.int n, .ref a] H := ⟨n, _, rs, rfl, .inr (.inl ⟨a, rfl, hS⟩), hn, hr, q⟩
theorem ladW_tup {a : Addr} {n : Int} {rs : List Int} (hS : H a = some (.tup (rs.map V.int))) (hn : 1 ≤ n ∧ n ≤ 100) (hr : ∀ r ∈ rs, 0 ≤ r ∧ r ≤ n - 2) (q : ∀ p Hn, H p = none → Same H Hn → Lad K A.c_Ladder Hn p n rs → Q (.ref p) Hn) : LadW K A [] Q [.int n, .ref a] H := ⟨n, _, rs, rfl, .inr (.inr ⟨a, rfl, hS⟩), hn, hr, q⟩
theorem ladW_non {n : Int} (hn : 1 ≤ n ∧ n ≤ 100) (q : ∀ p Hn, H p = none → Same H Hn → Lad K A.c_Ladder Hn p n [] → Q (.ref p) Hn) : LadW K A [] Q [.int n, .non] H := ⟨n, _, [], rfl, .inl ⟨rfl, rfl⟩, hn, fun _ h => (nomatch h), q⟩
theorem ladW_no {n : Int} (hn : 1 ≤ n ∧ n ≤ 100) (q : ∀ p Hn, H p = none → Same H Hn → Lad K A.c_Ladder Hn p n [] → Q (.ref p) Hn) : LadW K A [.non] Q [.int n] H := ⟨n, _, [], rfl, .inl ⟨rfl, rfl⟩, hn, fun _ h => (nomatch h), q⟩
local macro_rules | `(tactic| wtm_at "ok") => `(tactic| first | assumption | (intro r hr; cases hr; done) | omega)
local macro_rules | `(tactic| wtm_at "e1") => `(tactic| with_reducible refine Ll.c_ladW ?_)
local macro_rules | `(tactic| wtm_at "e1") => `(tactic| ((with_reducible apply Ll.ladW_list); (focus (wtm_at "sql")); (focus (wtm_at "ok")); (focus (wtm_at "ok")); intro p' Hn' hp' hs' hl'; change La.Free _ p' at hp'))
local macro_rules | `(tactic| wtm_at "e1") => `(tactic| ((with_reducible apply Ll.ladW_tup); (focus (wtm_at "look")); (focus (wtm_at "ok")); (focus (wtm_at "ok")); intro p' Hn' hp' hs' hl'; change La.Free _ p' at hp'))
local macro_rules | `(tactic| wtm_at "e1") => `(tactic| ((with_reducible apply Ll.ladW_non); (focus (wtm_at "ok")); intro p' Hn' hp' hs' hl'; change La.Free _ p' at hp'))
local macro_rules | `(tactic| wtm_at "e1") => `(tactic| ((with_reducible apply Ll.ladW_no); (focus (wtm_at "ok")); intro p' Hn' hp' hs' hl'; change La.Free _ p' at hp'))
/-- Ladder(..) that is refused, within a try -/
theorem c_ladderBad {dvs : List V} {Es : L2.St → XK} (h : Cl (ta σ) H fun vs H1 => ∃ (n : Int) (rv : V) (rs : List Int), vs ++ dvs = [.int n, rv] ∧
      ((rv = .non ∧ rs = []) ∨ (∃ a, rv = .ref a ∧ SqL K H1 a (rs.map V.int)) ∨ (∃ a, rv = .ref a ∧ H1 a = some (.tup (rs.map V.int)))) ∧
      ∃ E1 : XK, LeX E1 (Es σ) ∧ ((¬ (1 ≤ n ∧ n ≤ 100) ∧ E1 (.ref A.c_NoPost) none H1) ∨ ((1 ≤ n ∧ n ≤ 100) ∧ (¬ ∀ r ∈ rs, 0 ≤ r ∧ r ≤ n - 2) ∧ E1 (.ref A.c_NoRung) none H1))) : Cl (tMakeS A.c_Ladder (spc (P_init K A)) dvs Es ta σ) H Q := by
  refine c_makeS (cl_mono h fun vs H1 ⟨n, rv, rs, ev, hrv, E1, hE, hb⟩ x dx hx hdx ne => ?_)
  have sm : Same H1 (upd (upd H1 dx (.own x)) x (.ins A.c_Ladder dx [])) := fun b o hb => by
    rw [upd_ne (ne_of_none hb hx), upd_ne (ne_of_none hb hdx)]
    exact hb
  refine ⟨fun c d Hx => ∃ H0, Same H0 Hx ∧ E1 c d H0, fun c d Ha Hb ⟨H0, e0, q⟩ e => hE c d _ _ q (e0.trans e), x, dx, n, rv, rs, by rw [ev], upd_same, ?_, ?_⟩
  · rcases hrv with hrv | ⟨a, e1, h1⟩ | ⟨a, e1, h1⟩
    · exact .inl hrv
    · exact .inr (.inl ⟨a, e1, sm.seq h1⟩)
    · exact .inr (.inr ⟨a, e1, sm _ _ h1⟩)
  · rcases hb with ⟨h1, q⟩ | ⟨h1, h2, q⟩
    · exact .inl ⟨h1, _, sm, q⟩
    · exact .inr (.inl ⟨h1, h2, _, sm, q⟩)
end

local macro_rules | `(tactic| wtm_at "ok") => `(tactic| first | assumption | (intro r hr; cases hr; done) | omega)
local macro_rules | `(tactic| wtm_at "e1") => `(tactic| with_reducible refine Ll.c_ladW ?_)
local macro_rules | `(tactic| wtm_at "e1") => `(tactic| ((with_reducible apply Ll.ladW_list); (focus (wtm_at "sql")); (focus (wtm_at "ok")); (focus (wtm_at "ok")); intro p' Hn' hp' hs' hl'; change La.Free _ p' at hp'))
local macro_rules | `(tactic| wtm_at "e1") => `(tactic| ((with_reducible apply Ll.ladW_tup); (focus (wtm_at "look")); (focus (wtm_at "ok")); (focus (wtm_at "ok")); intro p' Hn' hp' hs' hl'; change La.Free _ p' at hp'))
local macro_rules | `(tactic| wtm_at "e1") => `(tactic| ((with_reducible apply Ll.ladW_non); (focus (wtm_at "ok")); intro p' Hn' hp' hs' hl'; change La.Free _ p' at hp'))
local macro_rules | `(tactic| wtm_at "e1") => `(tactic| ((with_reducible apply Ll.ladW_no); (focus (wtm_at "ok")); intro p' Hn' hp' hs' hl'; change La.Free _ p' at hp'))
section
variable {Pg : Program} {w : World} {K : PySem.W.Frag} {mg : Str → Option Value} {base : Heap} {A : Ad}
/-- a list that is an outcome -/
def isOut (ns : List Int) : Bool := if (decide (ns.length < 1) || decide (100 < ns.length)) = true then false else decide (Lm.srt ns = Lm.tab ns.length id)
def P_is_outcome (K : PySem.W.Frag) : PK' := fun vs H Q E => ∃ (a : Addr) (ns : List Int), vs = [.ref a] ∧ SqL K H a (ns.map V.int) ∧ ns.length ≤ 100000 ∧ Q (.bl (isOut ns)) H
theorem use_is_outcome {a : Addr} {ns : List Int} {H : Hp} {Q : VK} {E : XK} (hS : SqL K H a (ns.map V.int)) (hz : ns.length ≤ 100000) (q : Q (.bl (isOut ns)) H) : P_is_outcome K ([V.ref a] ++ []) H Q E := ⟨a, ns, rfl, hS, hz, q⟩
local macro_rules | `(tactic| wtm_at "e1") => `(tactic| ((with_reducible apply Ll.use_is_outcome); (focus (wtm_at "sql")); (focus (wtm_at "len"))))
theorem ok_is_outcome (T : Txt K mg A) : FnOk Pg w K mg base CX0 1 A.f_is_outcome A.d_is_outcome ["some"] (spc (P_is_outcome K)) := by
  refine ok_of T.F_is_outcome sc_is_outcome (fun vs H Q E h => ?_) (fun cdv A' outer s H' E' vs H Q E hr h => ?_)
  · obtain ⟨a, ns, rfl, _⟩ := h
    rfl
  · obtain ⟨a, ns, rfl, hS, hz, q⟩ := h
    refine ⟨_, (pss_cons (ps_if (PW.pt (pw_or (pt_cmpR op_lt (pe_callB (call_lenK (K := K) rfl) (by rfl) T.n_len PySem.boot_len (pa_cons (pv 0) pa_nil)) pe_int (nomark _)) (pw_or1 (pt_cmpR op_gt1 (pe_callB (call_lenK (K := K) rfl) (by rfl) T.n_len PySem.boot_len (pa_cons (pv 0) pa_nil)) (pe_globI rfl T.g_MOST) (nomark _))))) (pss_one (ps_ret pe_bl)) pss_nil)
      (pss_one (ps_ret (pe_cmpR (op_eqDK (K := K) rfl hr.units) (pe_callB (cr_sortedK (K := K) rfl) (by rfl) T.n_sorted (by decide +kernel) (pa_cons (pv 0) pa_nil)) (pe_listRg rfl (by rfl) T.n_list (prg_1 (by rfl) T.n_range (pe_callB (call_lenK (K := K) rfl) (by rfl) T.n_len PySem.boot_len (pa_cons (pv 0) pa_nil)))) (nomark _))))), ?_⟩
    try dsimp only [L2.cxOf, L2.Cx.nox, L2.Cx.wish]
    show S _ _ _ _ _ [some (.ref a)] H
    unfold isOut at q
    wtm_at "ev"
    refine if2 (fun hb => ?_) (fun hb => ?_)
    · have hb' : (decide (ns.length < 1) || decide (100 < ns.length)) = true := by
        simp only [Bool.or_eq_true, decide_eq_true_eq] at hb ⊢
        omega
      rw [if_pos hb'] at q
      wtm_at "ev"
      exact ⟨_, Same.refl _, q⟩
    · have hb' : ¬ (decide (ns.length < 1) || decide (100 < ns.length)) = true := by
        simp only [Bool.or_eq_false_iff, decide_eq_false_iff_not] at hb
        simp only [Bool.or_eq_true, decide_eq_true_eq]
        omega
      rw [if_neg hb'] at q
      wtm_at "ev"
      exact ⟨_, by wtm_at "same", q⟩
def xsF (ns : List Int) : Int → Int := fun i => ns.getD i.toNat 0
def P_must (K : PySem.W.Frag) (A : Ad) : PK' := fun vs H Q E => ∃ (a : Addr) (ns : List Int), vs = [.ref a] ∧ SqL K H a (ns.map V.int) ∧ ns.length ≤ 100000 ∧
  ((isOut ns = false ∧ E (.ref A.c_NoOutcome) none H) ∨ (isOut ns = true ∧ ∀ p Hn ys, Free H p → Same H Hn → Hn p = some (.lst ys) → PrA Hn ys (Lm.crossX (xsF ns) ns.length) → Q (.ref p) Hn))
theorem use_must {a : Addr} {ns : List Int} {H : Hp} {Q : VK} {E : XK} (hS : SqL K H a (ns.map V.int)) (hz : ns.length ≤ 100000) (ho : isOut ns = true) (q : ∀ p Hn ys, Free H p → Same H Hn → Hn p = some (.lst ys) → PrA Hn ys (Lm.crossX (xsF ns) ns.length) → Q (.ref p) Hn) : P_must K A ([V.ref a] ++ []) H Q E := ⟨a, ns, rfl, hS, hz, .inr ⟨ho, q⟩⟩
local macro_rules | `(tactic| wtm_at "e1") => `(tactic| ((with_reducible apply Ll.use_must); (focus (wtm_at "sql")); (focus (wtm_at "len")); (focus assumption); intro p' Hn' ys' hp' hs' hk' hy'))
theorem ok_must (T : Txt K mg A) : FnOk Pg w K mg base (L2.CX Pg w) 2 A.f_must A.d_must ["outcome"] (spc (P_must K A)) := by
  refine okX_of T.F_must sc_must (fun vs H Q E h => ?_) (fun cdv A' outer s H' E' vs H Q E hr hE h => ?_)
  · obtain ⟨a, ns, rfl, _⟩ := h
    rfl
  · obtain ⟨a, ns, rfl, hS, hz, hw⟩ := h
    refine ⟨_, (pss_cons (ps_if (pt_not (pt_val (pe_call (ok_is_outcome T) (hr.mono (by decide)) rfl T.g_is_outcome T.F_is_outcome.kp T.b_is_outcome .nil pass0 (pa_cons (pv 0) pa_nil)))) (pss_one (ps_raise0 rfl (takes_of rfl rfl rfl rfl) PySem.F.excBase_ValueError T.x_NoOutcome T.g_NoOutcome T.k_NoOutcome (raises_own T.bs_NoOutcome T.ty_NoOutcome))) pss_nil)
      (pss_cons (ps_set (i := 1) sc_must.nd rfl (Or.inl rfl) (pe_lst pa_nil))
      (pss_cons (ps_for (passes_of rfl) rfl (pi_range1 rfl T.n_range (pa_cons (pe_callB (call_lenK (K := K) rfl) (by rfl) T.n_len PySem.boot_len (pa_cons (pv 0) pa_nil)) pa_nil)) (pg_name (i := 2) sc_must.nd rfl (Or.inl rfl))
      (pss_one (ps_for (passes_of rfl) rfl (pi_range2 rfl T.n_range (pa_cons (pe_op op_add (pv 2) pe_int) (pa_cons (pe_callB (call_lenK (K := K) rfl) (by rfl) T.n_len PySem.boot_len (pa_cons (pv 0) pa_nil)) pa_nil))) (pg_name (i := 3) sc_must.nd rfl (Or.inl rfl))
      (pss_one (ps_if (pt_cmpR op_gt1 (pe_ix (ix_listK (K := K) rfl) (pv 0) (pv 2) (fun _ _ => rfl)) (pe_ix (ix_listK (K := K) rfl) (pv 0) (pv 3) (fun _ _ => rfl)) (nomark _)) (pss_one (ps_expr (pe_bm PySem.F.plainAttrs_list PySem.F.slot_list_append PySem.F.type_list_append mt_append (pv 1) (pa_cons (pe_tup (pa_cons (pv 2) (pa_cons (pv 3) pa_nil))) pa_nil)))) pss_nil)))))
      (pss_one (ps_ret (pv 1)))))), ?_⟩
    try dsimp only [L2.cxOf, L2.Cx.nox, L2.Cx.wish]
    show S _ _ _ _ _ [some (.ref a), none, none, none] H
    wtm_at "ev"
    refine if2 (fun hb => ?_) (fun hb => ?_)
    · rcases hw with ⟨_, hq⟩ | ⟨ho, _⟩
      · refine s_raise0 ?_
        exact fun H1 e1 => hE _ _ _ _ hq e1
      · rw [ho] at hb
        cases hb
    rcases hw with ⟨ho, _⟩ | ⟨ho, q⟩
    · rw [ho] at hb
      cases hb
    have hl : 1 ≤ ns.length ∧ ns.length ≤ 100 := by
      unfold isOut at ho
      split at ho
      · cases ho
      · rename_i h1
        simp only [Bool.or_eq_true, decide_eq_true_eq] at h1
        omega
    wtm_at "ev"
    rename_i p hp
    refine s_forR1 ?_
    wtm_at "ev"
    refine ⟨_, rfl, by omega, by omega, fun k σ' Hc => ∃ u v ys, σ' = [some (.ref a), some (.ref p), u, v] ∧ Same H Hc ∧ Hc p = some (.lst ys) ∧ ys.length ≤ 100 * k ∧ PrA Hc ys (Lm.crossN (xsF ns) ns.length k), ⟨_, _, [], rfl, by wtm_at "same", upd_same, Nat.zero_le _, .nil⟩, ?_, ?_⟩
    · rintro k σ' Hc hk ⟨u, v, ys, rfl, hs, hq, hly, hy⟩
      have hk' : k < ns.length := by omega
      refine s_forR2 ?_
      wtm_at "ev"
      refine ⟨_, _, rfl, by omega, fun m σ' Hc => ∃ v ys, σ' = [some (.ref a), some (.ref p), some (.int (k : Int)), v] ∧ Same H Hc ∧ Hc p = some (.lst ys) ∧ ys.length ≤ 100 * k + m ∧ PrA Hc ys (Lm.crossN (xsF ns) ns.length k ++ Lm.crossP (xsF ns) k m), ?_, ?_, ?_⟩
      · exact ⟨_, ys, rfl, hs, hq, by omega, by rw [Lm.crossP_zero, List.append_nil]; exact hy⟩
      · rintro i σ' Hc hi ⟨v, ys, rfl, hs, hq, hly, hy⟩
        have ec : ((k + 1 + i : Nat) : Int) = (k : Int) + 1 + i := by omega
        have e1 : xsF ns (k : Int) = ns.getD k 0 := by unfold xsF; rw [Int.toNat_natCast]
        have e2 : xsF ns ((k + 1 + i : Nat) : Int) = ns.getD ((k : Int) + 1 + i).toNat 0 := by unfold xsF; rw [ec]
        have hcp := Lm.crossP_succ (xsF ns) k i
        rw [e1, e2] at hcp
        wtm_at "ev"
        refine ifd (fun hlt => ?_) (fun hlt => ?_)
        · rw [if_pos hlt] at hcp
          wtm_at "ev"
          rename_i T hT
          refine ⟨_, _, rfl, ?_, upd_same, by rw [List.length_append]; show _ + 1 ≤ _; omega, ?_⟩
          · wtm_at "same"
          · rw [hcp, ← List.append_assoc]
            refine ((hy.new hT).mut (by wtm_at "look")).snoc ⟨T, rfl, ?_⟩
            show upd (upd Hc T (.tup [.int (k : Int), .int ((k : Int) + 1 + i)])) p _ T = some (.tup [.int (k : Int), .int ((k + 1 + i : Nat) : Int)])
            rw [ec]
            wtm_at "look"
        · rw [if_neg hlt, List.append_nil] at hcp
          wtm_at "ev"
          exact ⟨_, ys, rfl, hs, hq, by omega, by rw [hcp]; exact hy⟩
      · rintro σ' Hc ⟨v, ys, rfl, hs, hq, hly, hy⟩
        have en : ((ns.length : Int) - ((k : Int) + 1)).toNat = ns.length - (k + 1) := by omega
        rw [en] at hy hly
        exact ⟨_, _, ys, rfl, hs, hq, by omega, by rw [Lm.crossN_succ]; exact hy⟩
    · rintro σ' Hc ⟨u, v, ys, rfl, hs, hq, hly, hy⟩
      wtm_at "ev"
      exact ⟨_, Same.refl _, q _ _ _ hp hs hq (by rw [Int.toNat_natCast] at hy; exact hy)⟩
def P_met (K : PySem.W.Frag) (A : Ad) : PK' := fun vs H Q E => ∃ (x : Addr) (n : Nat) (rs : List Int), vs = [.ref x] ∧ Lad K A.c_Ladder H x (n : Int) rs ∧ n ≤ 1000 ∧ rs.length ≤ 100000 ∧ Lm.Ok (n : Int) rs ∧ ∀ p Hn ys, Free H p → Same H Hn → Hn p = some (.lst ys) → PrA Hn ys (Lm.metL rs) → Q (.ref p) Hn
theorem use_met {x : Addr} {n : Nat} {rs : List Int} {H : Hp} {Q : VK} {E : XK} (hL : Lad K A.c_Ladder H x (n : Int) rs) (hn : n ≤ 1000) (hz : rs.length ≤ 100000) (hok : Lm.Ok (n : Int) rs) (q : ∀ p Hn ys, Free H p → Same H Hn → Hn p = some (.lst ys) → PrA Hn ys (Lm.metL rs) → Q (.ref p) Hn) : P_met K A ([V.ref x] ++ []) H Q E := ⟨x, n, rs, rfl, hL, hn, hz, hok, q⟩
local macro_rules | `(tactic| wtm_at "e1") => `(tactic| ((with_reducible apply Ll.use_met); (focus (wtm_at "lad")); (focus (wtm_at "len")); (focus (wtm_at "len")); (focus (wtm_at "ok")); intro p' Hn' ys' hp' hs' hk' hy'))
end

local macro_rules | `(tactic| wtm_at "e1") => `(tactic| ((with_reducible apply Ll.use_is_outcome); (focus (wtm_at "sql")); (focus (wtm_at "len"))))
local macro_rules | `(tactic| wtm_at "e1") => `(tactic| ((with_reducible apply Ll.use_must); (focus (wtm_at "sql")); (focus (wtm_at "len")); (focus assumption); intro p' Hn' ys' hp' hs' hk' hy'))
local macro_rules | `(tactic| wtm_at "e1") => `(tactic| ((with_reducible apply Ll.use_met); (focus (wtm_at "lad")); (focus (wtm_at "len")); (focus (wtm_at "len")); (focus (wtm_at "ok")); intro p' Hn' ys' hp' hs' hk' hy'))
theorem isOut_perm {ns : List Int} (h : isOut ns = true) : Lm.Perm (xsF ns) ns.length ∧ 1 ≤ ns.length ∧ ns.length ≤ 100 := by
  unfold isOut at h
  split at h
  · cases h
  rename_i h1
  simp only [Bool.or_eq_true, decide_eq_true_eq] at h1
  have hs := of_decide_eq_true h
  have hp : ns.Perm (Lm.tab ns.length id) := by
    have := Lm.srt_perm ns
    rw [hs] at this
    exact this.symm
  have hnd : ns.Nodup := hp.nodup_iff.mpr (Lm.tab_nodup fun i j _ _ e => by have e' : (i : Int) = (j : Int) := e; omega)
  refine ⟨⟨fun p q h0 h1 h2 e => ?_, fun p h0 h1 => ?_⟩, by omega, by omega⟩
  · unfold xsF at e
    have hq : q.toNat < ns.length := by omega
    have hpl : p.toNat < ns.length := by omega
    rw [List.getD_eq_getElem?_getD, List.getElem?_eq_getElem hpl, List.getD_eq_getElem?_getD, List.getElem?_eq_getElem hq] at e
    have e' : ns[p.toNat] = ns[q.toNat] := e
    have := (List.getElem_inj hnd).mp e'
    omega
  · unfold xsF
    have hpl : p.toNat < ns.length := by omega
    rw [List.getD_eq_getElem?_getD, List.getElem?_eq_getElem hpl]
    obtain ⟨i, hi, e⟩ := Lm.mem_tab.mp (hp.mem_iff.mp (List.getElem_mem hpl))
    show 0 ≤ ns[p.toNat] ∧ ns[p.toNat] < _
    rw [← e]
    show 0 ≤ (i : Int) ∧ (i : Int) < _
    omega
section
variable {Pg : Program} {w : World} {K : PySem.W.Frag} {mg : Str → Option Value} {base : Heap} {A : Ad}
def P_standing (K : PySem.W.Frag) (A : Ad) : PK' := fun vs H Q E => ∃ (a : Addr) (ns : List Int), vs = [.ref a] ∧ SqL K H a (ns.map V.int) ∧ ns.length ≤ 100000 ∧
  ((isOut ns = false ∧ E (.ref A.c_NoOutcome) none H) ∨ (isOut ns = true ∧ ∀ p Hn, Free H p → Same H Hn → Lad K A.c_Ladder Hn p (ns.length : Int) (Lm.stdN (xsF ns) ns.length) → Q (.ref p) Hn))
theorem use_standing {a : Addr} {ns : List Int} {H : Hp} {Q : VK} {E : XK} (hS : SqL K H a (ns.map V.int)) (hz : ns.length ≤ 100000) (ho : isOut ns = true) (q : ∀ p Hn, Free H p → Same H Hn → Lad K A.c_Ladder Hn p (ns.length : Int) (Lm.stdN (xsF ns) ns.length) → Q (.ref p) Hn) : P_standing K A ([V.ref a] ++ []) H Q E := ⟨a, ns, rfl, hS, hz, .inr ⟨ho, q⟩⟩
local macro_rules | `(tactic| wtm_at "e1") => `(tactic| ((with_reducible apply Ll.use_standing); (focus (wtm_at "sql")); (focus (wtm_at "len")); (focus assumption); intro p' Hn' hp' hs' hl'))
theorem ok_standing (T : Txt K mg A) : FnOk Pg w K mg base (L2.CX Pg w) 3 A.f_standing A.d_standing ["outcome"] (spc (P_standing K A)) := by
  refine okX_of T.F_standing sc_standing (fun vs H Q E h => ?_) (fun cdv A' outer s H' E' vs H Q E hr hE h => ?_)
  · obtain ⟨a, ns, rfl, _⟩ := h
    rfl
  · obtain ⟨a, ns, rfl, hS, hz, hw⟩ := h
    refine ⟨_, (pss_cons (ps_if (pt_not (pt_val (pe_call (ok_is_outcome T) (hr.mono (by decide)) rfl T.g_is_outcome T.F_is_outcome.kp T.b_is_outcome .nil pass0 (pa_cons (pv 0) pa_nil)))) (pss_one (ps_raise0 rfl (takes_of rfl rfl rfl rfl) PySem.F.excBase_ValueError T.x_NoOutcome T.g_NoOutcome T.k_NoOutcome (raises_own T.bs_NoOutcome T.ty_NoOutcome))) pss_nil)
      (pss_cons (ps_set (i := 1) sc_standing.nd rfl (Or.inl rfl) (pe_lst pa_nil))
      (pss_cons (ps_for (passes_of rfl) rfl (pi_range2 rfl T.n_range (pa_cons pe_int (pa_cons (pe_callB (call_lenK (K := K) rfl) (by rfl) T.n_len PySem.boot_len (pa_cons (pv 0) pa_nil)) pa_nil))) (pg_name (i := 2) sc_standing.nd rfl (Or.inl rfl))
      (pss_cons (ps_set (i := 3) sc_standing.nd rfl (Or.inl rfl) (pe_op op_sub (pv 2) pe_int))
      (pss_one (ps_for (passes_of rfl) rfl (pi_list (pe_slice (sl_listK (K := K) rfl) (pv 0) po_none (po_some (pv 2)))) (pg_name (i := 4) sc_standing.nd rfl (Or.inl rfl))
      (pss_one (ps_if (pt_cmpR op_gt1 (pv 4) (pe_ix (ix_listK (K := K) rfl) (pv 0) (pv 2) (fun _ _ => rfl)) (nomark _)) (pss_cons (ps_expr (pe_bm PySem.F.plainAttrs_list PySem.F.slot_list_append PySem.F.type_list_append mt_append (pv 1) (pa_cons (pv 3) pa_nil)))
      (pss_one (ps_set (i := 3) sc_standing.nd rfl (Or.inl rfl) (pe_op op_sub (pv 3) pe_int)))) pss_nil))))))
      (pss_one (ps_ret (pe_make T.mk_Ladder (ok_init T) (hr.mono (by decide)) rfl T.g_Ladder T.b_init2 .nil passL (pa_cons (pe_callB (call_lenK (K := K) rfl) (by rfl) T.n_len PySem.boot_len (pa_cons (pv 0) pa_nil)) (pa_cons (pv 1) pa_nil)))))))), ?_⟩
    try dsimp only [L2.cxOf, L2.Cx.nox, L2.Cx.wish]
    show S _ _ _ _ _ [some (.ref a), none, none, none, none] H
    wtm_at "ev"
    refine if2 (fun hb => ?_) (fun hb => ?_)
    · rcases hw with ⟨_, hq⟩ | ⟨ho, _⟩
      · refine s_raise0 ?_
        exact fun H1 e1 => hE _ _ _ _ hq e1
      · rw [ho] at hb
        cases hb
    rcases hw with ⟨ho, _⟩ | ⟨ho, q⟩
    · rw [ho] at hb
      cases hb
    obtain ⟨hper, hl1, hl2⟩ := isOut_perm ho
    have F := Lm.form_all hper.inj ns.length (Nat.le_refl _)
    wtm_at "ev"
    rename_i p hp
    refine s_forR2 ?_
    wtm_at "ev"
    refine ⟨_, _, rfl, by omega, fun i σ' Hc => ∃ u v w, σ' = [some (.ref a), some (.ref p), u, v, w] ∧ Same H Hc ∧ Hc p = some (.lst ((Lm.stdN (xsF ns) (i + 1)).map V.int)) ∧ (Lm.stdN (xsF ns) (i + 1)).length ≤ 100 * i, ⟨_, _, _, rfl, by wtm_at "same", upd_same, Nat.le_refl _⟩, ?_, ?_⟩
    · rintro i σ' Hc hi ⟨u, v, w, rfl, hs, hq, hly⟩
      have hi' : i + 1 < ns.length := by omega
      have ew : (1 : Int) + (i : Int) = ((i + 1 : Nat) : Int) := by omega
      have ef : xsF ns ((i + 1 : Nat) : Int) = ns.getD (i + 1) 0 := by unfold xsF; rw [Int.toNat_natCast]
      have et : ns.take (i + 1) = Lm.tab (i + 1) (xsF ns) := Lm.eq_tab (by rw [List.length_take]; omega) fun j hj => by
        rw [Lm.getD_take hj]
        unfold xsF
        rw [Int.toNat_natCast]
      rw [ew]
      wtm_at "ev"
      refine s_forL ?_
      wtm_at "ev"
      rename_i p2 hp2
      have hpp : p ≠ p2 := ne_of_free hq hp2
      have hfp : Free H p := hp
      have c0 : ∀ j : Nat, j < i + 1 → ((((ns.take (i + 1)).take (j + 1)).filter fun o => decide (ns.getD (i + 1) 0 < o)).length = (((ns.take (i + 1)).take j).filter fun o => decide (ns.getD (i + 1) 0 < o)).length + if ns.getD (i + 1) 0 < ns.getD j 0 then 1 else 0) := fun j hj => by
        have hg : (ns.take (i + 1))[j]? = some (ns.getD j 0) := by
          rw [List.getElem?_take, if_pos hj, List.getD_eq_getElem?_getD, List.getElem?_eq_getElem (by omega)]
          rfl
        rw [Lm.take_snoc hg, List.filter_append, List.length_append]
        congr 1
        by_cases hc : ns.getD (i + 1) 0 < ns.getD j 0
        · rw [if_pos hc, List.filter_cons_of_pos (by exact decide_eq_true hc)]
          rfl
        · rw [if_neg hc, List.filter_cons_of_neg (by rw [decide_eq_false hc]; decide)]
          rfl
      refine ⟨p2, (ns.take (i + 1)).map V.int, rfl, SqL.of upd_same, fun j σ' Hd => ∃ v, σ' = [some (.ref a), some (.ref p), some (.int ((i + 1 : Nat) : Int)), some (.int (((i + 1 : Nat) : Int) - 1 - ((((ns.take (i + 1)).take j).filter fun o => decide (ns.getD (i + 1) 0 < o)).length : Int))), v] ∧ Same H Hd ∧
        Hd p = some (.lst ((Lm.stdN (xsF ns) (i + 1) ++ Lm.desc (((i + 1 : Nat) : Int) - 1) (((ns.take (i + 1)).take j).filter fun o => decide (ns.getD (i + 1) 0 < o)).length).map V.int)) ∧ Hd p2 = some (.lst ((ns.take (i + 1)).map V.int)) ∧ (((ns.take (i + 1)).take j).filter fun o => decide (ns.getD (i + 1) 0 < o)).length ≤ j, ⟨w, ?_, by wtm_at "same", ?_, upd_same, Nat.le_refl _⟩, ?_, ?_, ?_⟩
      · rw [List.take_zero]
        show _ = [_, _, _, some (V.int (((i + 1 : Nat) : Int) - 1 - ((0 : Nat) : Int))), _]
        rw [show ((i + 1 : Nat) : Int) - 1 - ((0 : Nat) : Int) = ((i + 1 : Nat) : Int) - 1 by omega]
        rfl
      · rw [List.take_zero]
        show upd Hc p2 _ p = some (.lst ((Lm.stdN (xsF ns) (i + 1) ++ Lm.desc (((i + 1 : Nat) : Int) - 1) 0).map V.int))
        rw [Lm.desc_zero, List.append_nil, upd_ne hpp]
        exact hq
      · rintro j σ' Hd _ ⟨v, rfl, hsd, hqd, hq2, hcj⟩
        exact SqL.of hq2
      · rintro j y σ' Hd hy ⟨v, rfl, hsd, hqd, hq2, hcj⟩
        rw [List.getElem?_map] at hy
        obtain ⟨o, ho2, rfl⟩ := Option.map_eq_some_iff.mp hy
        have hj : j < i + 1 := by
          have := (List.getElem?_eq_some_iff.mp ho2).1
          rw [List.length_take] at this
          omega
        have eo : ns.getD j 0 = o := by
          rw [List.getElem?_take, if_pos hj] at ho2
          rw [List.getD_eq_getElem?_getD, ho2]
          rfl
        have hc1 := c0 j hj
        rw [eo] at hc1
        have hld := Lm.desc_length (((i + 1 : Nat) : Int) - 1) (((ns.take (i + 1)).take j).filter fun o => decide (ns.getD (i + 1) 0 < o)).length
        wtm_at "ev"
        refine ifd (fun hlt => ?_) (fun hlt => ?_)
        · rw [if_pos hlt] at hc1
          wtm_at "ev"
          dsimp only
          rw [hc1]
          refine ⟨some (.int o), ?_, by wtm_at "same", ?_, ?_, by omega⟩
          · have e9 : ((i + 1 : Nat) : Int) - 1 - (((((ns.take (i + 1)).take j).filter fun o => decide (ns.getD (i + 1) 0 < o)).length + 1 : Nat) : Int) = ((i + 1 : Nat) : Int) - 1 - ((((ns.take (i + 1)).take j).filter fun o => decide (ns.getD (i + 1) 0 < o)).length : Int) - 1 := by omega
            rw [e9]
            rfl
          · rw [upd_same, Lm.desc_succ, ← List.append_assoc]
          · rw [upd_ne (Ne.symm hpp)]
            exact hq2
        · rw [if_neg hlt, Nat.add_zero] at hc1
          wtm_at "ev"
          dsimp only
          rw [hc1]
          exact ⟨_, rfl, hsd, hqd, hq2, by omega⟩
      · rintro σ' Hd ⟨v, rfl, hsd, hqd, hq2, hcj⟩
        have ek : (((ns.take (i + 1)).take ((ns.take (i + 1)).map V.int).length).filter fun o => decide (ns.getD (i + 1) 0 < o)).length = Lm.kOf (xsF ns) (i + 1) := by
          unfold Lm.kOf
          rw [ef, ← et, List.length_map, List.take_length]
        rw [ek] at hqd
        have hkl := Lm.kOf_le (xsF ns) (i + 1)
        refine ⟨_, _, _, rfl, hsd, hqd, ?_⟩
        show (Lm.stdN (xsF ns) (i + 1) ++ Lm.desc (((i + 1 : Nat) : Int) - 1) (Lm.kOf (xsF ns) (i + 1))).length ≤ _
        rw [List.length_append, Lm.desc_length]
        omega
    · rintro σ' Hc ⟨u, v, w, rfl, hs, hq, hly⟩
      have en : ((ns.length : Int) - 1).toNat + 1 = ns.length := by omega
      rw [en] at hq hly
      have hok : Lm.Ok (ns.length : Int) (Lm.stdN (xsF ns) ns.length) := F.ok
      have hn2 : 1 ≤ (ns.length : Int) ∧ (ns.length : Int) ≤ 100 := by omega
      wtm_at "ev"
      rename_i p2 H2 hs2 hl2 hp2
      exact ⟨_, Same.refl _, q _ _ (by wtm_at "fre") (by wtm_at "same") hl2⟩
end

local macro_rules | `(tactic| wtm_at "e1") => `(tactic| ((with_reducible apply Ll.use_standing); (focus (wtm_at "sql")); (focus (wtm_at "len")); (focus assumption); intro p' Hn' hp' hs' hl'))
section
variable {Pg : Program} {w : World} {K : PySem.W.Frag} {mg : Str → Option Value} {base : Heap} {A : Ad}
def P_feet (K : PySem.W.Frag) (A : Ad) : PK' := fun vs H Q E => ∃ (x : Addr) (n : Nat) (rs : List Int), vs = [.ref x] ∧ Lad K A.c_Ladder H x (n : Int) rs ∧ n ≤ 1000 ∧ Lm.Ok (n : Int) rs ∧ ∀ p, H p = none → Q (.ref p) (upd H p (.lst ((Lm.feet n rs).map V.int)))
theorem use_feet {x : Addr} {n : Nat} {rs : List Int} {H : Hp} {Q : VK} {E : XK} (hL : Lad K A.c_Ladder H x (n : Int) rs) (hn : n ≤ 1000) (hok : Lm.Ok (n : Int) rs) (q : ∀ p, H p = none → Q (.ref p) (upd H p (.lst ((Lm.feet n rs).map V.int)))) : P_feet K A (V.ref x :: ([] ++ [])) H Q E := ⟨x, n, rs, rfl, hL, hn, hok, q⟩
local macro_rules | `(tactic| wtm_at "e1") => `(tactic| ((with_reducible apply Ll.use_feet); (focus (wtm_at "lad")); (focus (wtm_at "len")); (focus (wtm_at "ok")); intro p' hp'; change La.Free _ p' at hp'))
theorem ok_feet (T : Txt K mg A) : FnOk Pg w K mg base CX0 1 A.f_feet A.d_feet ["self"] (spc (P_feet K A)) := by
  refine ok_of T.F_feet sc_feet (fun vs H Q E h => ?_) (fun cdv A' outer s H' E' vs H Q E hr h => ?_)
  · obtain ⟨x, n, rs, rfl, _⟩ := h
    rfl
  · obtain ⟨x, n, rs, rfl, hL, hn, hok, q⟩ := h
    refine ⟨_, (pss_cons (ps_set (i := 1) sc_feet.nd rfl (Or.inl rfl) (pe_listRg rfl (by rfl) T.n_list (prg_1 (by rfl) T.n_range (pe_fldK (K := K) rfl (pv 0) rfl))))
      (pss_cons (ps_for PassesOwn.never rfl (pi_tup (pe_fldK (K := K) rfl (pv 0) rfl)) (pg_name (i := 2) sc_feet.nd rfl (Or.inl rfl))
      (pss_one (ps_set (i := 1) sc_feet.nd rfl (Or.inl rfl) (pe_op op_cat (pe_op op_cat (pe_slice (sl_listK (K := K) rfl) (pv 1) po_none (po_some (pv 2))) (pe_lst (pa_cons (pe_ix (ix_listK (K := K) rfl) (pv 1) (pe_op op_add (pv 2) pe_int) (fun _ _ => rfl)) (pa_cons (pe_ix (ix_listK (K := K) rfl) (pv 1) (pv 2) (fun _ _ => rfl)) pa_nil)))) (pe_slice (sl_listK (K := K) rfl) (pv 1) (po_some (pe_op op_add (pv 2) pe_int)) po_none)))))
      (pss_one (ps_ret (pv 1))))), ?_⟩
    try dsimp only [L2.cxOf, L2.Cx.nox, L2.Cx.wish]
    show S _ _ _ _ _ [some (.ref x), none, none] H
    wtm_at "ev"
    refine s_forT ?_
    wtm_at "ev"
    rename_i p hp t ht
    refine ⟨t, _, rfl, by wtm_at "sqt", fun i σ' Hc => ∃ p r, σ' = [some (.ref x), some (.ref p), r] ∧ Same H Hc ∧ Free H p ∧ Hc p = some (.lst ((Lm.feet n (rs.take i)).map V.int)) ∧ Hc t = some (.tup (rs.map V.int)), ⟨p, _, rfl, by wtm_at "same", hp, upd_same, ht⟩, ?_, ?_, ?_⟩
    · rintro i σ' Hc _ ⟨p, r, rfl, hs, hf, hq, ht⟩
      exact SqT.of ht
    · rintro i y σ' Hc hy ⟨p, r, rfl, hs, hf, hq, ht⟩
      rw [List.getElem?_map] at hy
      obtain ⟨r0, hr0, rfl⟩ := Option.map_eq_some_iff.mp hy
      have hr := hok r0 (List.mem_of_getElem? hr0)
      obtain ⟨k, rfl⟩ := Int.eq_ofNat_of_zero_le hr.1
      have hl : (Lm.feet n (rs.take i)).length = n := Lm.tab_length _ _
      have hst := Lm.feet_snoc (rs := rs.take i) (n := n) (r := k) (by omega)
      rw [← Lm.take_snoc hr0] at hst
      wtm_at "ev"
      refine ⟨_, some (.int (k : Int)), rfl, ?_, ?_, ?_, ?_⟩
      · wtm_at "same"
      · wtm_at "fre"
      · rw [upd_same, ← hst]
        rfl
      · wtm_at "look"
    · rintro σ' Hc ⟨p, r, rfl, hs, hf, hq, ht⟩
      rw [List.length_map, List.take_length] at hq
      wtm_at "ev"
      wtm_at "ret"
def P_ends (K : PySem.W.Frag) (A : Ad) : PK' := fun vs H Q E => ∃ (x : Addr) (n : Nat) (rs : List Int), vs = [.ref x] ∧ Lad K A.c_Ladder H x (n : Int) rs ∧ n ≤ 1000 ∧ Lm.Ok (n : Int) rs ∧ ∀ p, H p = none → Q (.ref p) (upd H p (.lst ((Lm.ends n rs).map V.int)))
theorem use_ends {x : Addr} {n : Nat} {rs : List Int} {H : Hp} {Q : VK} {E : XK} (hL : Lad K A.c_Ladder H x (n : Int) rs) (hn : n ≤ 1000) (hok : Lm.Ok (n : Int) rs) (q : ∀ p, H p = none → Q (.ref p) (upd H p (.lst ((Lm.ends n rs).map V.int)))) : P_ends K A (V.ref x :: ([] ++ [])) H Q E := ⟨x, n, rs, rfl, hL, hn, hok, q⟩
local macro_rules | `(tactic| wtm_at "e1") => `(tactic| ((with_reducible apply Ll.use_ends); (focus (wtm_at "lad")); (focus (wtm_at "len")); (focus (wtm_at "ok")); intro p' hp'; change La.Free _ p' at hp'))
theorem ok_ends (T : Txt K mg A) : FnOk Pg w K mg base CX0 2 A.f_ends A.d_ends ["self"] (spc (P_ends K A)) := by
  refine ok_of T.F_ends sc_ends (fun vs H Q E h => ?_) (fun cdv A' outer s H' E' vs H Q E hr h => ?_)
  · obtain ⟨x, n, rs, rfl, _⟩ := h
    rfl
  · obtain ⟨x, n, rs, rfl, hL, hn, hok, q⟩ := h
    refine ⟨_, (pss_cons (ps_set (i := 1) sc_ends.nd rfl (Or.inl rfl) (pe_op op_rep (pe_lst (pa_cons pe_int pa_nil)) (pe_fldK (K := K) rfl (pv 0) rfl)))
      (pss_cons (ps_for PassesOwn.never rfl (pi_enum (by rfl) T.n_enumerate (pa_cons (pe_meth0 (pv 0) T.cl T.m_feet (ok_feet T) (hr.mono (by decide)) T.b_feet .nil pass0) pa_nil)) (pg_tup rfl (pgs_cons (pg_name (i := 2) sc_ends.nd rfl (Or.inl rfl)) (pgs_cons (pg_name (i := 3) sc_ends.nd rfl (Or.inl rfl)) pgs_nil)))
      (pss_one (ps_asg (pv 2) (pg_sub (pv 1) (pv 3) set_list))))
      (pss_one (ps_ret (pv 1))))), ?_⟩
    try dsimp only [L2.cxOf, L2.Cx.nox, L2.Cx.wish]
    show S _ _ _ _ _ [some (.ref x), none, none, none] H
    wtm_at "ev"
    refine s_forEnum ?_
    wtm_at "ev"
    rename_i p0 hp0 p hp a ha
    have hne : a ≠ p := fun e => by
      rw [e] at ha
      have : upd (upd H p0 (.lst [V.int 0])) p (.lst (List.map V.int (List.replicate n 0))) p = none := ha
      rw [upd_same] at this
      cases this
    refine ⟨a, _, rfl, by wtm_at "sql", fun i σ' Hc => ∃ u v, σ' = [some (.ref x), some (.ref p), u, v] ∧ Same H Hc ∧ Free H p ∧ Hc p = some (.lst ((Lm.half n rs i).map V.int)) ∧ Hc a = some (.lst ((Lm.feet n rs).map V.int)), ⟨_, _, rfl, by wtm_at "same", by wtm_at "fre", ?_, by wtm_at "look"⟩, ?_, ?_, ?_⟩
    · have e0 : Lm.half n rs ((0 : Nat) : Int) = List.replicate n 0 := Lm.half_zero hok
      rw [e0]
      wtm_at "look"
    · rintro i σ' Hc _ ⟨u, v, rfl, hs, hf, hq, ha⟩
      exact SqL.of ha
    · rintro i y σ' Hc T hy ⟨u, v, rfl, hs, hf, hq, ha⟩ hT
      rw [List.getElem?_map] at hy
      obtain ⟨r0, hr0, rfl⟩ := Option.map_eq_some_iff.mp hy
      have hi : i < n := by
        have := (List.getElem?_eq_some_iff.mp hr0).1
        rwa [show (Lm.feet n rs).length = n from Lm.tab_length _ _] at this
      have e1 : r0 = Lm.bwd rs i := by
        have := (List.getElem?_eq_some_iff.mp hr0).2
        rw [← this]
        exact Lm.tab_get _
      have hb := Lm.bwd_ok hok (w := (i : Int)) (by omega)
      have hst := Lm.half_step hok hi
      have hln : (Lm.half n rs i).length = n := Lm.tab_length _ _
      subst e1
      change La.Free _ T at hT
      refine g_tup2 (SqT.of upd_same) ?_
      wtm_at "ev"
      refine ⟨_, _, rfl, ?_, ?_, ?_, ?_⟩
      · wtm_at "same"
      · wtm_at "fre"
      · rw [upd_same, hst]
        rfl
      · wtm_at "look"
    · rintro σ' Hc ⟨u, v, rfl, hs, hf, hq, ha⟩
      rw [List.length_map, show (Lm.feet n rs).length = n from Lm.tab_length _ _, Lm.half_all hok] at hq
      wtm_at "ev"
      wtm_at "ret"
end

local macro_rules | `(tactic| wtm_at "e1") => `(tactic| ((with_reducible apply Ll.use_feet); (focus (wtm_at "lad")); (focus (wtm_at "len")); (focus (wtm_at "ok")); intro p' hp'; change La.Free _ p' at hp'))
local macro_rules | `(tactic| wtm_at "e1") => `(tactic| ((with_reducible apply Ll.use_ends); (focus (wtm_at "lad")); (focus (wtm_at "len")); (focus (wtm_at "ok")); intro p' hp'; change La.Free _ p' at hp'))
section
variable {Pg : Program} {w : World} {K : PySem.W.Frag} {mg : Str → Option Value} {base : Heap} {A : Ad}
def P_turned (K : PySem.W.Frag) (A : Ad) : PK' := fun vs H Q E => ∃ (x : Addr) (n : Int) (rs : List Int), vs = [.ref x] ∧ Lad K A.c_Ladder H x n rs ∧ (1 ≤ n ∧ n ≤ 100) ∧ Lm.Ok n rs ∧ ∀ p Hn, H p = none → Same H Hn → Lad K A.c_Ladder Hn p n rs.reverse → Q (.ref p) Hn
theorem use_turned {x : Addr} {n : Int} {rs : List Int} {H : Hp} {Q : VK} {E : XK} (hL : Lad K A.c_Ladder H x n rs) (hn : 1 ≤ n ∧ n ≤ 100) (hok : Lm.Ok n rs) (q : ∀ p Hn, H p = none → Same H Hn → Lad K A.c_Ladder Hn p n rs.reverse → Q (.ref p) Hn) : P_turned K A (V.ref x :: ([] ++ [])) H Q E := ⟨x, n, rs, rfl, hL, hn, hok, q⟩
local macro_rules | `(tactic| wtm_at "e1") => `(tactic| ((with_reducible apply Ll.use_turned); (focus (wtm_at "lad")); (focus (wtm_at "ok")); (focus (wtm_at "ok")); intro p' Hn' hp' hs' hl'; change La.Free _ p' at hp'))
theorem ok_turned (T : Txt K mg A) : FnOk Pg w K mg base CX0 3 A.f_turned A.d_turned ["self"] (spc (P_turned K A)) := by
  refine ok_of T.F_turned sc_turned (fun vs H Q E h => ?_) (fun cdv A' outer s H' E' vs H Q E hr h => ?_)
  · obtain ⟨x, n, rs, rfl, _⟩ := h
    rfl
  · obtain ⟨x, n, rs, rfl, hL, hn, hok, q⟩ := h
    refine ⟨_, (pss_one (ps_ret (pe_make T.mk_Ladder (ok_init T) (hr.mono (by decide)) rfl T.g_Ladder T.b_init2 .nil passL (pa_cons (pe_fldK (K := K) rfl (pv 0) rfl) (pa_cons (pe_listRevT rfl (by rfl) T.n_list (by rfl) T.n_reversed (pe_fldK (K := K) rfl (pv 0) rfl)) pa_nil))))), ?_⟩
    try dsimp only [L2.cxOf, L2.Cx.nox, L2.Cx.wish]
    show S _ _ _ _ _ [some (.ref x)] H
    have hok2 : ∀ r ∈ rs.reverse, 0 ≤ r ∧ r ≤ n - 2 := hok.reverse
    wtm_at "ev"
    exact ⟨_, Same.refl _, q _ _ (by wtm_at "free") (by wtm_at "same") (by wtm_at "lad")⟩
def P_above (K : PySem.W.Frag) (A : Ad) : PK' := fun vs H Q E => ∃ (x y : Addr) (n m : Int) (rs ss : List Int), vs = [.ref x, .ref y] ∧ Lad K A.c_Ladder H x n rs ∧ Lad K A.c_Ladder H y m ss ∧
  ((n ≠ m ∧ E (.ref A.c_Unlike) none H) ∨ (n = m ∧ (1 ≤ n ∧ n ≤ 100) ∧ Lm.Ok n rs ∧ Lm.Ok n ss ∧ rs.length ≤ 100000 ∧ ss.length ≤ 100000 ∧ ∀ p Hn, H p = none → Same H Hn → Lad K A.c_Ladder Hn p n (rs ++ ss) → Q (.ref p) Hn))
theorem use_above {x y : Addr} {n : Int} {rs ss : List Int} {H : Hp} {Q : VK} {E : XK} (hL : Lad K A.c_Ladder H x n rs) (hL2 : Lad K A.c_Ladder H y n ss) (hn : 1 ≤ n ∧ n ≤ 100) (hok : Lm.Ok n rs) (hok2 : Lm.Ok n ss) (hz : rs.length ≤ 100000) (hz2 : ss.length ≤ 100000)
    (q : ∀ p Hn, H p = none → Same H Hn → Lad K A.c_Ladder Hn p n (rs ++ ss) → Q (.ref p) Hn) : P_above K A (V.ref x :: ([V.ref y] ++ [])) H Q E := ⟨x, y, n, n, rs, ss, rfl, hL, hL2, .inr ⟨rfl, hn, hok, hok2, hz, hz2, q⟩⟩
local macro_rules | `(tactic| wtm_at "e1") => `(tactic| ((with_reducible apply Ll.use_above); (focus (wtm_at "lad")); (focus (wtm_at "lad")); (focus (wtm_at "ok")); (focus (wtm_at "ok")); (focus (wtm_at "ok")); (focus (wtm_at "len")); (focus (wtm_at "len")); intro p' Hn' hp' hs' hl'; change La.Free _ p' at hp'))
theorem ok_above (T : Txt K mg A) : FnOk Pg w K mg base (L2.CX Pg w) 3 A.f_above A.d_above ["self", "other"] (spc (P_above K A)) := by
  refine okX_of T.F_above sc_above (fun vs H Q E h => ?_) (fun cdv A' outer s H' E' vs H Q E hr hE h => ?_)
  · obtain ⟨x, y, n, m, rs, ss, rfl, _⟩ := h
    rfl
  · obtain ⟨x, y, n, m, rs, ss, rfl, hL, hL2, hw⟩ := h
    refine ⟨_, (pss_cons (ps_if (pt_cmpR op_ne (pe_fldK (K := K) rfl (pv 0) rfl) (pe_fldK (K := K) rfl (pv 1) rfl) (nomark _)) (pss_one (ps_raise0 rfl (takes_of rfl rfl rfl rfl) PySem.F.excBase_ValueError T.x_Unlike T.g_Unlike T.k_Unlike (raises_own T.bs_Unlike T.ty_Unlike))) pss_nil)
      (pss_one (ps_ret (pe_make T.mk_Ladder (ok_init T) (hr.mono (by decide)) rfl T.g_Ladder T.b_init2 .nil passL (pa_cons (pe_fldK (K := K) rfl (pv 0) rfl) (pa_cons (pe_op (op_catAK (K := K) rfl) (pe_fldK (K := K) rfl (pv 0) rfl) (pe_fldK (K := K) rfl (pv 1) rfl)) pa_nil)))))), ?_⟩
    try dsimp only [L2.cxOf, L2.Cx.nox, L2.Cx.wish]
    show S _ _ _ _ _ [some (.ref x), some (.ref y)] H
    wtm_at "ev"
    refine ifn (fun hb => ?_) (fun hb => ?_)
    · rcases hw with ⟨_, hq⟩ | ⟨hn, _⟩
      · refine s_raise0 ?_
        exact fun H1 e1 => hE _ _ _ _ hq e1
      · exact absurd hn hb
    rcases hw with ⟨hn, _⟩ | ⟨_, hn, hok, hok2, hz, hz2, q⟩
    · exact absurd hb hn
    subst hb
    have hok3 : ∀ r ∈ rs ++ ss, 0 ≤ r ∧ r ≤ n - 2 := hok.append hok2
    wtm_at "ev"
    exact ⟨_, Same.refl _, q _ _ (by wtm_at "free") (by wtm_at "same") (by wtm_at "lad")⟩
end

local macro_rules | `(tactic| wtm_at "e1") => `(tactic| ((with_reducible apply Ll.use_turned); (focus (wtm_at "lad")); (focus (wtm_at "ok")); (focus (wtm_at "ok")); intro p' Hn' hp' hs' hl'; change La.Free _ p' at hp'))
local macro_rules | `(tactic| wtm_at "e1") => `(tactic| ((with_reducible apply Ll.use_above); (focus (wtm_at "lad")); (focus (wtm_at "lad")); (focus (wtm_at "ok")); (focus (wtm_at "ok")); (focus (wtm_at "ok")); (focus (wtm_at "len")); (focus (wtm_at "len")); intro p' Hn' hp' hs' hl'; change La.Free _ p' at hp'))
section
variable {Pg : Program} {w : World} {K : PySem.W.Frag} {mg : Str → Option Value} {base : Heap} {A : Ad}
def P_places (K : PySem.W.Frag) (A : Ad) : PK' := fun vs H Q E => ∃ (a : Addr) (ns : List Int), vs = [.ref a] ∧ SqL K H a (ns.map V.int) ∧ ns.length ≤ 1000 ∧
  (((ns.length < 1 ∨ 100 < ns.length) ∧ E (.ref A.c_NoOutcome) none H) ∨ (1 ≤ ns.length ∧ ns.length ≤ 100 ∧ H A.c_tab = some (.tbl #[]) ∧ ∀ p Hn, Free H p → But A.c_tab H Hn → Hn p = some (.lst ((placesL ns).map V.int)) → Q (.ref p) Hn))
theorem ok_places (T : Txt K mg A) (TB : LamX.TabB base mg A.c_code A.c_tab) : FnOk Pg w K mg base (L2.CX Pg w) 1 A.f_places A.d_places ["things"] (spc (P_places K A)) := by
  refine okXc_of T.F_places T.code_places sc_places (fun vs H Q E h => ?_) (fun A' outer s H' E' vs H Q E hr hE h => ?_)
  · obtain ⟨a, ns, rfl, _⟩ := h
    rfl
  · obtain ⟨a, ns, rfl, hS, hz, hw⟩ := h
    refine ⟨_, (pss_cons (ps_if (PW.pt (pw_or (pt_cmpR op_lt (pe_callB (call_lenK (K := K) rfl) (by rfl) T.n_len PySem.boot_len (pa_cons (pv 0) pa_nil)) pe_int (nomark _)) (pw_or1 (pt_cmpR op_gt1 (pe_callB (call_lenK (K := K) rfl) (by rfl) T.n_len PySem.boot_len (pa_cons (pv 0) pa_nil)) (pe_globI rfl T.g_MOST) (nomark _))))) (pss_one (ps_raise0 rfl (takes_of rfl rfl rfl rfl) PySem.F.excBase_ValueError T.x_NoOutcome T.g_NoOutcome T.k_NoOutcome (raises_own T.bs_NoOutcome T.ty_NoOutcome))) pss_nil)
      (pss_cons (ps_set (i := 1) sc_places.nd rfl (Or.inl rfl) (pe_op op_rep (pe_lst (pa_cons pe_int pa_nil)) (pe_callB (call_lenK (K := K) rfl) (by rfl) T.n_len PySem.boot_len (pa_cons (pv 0) pa_nil))))
      (pss_cons (ps_set (i := 2) sc_places.nd rfl (Or.inl rfl) (pe_sortLam (c := A.c_code) (P := A.c_tab) (j := 0) (pe_callTy cr_range1 (by rfl) T.n_range (by decide +kernel) (pa_cons (pe_callB (call_lenK (K := K) rfl) (by rfl) T.n_len PySem.boot_len (pa_cons (pv 0) pa_nil)) pa_nil)) (by rfl) T.n_sorted hr.units TB rfl rfl rfl hr.depth (fun _ _ _ _ => rfl) rfl rfl rfl (by first | exact Or.inl rfl | exact Or.inr rfl) (by decide +kernel) (by decide +kernel) rfl (by rfl) (by decide +kernel) (by decide +kernel) (by decide +kernel)))
      (pss_cons (ps_for (passes_of rfl) rfl (pi_enum (by rfl) T.n_enumerate (pa_cons (pv 2) pa_nil)) (pg_tup rfl (pgs_cons (pg_name (i := 3) sc_places.nd rfl (Or.inl rfl)) (pgs_cons (pg_name (i := 4) sc_places.nd rfl (Or.inl rfl)) pgs_nil)))
      (pss_one (ps_asg (pv 3) (pg_sub (pv 1) (pv 4) set_list))))
      (pss_one (ps_ret (pv 1))))))), ?_⟩
    try dsimp only [L2.cxOf, L2.Cx.nox, L2.Cx.wish]
    show S _ _ _ _ _ [some (.ref a), none, none, none, none] H
    wtm_at "ev"
    refine if2 (fun hb => ?_) (fun hb => ?_)
    · rcases hw with ⟨_, hq⟩ | ⟨h1, h2, _⟩
      · refine s_raise0 ?_
        exact fun H1 e1 => hE _ _ _ _ hq e1
      · simp only [Bool.or_eq_true, decide_eq_true_eq] at hb
        omega
    simp only [Bool.or_eq_false_iff, decide_eq_false_iff_not] at hb
    rcases hw with ⟨h1, _⟩ | ⟨h1, h2, hP, q⟩
    · omega
    wtm_at "ev"
    rename_i p0 hp0 p hp
    refine c_sortLam ?_
    wtm_at "ev"
    refine b_rg1 fun r hr' => ?_
    have hpP : p ≠ A.c_tab := fun e => by
      have z : upd H p0 (.lst [V.int 0]) A.c_tab = some (.tbl #[]) := by wtm_at "look"
      rw [← e] at z
      exact absurd (hp.symm.trans z) (by intro q; cases q)
    have hp' : upd (upd (upd H p0 (.lst [V.int 0])) p (.lst ((List.replicate ns.length 0).map V.int))) r (.rng 0 (ns.length : Int)) p = some (.lst ((List.replicate ns.length 0).map V.int)) := by wtm_at "look"
    have hall : ∀ b o, b ≠ A.c_tab → H b = some o → upd (upd (upd H p0 (.lst [V.int 0])) p (.lst ((List.replicate ns.length 0).map V.int))) r (.rng 0 (ns.length : Int)) b = some o := fun b o _ hb => by wtm_at "look"
    refine ⟨r, a, ns, rfl, upd_same, rfl, by wtm_at "sql", by omega, by wtm_at "look", fun t Hn ht hbut hnt => ?_⟩
    have hpn : Hn p = some (.lst ((toldN ns 0).map V.int)) := by
      rw [told_zero]
      exact hbut _ _ hpP hp'
    have hne : t ≠ p := fun e => by
      rw [e] at ht
      have ht' : upd (upd (upd H p0 (.lst [V.int 0])) p (.lst ((List.replicate ns.length 0).map V.int))) r (.rng 0 (ns.length : Int)) p = none := ht
      rw [hp'] at ht'
      cases ht'
    have hbut2 : But A.c_tab H Hn := fun b o nb hb => hbut b o nb (hall b o nb hb)
    have hpf : Free H p := by wtm_at "fre"
    have hnt' : Hn t = some (.lst ((turnsL ns).map V.int)) := hnt
    clear hall hbut hp' ht hnt
    wtm_at "ev"
    refine s_forEnum ?_
    wtm_at "ev"
    refine ⟨t, _, rfl, by wtm_at "sql", fun i σ' Hc => ∃ u v, σ' = [some (.ref a), some (.ref p), some (.ref t), u, v] ∧ (∀ b o, b ≠ p → Hn b = some o → Hc b = some o) ∧ Hc p = some (.lst ((toldN ns i).map V.int)) ∧ Hc t = some (.lst ((turnsL ns).map V.int)), ⟨_, _, rfl, fun b o _ h => h, hpn, hnt'⟩, ?_, ?_, ?_⟩
    · rintro i σ' Hc _ ⟨u, v, rfl, hs, hq, ha⟩
      exact SqL.of ha
    · rintro i y σ' Hc T hy ⟨u, v, rfl, hs, hq, ha⟩ hT
      rw [List.getElem?_map] at hy
      obtain ⟨r0, hr0, rfl⟩ := Option.map_eq_some_iff.mp hy
      have hi : i < ns.length := by
        have := (List.getElem?_eq_some_iff.mp hr0).1
        rwa [turns_length] at this
      have e1 : r0 = (turnsL ns).getD i 0 := by
        rw [List.getD_eq_getElem?_getD, hr0]
        rfl
      have hb := turns_in ns hi
      have hst := told_step ns hi
      have hln : (toldN ns i).length = ns.length := Lm.tab_length _ _
      subst e1
      change La.Free _ T at hT
      refine g_tup2 (SqT.of upd_same) ?_
      wtm_at "ev"
      refine ⟨_, _, rfl, ?_, ?_, ?_⟩
      · intro b o nb hb'
        rw [upd_ne nb]
        have := hs b o nb hb'
        wtm_at "look"
      · rw [upd_same, hst]
      · wtm_at "look"
    · rintro σ' Hc ⟨u, v, rfl, hs, hq, ha⟩
      rw [List.length_map, turns_length, told_all] at hq
      wtm_at "ev"
      refine ⟨_, Same.refl _, q p Hc hpf (fun b o nb hb => ?_) hq⟩
      refine hs b o (fun e => ?_) (hbut2 b o nb hb)
      rw [e] at hb
      exact absurd (hpf.symm.trans hb) (by intro z; cases z)
end


section
variable {Pg : Program} {w : World} {K : PySem.W.Frag} {mg : Str → Option Value} {base : Heap} {A : Ad}
theorem use_places {a : Addr} {ns : List Int} {H : Hp} {Q : VK} {E : XK} (hS : SqL K H a (ns.map V.int)) (h1 : 1 ≤ ns.length) (h2 : ns.length ≤ 100) (hP : H A.c_tab = some (.tbl #[])) (q : ∀ p Hn, Free H p → But A.c_tab H Hn → Hn p = some (.lst ((placesL ns).map V.int)) → Q (.ref p) Hn) : P_places K A ([V.ref a] ++ []) H Q E := ⟨a, ns, rfl, hS, by omega, .inr ⟨h1, h2, hP, q⟩⟩
def P_l_numbers_by (K : PySem.W.Frag) : PK' := fun vs H Q E => ∃ (a : Addr) (cells : List Int) (kind : Int), vs = [.ref a, .int kind] ∧ SqL K H a (cells.map V.int) ∧ cells.length ≤ 1000 ∧ ∀ p (ms : List Int), ms.length = cells.length → H p = none → Q (.ref p) (upd H p (.lst (ms.map V.int)))
theorem ok_l_numbers_by (T : Txt K mg A) : FnOk Pg w K mg base CX0 1 A.f_l_numbers_by A.d_l_numbers_by ["_law_cells", "_law_kind"] (spc (P_l_numbers_by K)) := by
  refine ok_of T.F_l_numbers_by sc_l_numbers_by (fun vs H Q E h => ?_) (fun cdv A' outer s H' E' vs H Q E hr h => ?_)
  · obtain ⟨a, cells, kind, rfl, _⟩ := h
    rfl
  · obtain ⟨a, cells, kind, rfl, hS, hz, q⟩ := h
    refine ⟨_, (pss_cons (ps_if (pt_cmpR op_eq (pe_op op_mod (pv 1) pe_int) pe_int (nomark _)) (pss_one (ps_ret (pe_lc (own := [("_law_cell", 2)]) (g := gName 2) (tt := tYes) rfl sc_l_numbers_by.nd (pi_list (pv 0)) (blkOk_by (own := [("_law_cell", 2)]) (N := ["_law_cells", "_law_kind", "_law_cell"]) (sc := defScope s_l_numbers_by) (by decide +kernel)) (fun _ _ _ _ _ => (pg_name (i := 2) sc_l_numbers_by.nd rfl (Or.inl rfl))) (fun _ _ _ _ _ => pts_nil) (fun _ _ _ _ _ => (pe_op op_sub (pe_op op_mod (pv 2) (pe_op op_add (pe_op op_pow pe_int pe_int) pe_int)) (pe_op op_mul pe_int (pe_op op_pow pe_int pe_int))))))) pss_nil)
      (pss_cons (ps_if (pt_cmpR op_eq (pe_op op_mod (pv 1) pe_int) pe_int (nomark _)) (pss_one (ps_ret (pe_lc (own := [("_law_cell", 2)]) (g := gName 2) (tt := tYes) rfl sc_l_numbers_by.nd (pi_list (pv 0)) (blkOk_by (own := [("_law_cell", 2)]) (N := ["_law_cells", "_law_kind", "_law_cell"]) (sc := defScope s_l_numbers_by) (by decide +kernel)) (fun _ _ _ _ _ => (pg_name (i := 2) sc_l_numbers_by.nd rfl (Or.inl rfl))) (fun _ _ _ _ _ => pts_nil) (fun _ _ _ _ _ => (pe_op op_sub (pe_op op_mod (pv 2) pe_int) pe_int))))) pss_nil)
      (pss_one (ps_ret (pe_lc (own := [("_law_cell", 2)]) (g := gName 2) (tt := tYes) rfl sc_l_numbers_by.nd (pi_list (pv 0)) (blkOk_by (own := [("_law_cell", 2)]) (N := ["_law_cells", "_law_kind", "_law_cell"]) (sc := defScope s_l_numbers_by) (by decide +kernel)) (fun _ _ _ _ _ => (pg_name (i := 2) sc_l_numbers_by.nd rfl (Or.inl rfl))) (fun _ _ _ _ _ => pts_nil) (fun _ _ _ _ _ => (pe_op op_mod (pe_op op_mul (pv 2) pe_int) pe_int))))))), ?_⟩
    try dsimp only [L2.cxOf, L2.Cx.nox, L2.Cx.wish]
    show S _ _ _ _ _ [some (.ref a), some (.int kind), none] H
    wtm_at "ev"
    refine ifd (fun h => ?_) (fun h => ?_)
    · wtm_at "ev"
      refine c_lcLI (fun _ => rfl) (fun _ => true) (fun x => x % (10 ^ Int.toNat 60 + 1) - 5 * 10 ^ Int.toNat 59) ?_
      wtm_at "ev"
      refine ⟨a, cells, rfl, hS, by rw [sizeLine_eq]; omega, ?_, ?_, ?_⟩
      · intro x hx
        wtm_at "pure"
      · intro x hx _
        wtm_at "pure"
      · intro D hD
        rw [filter_true]
        exact ⟨_, Same.refl _, q D _ (List.length_map ..) hD⟩
    wtm_at "ev"
    refine ifd (fun h3 => ?_) (fun h3 => ?_)
    · wtm_at "ev"
      refine c_lcLI (fun _ => rfl) (fun _ => true) (fun x => x % 7 - 3) ?_
      wtm_at "ev"
      refine ⟨a, cells, rfl, hS, by rw [sizeLine_eq]; omega, ?_, ?_, ?_⟩
      · intro x hx
        wtm_at "pure"
      · intro x hx _
        wtm_at "pure"
      · intro D hD
        rw [filter_true]
        exact ⟨_, Same.refl _, q D _ (List.length_map ..) hD⟩
    · wtm_at "ev"
      refine c_lcLI (fun _ => rfl) (fun _ => true) (fun x => x * 48271 % 1009) ?_
      wtm_at "ev"
      refine ⟨a, cells, rfl, hS, by rw [sizeLine_eq]; omega, ?_, ?_, ?_⟩
      · intro x hx
        wtm_at "pure"
      · intro x hx _
        wtm_at "pure"
      · intro D hD
        rw [filter_true]
        exact ⟨_, Same.refl _, q D _ (List.length_map ..) hD⟩
def P_l_list : PK' := fun vs H Q E => ∃ (a : Addr) (ns : List Int) (n : Nat), vs = [.ref a, .int (n : Int)] ∧ H a = some (.lst (ns.map V.int)) ∧ ns.length = n ∧ (∀ x ∈ ns, 0 ≤ x ∧ x < (n : Int)) ∧ Q (.bl true) H
theorem use_l_list {a : Addr} {ns : List Int} {n : Nat} {H : Hp} {Q : VK} {E : XK} (hS : H a = some (.lst (ns.map V.int))) (hl : ns.length = n) (hx : ∀ x ∈ ns, 0 ≤ x ∧ x < (n : Int)) (q : Q (.bl true) H) : P_l_list ([V.ref a, .int (n : Int)] ++ []) H Q E := ⟨a, ns, n, rfl, hS, hl, hx, q⟩
local macro_rules | `(tactic| wtm_at "e1") => `(tactic| ((with_reducible apply Ll.use_l_list); (focus (wtm_at "look")); (focus assumption); (focus assumption)))
theorem ok_l_list (T : Txt K mg A) : FnOk Pg w K mg base CX0 2 A.f_l_list A.d_l_list ["_law_found", "_law_many"] (spc P_l_list) := by
  refine ok_of T.F_l_list sc_l_list (fun vs H Q E h => ?_) (fun cdv A' outer s H' E' vs H Q E hr h => ?_)
  · obtain ⟨a, ns, n, rfl, _⟩ := h
    rfl
  · obtain ⟨a, ns, n, rfl, hS, hl, hx, q⟩ := h
    refine ⟨_, (pss_cons (ps_if (PW.pt (pw_or (pt_not (pt_val (pe_callB (call_isiK (K := K) rfl) (by rfl) T.n_isinstance (by decide +kernel) (pa_cons (pv 0) (pa_cons (pe_bltn (v := .ty "list") (by rfl) T.n_list (by decide +kernel) rfl) pa_nil))))) (pw_or1 (pt_cmpR op_ne (pe_callB (call_lenK (K := K) rfl) (by rfl) T.n_len PySem.boot_len (pa_cons (pv 0) pa_nil)) (pv 1) (nomark _))))) (pss_one (ps_ret pe_bl)) pss_nil)
      (pss_cons (ps_for PassesOwn.never rfl (pi_list (pv 0)) (pg_name (i := 2) sc_l_list.nd rfl (Or.inl rfl))
      (pss_one (ps_if (PW.pt (pw_or (pt_not (pt_val (pe_call (ok_l_whole T) (hr.mono (by decide)) rfl T.g_l_whole T.F_l_whole.kp T.b_l_whole .nil pass0 (pa_cons (pv 2) pa_nil)))) (pw_or (pt_cmpR op_lt (pv 2) pe_int (nomark _)) (pw_or1 (pt_cmpR op_ge1 (pv 2) (pv 1) (nomark _)))))) (pss_one (ps_ret pe_bl)) pss_nil)))
      (pss_one (ps_ret pe_bl)))), ?_⟩
    try dsimp only [L2.cxOf, L2.Cx.nox, L2.Cx.wish]
    show S _ _ _ _ _ [some (.ref a), some (.int (n : Int)), none] H
    wtm_at "ev"
    refine ifF (by rw [hl]; simp) ?_
    wtm_at "ev"
    wtm_at "each"
    · intro y hy
      obtain ⟨r, hr, rfl⟩ := List.mem_map.mp hy
      have hr2 := hx r hr
      wtm_at "ev"
      refine ifF (by simp; omega) ?_
      wtm_at "ev"
      exact ⟨⟨_, rfl⟩, rfl⟩
    · intro v
      wtm_at "ev"
      exact ⟨_, by wtm_at "same", q⟩
def P_l_says : PK' := fun vs H Q E => ∃ (a b : Bool), vs = [.bl a, .bl b] ∧ Q (.bl (decide (a = b))) H
theorem use_l_says {a b : Bool} {H : Hp} {Q : VK} {E : XK} (q : Q (.bl (decide (a = b))) H) : P_l_says ([V.bl a, .bl b] ++ []) H Q E := ⟨a, b, rfl, q⟩
local macro_rules | `(tactic| wtm_at "e1") => `(tactic| with_reducible refine Ll.use_l_says ?_)
theorem ok_l_says (T : Txt K mg A) : FnOk Pg w K mg base CX0 1 A.f_l_says A.d_l_says ["_law_found", "_law_due"] (spc P_l_says) := by
  refine ok_of T.F_l_says sc_l_says (fun vs H Q E h => ?_) (fun cdv A' outer s H' E' vs H Q E hr h => ?_)
  · obtain ⟨a, b, rfl, _⟩ := h
    rfl
  · obtain ⟨a, b, rfl, q⟩ := h
    refine ⟨_, (pss_one (ps_ret (pe_and (pe_callB (call_isiK (K := K) rfl) (by rfl) T.n_isinstance (by decide +kernel) (pa_cons (pv 0) (pa_cons (pe_bltn (v := .ty "bool") (by rfl) T.n_bool (by decide +kernel) rfl) pa_nil))) (pe_one (pe_cmpR op_eq (pv 0) (pv 1) (nomark _)))))), ?_⟩
    try dsimp only [L2.cxOf, L2.Cx.nox, L2.Cx.wish]
    show S _ _ _ _ _ [some (.bl a), some (.bl b)] H
    wtm_at "ev"
    exact ⟨_, by wtm_at "same", by simpa using q⟩
end

local macro_rules | `(tactic| wtm_at "e1") => `(tactic| ((with_reducible apply Ll.use_l_list); (focus (wtm_at "look")); (focus assumption); (focus assumption)))
local macro_rules | `(tactic| wtm_at "e1") => `(tactic| with_reducible refine Ll.use_l_says ?_)
theorem getD_in {xs : List Int} {i : Nat} (h : i < xs.length) : xs.getD i 0 ∈ xs := by
  rw [List.getD_eq_getElem?_getD, List.getElem?_eq_getElem h]
  exact List.getElem_mem h
section
variable {Pg : Program} {w : World} {K : PySem.W.Frag} {mg : Str → Option Value} {base : Heap} {A : Ad}
def P_stands (K : PySem.W.Frag) (A : Ad) : PK' := fun vs H Q E => ∃ (x : Addr) (n : Int) (rs : List Int), vs = [.ref x] ∧ Lad K A.c_Ladder H x n rs ∧ Q (.bl (Lm.stB (-1) (-1) rs)) H
theorem use_stands {x : Addr} {n : Int} {rs : List Int} {H : Hp} {Q : VK} {E : XK} (hL : Lad K A.c_Ladder H x n rs) (q : Q (.bl (Lm.stB (-1) (-1) rs)) H) : P_stands K A ([V.ref x] ++ []) H Q E := ⟨x, n, rs, rfl, hL, q⟩
local macro_rules | `(tactic| wtm_at "e1") => `(tactic| ((with_reducible apply Ll.use_stands); (focus (wtm_at "lad"))))
theorem ok_stands (T : Txt K mg A) : FnOk Pg w K mg base CX0 1 A.f_stands A.d_stands ["ladder"] (spc (P_stands K A)) := by
  refine ok_of T.F_stands sc_stands (fun vs H Q E h => ?_) (fun cdv A' outer s H' E' vs H Q E hr h => ?_)
  · obtain ⟨x, n, rs, rfl, _⟩ := h
    rfl
  · obtain ⟨x, n, rs, rfl, hL, q⟩ := h
    refine ⟨_, (pss_cons (ps_set (i := 1) sc_stands.nd rfl (Or.inl rfl) (pe_un un_neg pe_int))
      (pss_cons (ps_set (i := 2) sc_stands.nd rfl (Or.inl rfl) (pe_un un_neg pe_int))
      (pss_cons (ps_for PassesOwn.never rfl (pi_tup (pe_fldK (K := K) rfl (pv 0) rfl)) (pg_name (i := 3) sc_stands.nd rfl (Or.inl rfl))
      (pss_cons (ps_if (pt_cmpR op_ne (pv 3) (pe_op op_sub (pv 2) pe_int) (nomark _)) (pss_cons (ps_if (pt_cmpR op_le (pv 3) (pv 1) (nomark _)) (pss_one (ps_ret pe_bl)) pss_nil)
      (pss_one (ps_set (i := 1) sc_stands.nd rfl (Or.inl rfl) (pv 3)))) pss_nil)
      (pss_one (ps_set (i := 2) sc_stands.nd rfl (Or.inl rfl) (pv 3)))))
      (pss_one (ps_ret pe_bl))))), ?_⟩
    try dsimp only [L2.cxOf, L2.Cx.nox, L2.Cx.wish]
    show S _ _ _ _ _ [some (.ref x), none, none, none] H
    wtm_at "ev"
    refine s_forT ?_
    wtm_at "ev"
    refine ⟨_, rs.map V.int, rfl, by wtm_at "sqt", fun i σ' Hc => ∃ h l u, σ' = [some (.ref x), some (.int h), some (.int l), u] ∧ Same H Hc ∧ Lm.stB (-1) (-1) rs = Lm.stB h l (rs.drop i), ⟨_, _, _, rfl, by wtm_at "same", rfl⟩, ?_, ?_, ?_⟩
    · rintro i σ' Hc _ ⟨h, l, u, rfl, hs, he⟩
      wtm_at "sqt"
    · rintro i y σ' Hc hy ⟨h, l, u, rfl, hs, he⟩
      rw [List.getElem?_map] at hy
      obtain ⟨r, hr0, rfl⟩ := Option.map_eq_some_iff.mp hy
      have hi := (List.getElem?_eq_some_iff.mp hr0).1
      have hd : rs.drop i = r :: rs.drop (i + 1) := by
        rw [List.drop_eq_getElem_cons hi, (List.getElem?_eq_some_iff.mp hr0).2]
      rw [hd] at he
      wtm_at "ev"
      refine ifn (fun h1 => ?_) (fun h1 => ?_)
      · rw [Lm.stB_cons, if_neg h1] at he
        wtm_at "ev"
        refine ifd (fun h2 => ?_) (fun h2 => ?_)
        · wtm_at "ev"
          rw [decide_eq_false (by omega), Bool.false_and] at he
          rw [he] at q
          exact ⟨_, by wtm_at "same", q⟩
        · wtm_at "ev"
          rw [decide_eq_true (by omega), Bool.true_and] at he
          exact ⟨_, _, _, rfl, hs, he⟩
      · rw [Lm.stB_run h1] at he
        wtm_at "ev"
        exact ⟨_, _, _, rfl, hs, he⟩
    · rintro σ' Hc ⟨h, l, u, rfl, hs, he⟩
      rw [List.length_map, List.drop_length, Lm.stB_nil] at he
      rw [he] at q
      wtm_at "ev"
      exact ⟨_, by wtm_at "same", q⟩
def P_l_stands (K : PySem.W.Frag) : PK' := fun vs H Q E => ∃ (a : Addr) (rs : List Int), vs = [.ref a] ∧ (SqL K H a (rs.map V.int) ∨ H a = some (.tup (rs.map V.int))) ∧ Lm.NN rs ∧ rs.length ≤ 100000 ∧ Q (.bl (Lm.stB (-1) (-1) rs)) H
theorem use_l_stands {a : Addr} {rs : List Int} {H : Hp} {Q : VK} {E : XK} (h1 : SqL K H a (rs.map V.int)) (h2 : Lm.NN rs) (h3 : rs.length ≤ 100000) (q : Q (.bl (Lm.stB (-1) (-1) rs)) H) : P_l_stands K ([V.ref a] ++ []) H Q E := ⟨a, rs, rfl, .inl h1, h2, h3, q⟩
theorem use_l_standsT {a : Addr} {rs : List Int} {H : Hp} {Q : VK} {E : XK} (h1 : H a = some (.tup (rs.map V.int))) (h2 : Lm.NN rs) (h3 : rs.length ≤ 100000) (q : Q (.bl (Lm.stB (-1) (-1) rs)) H) : P_l_stands K ([V.ref a] ++ []) H Q E := ⟨a, rs, rfl, .inr h1, h2, h3, q⟩
local macro_rules | `(tactic| wtm_at "e1") => `(tactic| first | ((with_reducible apply Ll.use_l_standsT); (focus (wtm_at "look")); (focus assumption); (focus (wtm_at "len"))) | ((with_reducible apply Ll.use_l_stands); (focus (wtm_at "sql")); (focus assumption); (focus (wtm_at "len"))))
theorem ok_l_stands (T : Txt K mg A) : FnOk Pg w K mg base CX0 1 A.f_l_stands A.d_l_stands ["_law_rungs"] (spc (P_l_stands K)) := by
  refine ok_of T.F_l_stands sc_l_stands (fun vs H Q E h => ?_) (fun cdv A' outer s H' E' vs H Q E hr h => ?_)
  · obtain ⟨a, rs, rfl, _⟩ := h
    rfl
  · obtain ⟨a, rs, rfl, hS | hS, hn, hz, q⟩ := h
    · refine ⟨_, (pss_cons (ps_setLc (i := 1) (own := [("_law_k", 2)]) (g := gName 2) rfl sc_l_stands.nd rfl rfl (sw_true rfl rfl rfl (by decide +kernel)) (pi_range1 rfl T.n_range (pa_cons (pe_callB (call_lenK (K := K) rfl) (by rfl) T.n_len PySem.boot_len (pa_cons (pv 0) pa_nil)) pa_nil)) (blkOk_by (own := [("_law_k", 2)]) (N := ["_law_rungs", "_law_heads", "_law_k"]) (sc := defScope s_l_stands) (by decide +kernel)) (fun _ _ _ _ _ => (pg_name (i := 2) sc_l_stands.nd rfl (Or.inl rfl))) (fun _ _ _ _ _ => (pts_one (PW.pt (pw_or (pt_cmpR op_eq (pv 2) pe_int (nomark _)) (pw_or1 (pt_cmpR op_ne (pe_ix (ix_listK (K := K) rfl) (pv 0) (pv 2) (fun _ _ => rfl)) (pe_op op_sub (pe_ix (ix_listK (K := K) rfl) (pv 0) (pe_op op_sub (pv 2) pe_int) (fun _ _ => rfl)) pe_int) (nomark _))))))) (fun _ _ _ _ _ => (pv 2)))
      (pss_cons (ps_for PassesOwn.never rfl (pi_range1 rfl T.n_range (pa_cons (pe_op op_sub (pe_callB (call_lenK (K := K) rfl) (by rfl) T.n_len PySem.boot_len (pa_cons (pv 1) pa_nil)) pe_int) pa_nil)) (pg_name (i := 2) sc_l_stands.nd rfl (Or.inl rfl))
      (pss_one (ps_if (pt_cmpR op_ge1 (pe_ix (ix_listK (K := K) rfl) (pv 0) (pe_ix (ix_listK (K := K) rfl) (pv 1) (pv 2) (fun _ _ => rfl)) (fun _ _ => rfl)) (pe_ix (ix_listK (K := K) rfl) (pv 0) (pe_ix (ix_listK (K := K) rfl) (pv 1) (pe_op op_add (pv 2) pe_int) (fun _ _ => rfl)) (fun _ _ => rfl)) (nomark _)) (pss_one (ps_ret pe_bl)) pss_nil)))
      (pss_one (ps_ret pe_bl)))), ?_⟩
      try dsimp only [L2.cxOf, L2.Cx.nox, L2.Cx.wish]
      show S _ _ _ _ _ [some (.ref a), none, none] H
      have hh := Lm.st_heads hn
      wtm_at "ev"
      refine c_lcR1I (fun _ => rfl) (Lm.pH rs) id ?_
      wtm_at "ev"
      refine ⟨rs.length, rfl, by rw [sizeLine_eq]; omega, ?_, ?_, fun D hD => ?_⟩
      · intro i hi
        unfold Lm.pH
        rw [Int.toNat_natCast]
        wtm_at "pure"
      · intro i hi _
        wtm_at "pure"
      rw [List.map_id]
      change La.Free _ D at hD
      have ehd : (Lm.tab rs.length id).filter (Lm.pH rs) = Lm.heads rs := rfl
      rw [ehd]
      have hhl : (Lm.heads rs).length ≤ rs.length := by
        rw [← ehd]
        exact Nat.le_trans (List.length_filter_le _ _) (Nat.le_of_eq (Lm.tab_length _ _))
      wtm_at "ev"
      refine s_forR1 ?_
      wtm_at "ev"
      refine ⟨_, rfl, by omega, by omega, fun k σ' Hc => Same (upd H D (.lst ((Lm.heads rs).map V.int))) Hc ∧ ∃ v, σ' = [some (.ref a), some (.ref D), v] ∧ ∀ j, j < k → (Lm.hv rs).getD j 0 < (Lm.hv rs).getD (j + 1) 0, ⟨Same.refl _, _, rfl, fun j hj => absurd hj (Nat.not_lt_zero _)⟩, ?_, ?_⟩
      · rintro k σ' Hc hk ⟨hs, v, rfl, hj⟩
        have hDc : Hc D = some (.lst ((Lm.heads rs).map V.int)) := hs _ _ upd_same
        have hSc : SqL K Hc a (rs.map V.int) := by wtm_at "sql"
        have ek : ((k : Int) + 1).toNat = k + 1 := by omega
        have hk1 : k < (Lm.heads rs).length := by omega
        have hk2 : k + 1 < (Lm.heads rs).length := by omega
        have hm1 := Lm.heads_in (getD_in hk1)
        have hm2 := Lm.heads_in (getD_in hk2)
        have hm3 : 0 ≤ (Lm.heads rs).getD ((k : Int) + 1).toNat 0 ∧ (Lm.heads rs).getD ((k : Int) + 1).toNat 0 < rs.length := by rw [ek]; exact hm2
        wtm_at "ev"
        rw [ek, Lm.hv_getD hk1, Lm.hv_getD hk2]
        refine ifd (fun hle => ?_) (fun hlt => ?_)
        · wtm_at "ev"
          have hf : Lm.stB (-1) (-1) rs = false := by
            cases e : Lm.stB (-1) (-1) rs with
            | false => rfl
            | true =>
              have := hh.mp e k (by rw [Lm.hv_length]; exact hk2)
              omega
          rw [hf] at q
          exact ⟨_, by wtm_at "same", q⟩
        · wtm_at "ev"
          refine ⟨hs, _, rfl, fun j hj2 => ?_⟩
          by_cases e : j = k
          · rw [e]
            omega
          · exact hj j (by omega)
      · rintro σ' Hc ⟨hs, v, rfl, hj⟩
        have hf : Lm.stB (-1) (-1) rs = true := hh.mpr fun j hj2 => hj j (by rw [Lm.hv_length] at hj2; omega)
        rw [hf] at q
        wtm_at "ev"
        exact ⟨_, by wtm_at "same", q⟩
    · refine ⟨_, (pss_cons (ps_setLc (i := 1) (own := [("_law_k", 2)]) (g := gName 2) rfl sc_l_stands.nd rfl rfl (sw_true rfl rfl rfl (by decide +kernel)) (pi_range1 rfl T.n_range (pa_cons (pe_callB (call_lenK (K := K) rfl) (by rfl) T.n_len PySem.boot_len (pa_cons (pv 0) pa_nil)) pa_nil)) (blkOk_by (own := [("_law_k", 2)]) (N := ["_law_rungs", "_law_heads", "_law_k"]) (sc := defScope s_l_stands) (by decide +kernel)) (fun _ _ _ _ _ => (pg_name (i := 2) sc_l_stands.nd rfl (Or.inl rfl))) (fun _ _ _ _ _ => (pts_one (PW.pt (pw_or (pt_cmpR op_eq (pv 2) pe_int (nomark _)) (pw_or1 (pt_cmpR op_ne (pe_ix (ix_tupK (K := K) rfl) (pv 0) (pv 2) (fun _ _ => rfl)) (pe_op op_sub (pe_ix (ix_tupK (K := K) rfl) (pv 0) (pe_op op_sub (pv 2) pe_int) (fun _ _ => rfl)) pe_int) (nomark _))))))) (fun _ _ _ _ _ => (pv 2)))
      (pss_cons (ps_for PassesOwn.never rfl (pi_range1 rfl T.n_range (pa_cons (pe_op op_sub (pe_callB (call_lenK (K := K) rfl) (by rfl) T.n_len PySem.boot_len (pa_cons (pv 1) pa_nil)) pe_int) pa_nil)) (pg_name (i := 2) sc_l_stands.nd rfl (Or.inl rfl))
      (pss_one (ps_if (pt_cmpR op_ge1 (pe_ix (ix_tupK (K := K) rfl) (pv 0) (pe_ix (ix_listK (K := K) rfl) (pv 1) (pv 2) (fun _ _ => rfl)) (fun _ _ => rfl)) (pe_ix (ix_tupK (K := K) rfl) (pv 0) (pe_ix (ix_listK (K := K) rfl) (pv 1) (pe_op op_add (pv 2) pe_int) (fun _ _ => rfl)) (fun _ _ => rfl)) (nomark _)) (pss_one (ps_ret pe_bl)) pss_nil)))
      (pss_one (ps_ret pe_bl)))), ?_⟩
      try dsimp only [L2.cxOf, L2.Cx.nox, L2.Cx.wish]
      show S _ _ _ _ _ [some (.ref a), none, none] H
      have hh := Lm.st_heads hn
      wtm_at "ev"
      refine c_lcR1I (fun _ => rfl) (Lm.pH rs) id ?_
      wtm_at "ev"
      refine ⟨rs.length, rfl, by rw [sizeLine_eq]; omega, ?_, ?_, fun D hD => ?_⟩
      · intro i hi
        unfold Lm.pH
        rw [Int.toNat_natCast]
        wtm_at "pure"
      · intro i hi _
        wtm_at "pure"
      rw [List.map_id]
      change La.Free _ D at hD
      have ehd : (Lm.tab rs.length id).filter (Lm.pH rs) = Lm.heads rs := rfl
      rw [ehd]
      have hhl : (Lm.heads rs).length ≤ rs.length := by
        rw [← ehd]
        exact Nat.le_trans (List.length_filter_le _ _) (Nat.le_of_eq (Lm.tab_length _ _))
      wtm_at "ev"
      refine s_forR1 ?_
      wtm_at "ev"
      refine ⟨_, rfl, by omega, by omega, fun k σ' Hc => Same (upd H D (.lst ((Lm.heads rs).map V.int))) Hc ∧ ∃ v, σ' = [some (.ref a), some (.ref D), v] ∧ ∀ j, j < k → (Lm.hv rs).getD j 0 < (Lm.hv rs).getD (j + 1) 0, ⟨Same.refl _, _, rfl, fun j hj => absurd hj (Nat.not_lt_zero _)⟩, ?_, ?_⟩
      · rintro k σ' Hc hk ⟨hs, v, rfl, hj⟩
        have hDc : Hc D = some (.lst ((Lm.heads rs).map V.int)) := hs _ _ upd_same
        have hSc : Hc a = some (.tup (rs.map V.int)) := by wtm_at "look"
        have ek : ((k : Int) + 1).toNat = k + 1 := by omega
        have hk1 : k < (Lm.heads rs).length := by omega
        have hk2 : k + 1 < (Lm.heads rs).length := by omega
        have hm1 := Lm.heads_in (getD_in hk1)
        have hm2 := Lm.heads_in (getD_in hk2)
        have hm3 : 0 ≤ (Lm.heads rs).getD ((k : Int) + 1).toNat 0 ∧ (Lm.heads rs).getD ((k : Int) + 1).toNat 0 < rs.length := by rw [ek]; exact hm2
        wtm_at "ev"
        rw [ek, Lm.hv_getD hk1, Lm.hv_getD hk2]
        refine ifd (fun hle => ?_) (fun hlt => ?_)
        · wtm_at "ev"
          have hf : Lm.stB (-1) (-1) rs = false := by
            cases e : Lm.stB (-1) (-1) rs with
            | false => rfl
            | true =>
              have := hh.mp e k (by rw [Lm.hv_length]; exact hk2)
              omega
          rw [hf] at q
          exact ⟨_, by wtm_at "same", q⟩
        · wtm_at "ev"
          refine ⟨hs, _, rfl, fun j hj2 => ?_⟩
          by_cases e : j = k
          · rw [e]
            omega
          · exact hj j (by omega)
      · rintro σ' Hc ⟨hs, v, rfl, hj⟩
        have hf : Lm.stB (-1) (-1) rs = true := hh.mpr fun j hj2 => hj j (by rw [Lm.hv_length] at hj2; omega)
        rw [hf] at q
        wtm_at "ev"
        exact ⟨_, by wtm_at "same", q⟩
end

local macro_rules | `(tactic| wtm_at "e1") => `(tactic| ((with_reducible apply Ll.use_stands); (focus (wtm_at "lad"))))
local macro_rules | `(tactic| wtm_at "e1") => `(tactic| first | ((with_reducible apply Ll.use_l_standsT); (focus (wtm_at "look")); (focus assumption); (focus (wtm_at "len"))) | ((with_reducible apply Ll.use_l_stands); (focus (wtm_at "sql")); (focus assumption); (focus (wtm_at "len"))))
section
variable {Pg : Program} {w : World} {K : PySem.W.Frag} {mg : Str → Option Value} {base : Heap} {A : Ad}
def P_l_rises (K : PySem.W.Frag) : PK' := fun vs H Q E => ∃ (a b : Addr) (ns : List Int), vs = [.ref a, .ref b] ∧ SqL K H a (ns.map V.int) ∧ SqL K H b ((placesL ns).map V.int) ∧ 1 ≤ ns.length ∧ ns.length ≤ 100 ∧ Q (.bl true) H
theorem use_l_rises {a b : Addr} {ns : List Int} {H : Hp} {Q : VK} {E : XK} (h1 : SqL K H a (ns.map V.int)) (h2 : SqL K H b ((placesL ns).map V.int)) (h3 : 1 ≤ ns.length) (h4 : ns.length ≤ 100) (q : Q (.bl true) H) : P_l_rises K ([V.ref a, .ref b] ++ []) H Q E := ⟨a, b, ns, rfl, h1, h2, h3, h4, q⟩
local macro_rules | `(tactic| wtm_at "e1") => `(tactic| ((with_reducible apply Ll.use_l_rises); (focus (wtm_at "sql")); (focus (wtm_at "sql")); (focus omega); (focus omega)))
theorem ok_l_rises (T : Txt K mg A) : FnOk Pg w K mg base CX0 1 A.f_l_rises A.d_l_rises ["_law_numbers", "_law_outcome"] (spc (P_l_rises K)) := by
  refine ok_of T.F_l_rises sc_l_rises (fun vs H Q E h => ?_) (fun cdv A' outer s H' E' vs H Q E hr h => ?_)
  · obtain ⟨a, b, ns, rfl, _⟩ := h
    rfl
  · obtain ⟨a, b, ns, rfl, hS, hB, h1, h2, q⟩ := h
    refine ⟨_, (pss_cons (ps_set (i := 2) sc_l_rises.nd rfl (Or.inl rfl) (pe_op op_rep (pe_lst (pa_cons (pe_un un_neg pe_int) pa_nil)) (pe_callB (call_lenK (K := K) rfl) (by rfl) T.n_len PySem.boot_len (pa_cons (pv 1) pa_nil))))
      (pss_cons (ps_for PassesOwn.never rfl (pi_range1 rfl T.n_range (pa_cons (pe_callB (call_lenK (K := K) rfl) (by rfl) T.n_len PySem.boot_len (pa_cons (pv 1) pa_nil)) pa_nil)) (pg_name (i := 3) sc_l_rises.nd rfl (Or.inl rfl))
      (pss_one (ps_asg (pv 3) (pg_sub (pv 2) (pe_ix (ix_listK (K := K) rfl) (pv 1) (pv 3) (fun _ _ => rfl)) set_list))))
      (pss_cons (ps_if (pt_cmpR (op_inK (K := K) rfl) (pe_un un_neg pe_int) (pv 2) (by with_unfolding_all rfl)) (pss_one (ps_ret pe_bl)) pss_nil)
      (pss_cons (ps_for PassesOwn.never rfl (pi_range1 rfl T.n_range (pa_cons (pe_op op_sub (pe_callB (call_lenK (K := K) rfl) (by rfl) T.n_len PySem.boot_len (pa_cons (pv 2) pa_nil)) pe_int) pa_nil)) (pg_name (i := 3) sc_l_rises.nd rfl (Or.inl rfl))
      (pss_one (ps_if (pt_cmpR (op_gtTK (K := K) rfl hr.units0) (pe_tup (pa_cons (pe_ix (ix_listK (K := K) rfl) (pv 0) (pe_ix (ix_listK (K := K) rfl) (pv 2) (pv 3) (fun _ _ => rfl)) (fun _ _ => rfl)) (pa_cons (pe_ix (ix_listK (K := K) rfl) (pv 2) (pv 3) (fun _ _ => rfl)) pa_nil))) (pe_tup (pa_cons (pe_ix (ix_listK (K := K) rfl) (pv 0) (pe_ix (ix_listK (K := K) rfl) (pv 2) (pe_op op_add (pv 3) pe_int) (fun _ _ => rfl)) (fun _ _ => rfl)) (pa_cons (pe_ix (ix_listK (K := K) rfl) (pv 2) (pe_op op_add (pv 3) pe_int) (fun _ _ => rfl)) pa_nil))) (nomark _)) (pss_one (ps_ret pe_bl)) pss_nil)))
      (pss_one (ps_ret pe_bl)))))), ?_⟩
    try dsimp only [L2.cxOf, L2.Cx.nox, L2.Cx.wish]
    show S _ _ _ _ _ [some (.ref a), some (.ref b), none, none] H
    have hpl := places_length ns
    wtm_at "ev"
    rename_i p0 hp0 p hp
    refine s_forR1 ?_
    wtm_at "ev"
    refine ⟨_, rfl, by omega, by omega, fun k σ' Hc => ∃ u, σ' = [some (.ref a), some (.ref b), some (.ref p), u] ∧ Same H Hc ∧ Hc p = some (.lst ((rowN ns k).map V.int)), ⟨_, rfl, by wtm_at "same", by rw [upd_same, row_zero, hpl]⟩, ?_, ?_⟩
    · rintro k σ' Hc hk ⟨u, rfl, hs, hq⟩
      have hk' : k < ns.length := by omega
      have ht := turns_at ns hk'
      have hst := row_step ns hk'
      have hln := rowN_length ns k
      wtm_at "ev"
      refine ⟨_, rfl, by wtm_at "same", ?_⟩
      rw [upd_same, ← hst]
    rintro σ' Hc ⟨u, rfl, hs, hq⟩
    rw [Int.toNat_natCast, hpl, row_all] at hq
    have hno : inV (V.int (-1)) ((turnsL ns).map V.int) = false := by
      unfold inV
      rw [List.any_map, List.any_eq_false]
      intro s hs
      have := turns_mem.mp hs
      show ¬ (eqV (.int s) (.int (-1))) = true
      simp only [eqV, beq_iff_eq]
      omega
    have htl := turns_length ns
    wtm_at "ev"
    refine r_in (.inl (by wtm_at "sql")) rfl (by rw [List.all_map]; exact List.all_eq_true.mpr fun _ _ => rfl) ?_
    refine ⟨false, by show V.bl (inV _ _) = V.bl false; rw [hno], (fun z => (by cases z)), fun _ => ?_⟩
    wtm_at "ev"
    refine s_forR1 ?_
    wtm_at "ev"
    refine ⟨_, rfl, by omega, by omega, fun k σ' Hc2 => ∃ u, σ' = [some (.ref a), some (.ref b), some (.ref p), u] ∧ Same Hc Hc2, ⟨_, rfl, by wtm_at "same"⟩, ?_, ?_⟩
    · rintro k σ' Hc2 hk ⟨u, rfl, hs2⟩
      have hk' : k + 1 < ns.length := by omega
      have ek : ((k : Int) + 1).toNat = k + 1 := by omega
      have hn := turns_next ns hk'
      have i1 := turns_in ns (show k < ns.length by omega)
      have i2 := turns_in ns hk'
      have i3 := i2
      rw [← ek] at i3
      unfold keyOf at hn
      wtm_at "ev"
      refine r_gtT (by wtm_at "look") (by wtm_at "look") ?_
      refine ⟨_, rfl, ifF (decide_eq_false (by rw [ek]; omega)) ?_⟩
      wtm_at "ev"
      exact ⟨_, rfl, by wtm_at "same"⟩
    · rintro σ' Hc2 ⟨u, rfl, hs2⟩
      wtm_at "ev"
      exact ⟨_, by wtm_at "same", q⟩
end

local macro_rules | `(tactic| wtm_at "e1") => `(tactic| ((with_reducible apply Ll.use_l_rises); (focus (wtm_at "sql")); (focus (wtm_at "sql")); (focus omega); (focus omega)))
theorem std_len (f : Int → Int) : ∀ n : Nat, n ≤ 100 → (Lm.stdN f n).length ≤ 100 * n
  | 0, _ => Nat.le_refl _
  | n + 1, h => by
    show (Lm.stdN f n ++ Lm.desc ((n : Int) - 1) (Lm.kOf f n)).length ≤ _
    rw [List.length_append, Lm.desc_length]
    have h1 := std_len f n (by omega)
    have h2 := Lm.kOf_le f n
    omega
section
variable {Pg : Program} {w : World} {K : PySem.W.Frag} {mg : Str → Option Value} {base : Heap} {A : Ad}
def P_l_made (K : PySem.W.Frag) (A : Ad) : PK' := fun vs H Q E => ∃ (x a : Addr) (ns : List Int), vs = [.ref x, .ref a] ∧ Lad K A.c_Ladder H x (ns.length : Int) (Lm.stdN (xsF ns) ns.length) ∧ SqL K H a (ns.map V.int) ∧ isOut ns = true ∧ Q (.bl true) H
theorem use_l_made {x a : Addr} {ns : List Int} {H : Hp} {Q : VK} {E : XK} (hL : Lad K A.c_Ladder H x (ns.length : Int) (Lm.stdN (xsF ns) ns.length)) (hS : SqL K H a (ns.map V.int)) (ho : isOut ns = true) (q : Q (.bl true) H) : P_l_made K A ([V.ref x, .ref a] ++ []) H Q E := ⟨x, a, ns, rfl, hL, hS, ho, q⟩
theorem ok_l_made (T : Txt K mg A) : FnOk Pg w K mg base CX0 3 A.f_l_made A.d_l_made ["_law_found", "_law_outcome"] (spc (P_l_made K A)) := by
  refine ok_of T.F_l_made sc_l_made (fun vs H Q E h => ?_) (fun cdv A' outer s H' E' vs H Q E hr h => ?_)
  · obtain ⟨x, a, ns, rfl, _⟩ := h
    rfl
  · obtain ⟨x, a, ns, rfl, hL, hS, ho, q⟩ := h
    refine ⟨_, (pss_cons (ps_if (PW.pt (pw_or (pt_not (pt_val (pe_callB (call_isiK (K := K) rfl) (by rfl) T.n_isinstance (by decide +kernel) (pa_cons (pv 0) (pa_cons (pe_glob (v := .ref A.c_Ladder) rfl T.g_Ladder rfl) pa_nil))))) (pw_or (pt_not (pt_val (pe_call (ok_l_whole T) (hr.mono (by decide)) rfl T.g_l_whole T.F_l_whole.kp T.b_l_whole .nil pass0 (pa_cons (pe_fldK (K := K) rfl (pv 0) rfl) pa_nil)))) (pw_or1 (pt_cmpR op_ne (pe_fldK (K := K) rfl (pv 0) rfl) (pe_callB (call_lenK (K := K) rfl) (by rfl) T.n_len PySem.boot_len (pa_cons (pv 1) pa_nil)) (nomark _)))))) (pss_one (ps_ret pe_bl)) pss_nil)
      (pss_cons (ps_if (PW.pt (pw_or (pt_not (pt_val (pe_callB (call_isiK (K := K) rfl) (by rfl) T.n_isinstance (by decide +kernel) (pa_cons (pe_fldK (K := K) rfl (pv 0) rfl) (pa_cons (pe_bltn (v := .ty "tuple") (by rfl) T.n_tuple (by decide +kernel) rfl) pa_nil))))) (pw_or1 (pt_not (pt_val (pe_call (ok_l_stands T) (hr.mono (by decide)) rfl T.g_l_stands T.F_l_stands.kp T.b_l_stands .nil pass0 (pa_cons (pe_fldK (K := K) rfl (pv 0) rfl) pa_nil))))))) (pss_one (ps_ret pe_bl)) pss_nil)
      (pss_cons (ps_set (i := 2) sc_l_made.nd rfl (Or.inl rfl) (pe_listRg rfl (by rfl) T.n_list (prg_1 (by rfl) T.n_range (pe_callB (call_lenK (K := K) rfl) (by rfl) T.n_len PySem.boot_len (pa_cons (pv 1) pa_nil)))))
      (pss_cons (ps_set (i := 3) sc_l_made.nd rfl (Or.inl rfl) (pe_lst pa_nil))
      (pss_cons (ps_for PassesOwn.never rfl (pi_tup (pe_fldK (K := K) rfl (pv 0) rfl)) (pg_name (i := 4) sc_l_made.nd rfl (Or.inl rfl))
      (pss_cons (ps_if (PW.pt (pw_or (pt_not (pt_val (pe_call (ok_l_whole T) (hr.mono (by decide)) rfl T.g_l_whole T.F_l_whole.kp T.b_l_whole .nil pass0 (pa_cons (pv 4) pa_nil)))) (pw_or (pt_cmpR op_lt (pv 4) pe_int (nomark _)) (pw_or (pt_cmpR op_ge1 (pe_op op_add (pv 4) pe_int) (pe_callB (call_lenK (K := K) rfl) (by rfl) T.n_len PySem.boot_len (pa_cons (pv 2) pa_nil)) (nomark _)) (pw_or1 (pt_cmpR op_gt1 (pe_ix (ix_listK (K := K) rfl) (pv 2) (pv 4) (fun _ _ => rfl)) (pe_ix (ix_listK (K := K) rfl) (pv 2) (pe_op op_add (pv 4) pe_int) (fun _ _ => rfl)) (nomark _))))))) (pss_one (ps_ret pe_bl)) pss_nil)
      (pss_cons (ps_set (i := 5) sc_l_made.nd rfl (Or.inl rfl) (pe_ix (ix_listK (K := K) rfl) (pv 2) (pv 4) (fun _ _ => rfl)))
      (pss_cons (ps_expr (pe_bm PySem.F.plainAttrs_list PySem.F.slot_list_append PySem.F.type_list_append mt_append (pv 3) (pa_cons (pe_tup (pa_cons (pv 5) (pa_cons (pe_ix (ix_listK (K := K) rfl) (pv 2) (pe_op op_add (pv 4) pe_int) (fun _ _ => rfl)) pa_nil))) pa_nil)))
      (pss_cons (ps_asg (pe_ix (ix_listK (K := K) rfl) (pv 2) (pe_op op_add (pv 4) pe_int) (fun _ _ => rfl)) (pg_sub (pv 2) (pv 4) set_list))
      (pss_one (ps_asg (pv 5) (pg_sub (pv 2) (pe_op op_add (pv 4) pe_int) set_list))))))))
      (pss_cons (ps_for PassesOwn.never rfl (pi_range1 rfl T.n_range (pa_cons (pe_callB (call_lenK (K := K) rfl) (by rfl) T.n_len PySem.boot_len (pa_cons (pv 2) pa_nil)) pa_nil)) (pg_name (i := 6) sc_l_made.nd rfl (Or.inl rfl))
      (pss_one (ps_if (pt_cmpR op_ne (pe_ix (ix_listK (K := K) rfl) (pv 1) (pe_ix (ix_listK (K := K) rfl) (pv 2) (pv 6) (fun _ _ => rfl)) (fun _ _ => rfl)) (pv 6) (nomark _)) (pss_one (ps_ret pe_bl)) pss_nil)))
      (pss_one (ps_ret (pe_cmpR (op_eqDK (K := K) rfl hr.units) (pe_callB (cr_sortedPK (K := K) rfl) (by rfl) T.n_sorted (by decide +kernel) (pa_cons (pv 3) pa_nil)) (pe_call (ok_must T) (hr.mono (by decide)) rfl T.g_must T.F_must.kp T.b_must .nil passL (pa_cons (pv 1) pa_nil)) (nomark _)))))))))), ?_⟩
    try dsimp only [L2.cxOf, L2.Cx.nox, L2.Cx.wish]
    show S _ _ _ _ _ [some (.ref x), some (.ref a), none, none, none, none, none] H
    obtain ⟨hper, h1, h2⟩ := isOut_perm ho
    have hfw : ∀ w : Int, 0 ≤ w → w < ns.length → Lm.fwd (Lm.stdN (xsF ns) ns.length) w = xsF ns w := fun w a b => Lm.std_fwd hper a b
    have hz := std_len (xsF ns) ns.length h2
    obtain ⟨hok, _, hni, hst⟩ := Lm.form_all hper.inj ns.length (Nat.le_refl _)
    generalize Lm.stdN (xsF ns) ns.length = rs at *
    have hnn : Lm.NN rs := hok.nn
    have hz' : rs.length ≤ 100000 := by omega
    wtm_at "ev"
    rw [hst]
    refine ifF rfl ?_
    wtm_at "ev"
    rename_i p1 hp1 p2 hp2
    change Free H p1 at hp1
    have h12 : p1 ≠ p2 := by wtm_at "ne"
    have hf2 : Free H p2 := by wtm_at "fre"
    refine s_forT ?_
    wtm_at "ev"
    rename_i t ht
    have hpt : p2 ≠ t := fun e => by
      rw [e, upd_same] at ht
      cases ht
    have hpt1 : p1 ≠ t := fun e => by
      rw [e, upd_ne (Ne.symm hpt), upd_same] at ht
      cases ht
    refine ⟨t, _, rfl, by wtm_at "sqt", fun i σ' Hc => ∃ u v ys, σ' = [some (.ref x), some (.ref a), some (.ref p1), some (.ref p2), u, v, none] ∧ Same H Hc ∧ Hc p1 = some (.lst ((Lm.feet ns.length (rs.take i)).map V.int)) ∧ Hc p2 = some (.lst ys) ∧ ys.length ≤ i ∧ Hc t = some (.tup (rs.map V.int)) ∧ PrA Hc ys (Lm.metL (rs.take i)), ⟨_, _, [], rfl, by wtm_at "same", by rw [upd_ne h12, upd_same]; rfl, upd_same, Nat.le_refl _, ht, .nil⟩, ?_, ?_, ?_⟩
    · rintro i σ' Hc _ ⟨u, v, ys, rfl, hs, hq1, hq2, hly, hqt, hy⟩
      exact SqT.of hqt
    · rintro i y σ' Hc hy ⟨u, v, ys, rfl, hs, hq1, hq2, hly, hqt, hys⟩
      rw [List.getElem?_map] at hy
      obtain ⟨r0, hr0, rfl⟩ := Option.map_eq_some_iff.mp hy
      have hr := hok r0 (List.mem_of_getElem? hr0)
      have hnc := hni i r0 hr0
      have hil : i < rs.length := (List.getElem?_eq_some_iff.mp hr0).1
      obtain ⟨k, rfl⟩ := Int.eq_ofNat_of_zero_le hr.1
      have hl : (Lm.feet ns.length (rs.take i)).length = ns.length := Lm.tab_length _ _
      have hst := Lm.feet_set (rs := rs.take i) (n := ns.length) (r := k) (by omega)
      rw [← Lm.take_snoc hr0] at hst
      have em := Lm.metL_snoc (rs.take i) k
      rw [← Lm.take_snoc hr0] at em
      have ek : ((k : Int) + 1).toNat = k + 1 := by omega
      have g1 : (Lm.feet ns.length (rs.take i)).getD k 0 = Lm.bwd (rs.take i) k := Lm.tab_getD _ (by omega)
      have g2 : (Lm.feet ns.length (rs.take i)).getD (k + 1) 0 = Lm.bwd (rs.take i) ((k : Int) + 1) := Lm.tab_getD _ (by omega)
      wtm_at "ev"
      refine ifF (by rw [ek, g1, g2, hl]; simp; omega) ?_
      wtm_at "ev"
      rename_i T hT
      refine ⟨_, _, ys ++ [.ref T], rfl, ?_, ?_, ?_, by rw [List.length_append]; show _ + 1 ≤ _; omega, ?_, ?_⟩
      · wtm_at "same"
      · rw [upd_same, ← hst, ek, Int.toNat_natCast]
      · wtm_at "look"
      · wtm_at "look"
      · rw [em]
        refine ((((hys.new hT).mut (by wtm_at "look")).mut (by wtm_at "look")).mut (by wtm_at "look")).snoc ⟨T, rfl, ?_⟩
        show _ = some (HO.tup [.int (Lm.bwd (rs.take i) k), .int (Lm.bwd (rs.take i) ((k : Int) + 1))])
        rw [← g1, ← g2]
        have hT1 : T ≠ p1 := by wtm_at "ne"
        have hT2 : T ≠ p2 := by wtm_at "ne"
        rw [upd_ne hT1, upd_ne hT1, upd_ne hT2, upd_same, ek]
    · rintro σ' Hc ⟨u, v, ys, rfl, hs, hq1, hq2, hly, hqt, hy⟩
      rw [List.length_map, List.take_length] at hq1 hy
      rw [List.length_map] at hly
      wtm_at "ev"
      have hfl : (Lm.feet ns.length rs).length = ns.length := Lm.tab_length _ _
      refine s_forR1 ?_
      wtm_at "ev"
      refine ⟨_, rfl, by omega, by omega, fun k σ' Hd => ∃ w, σ' = [some (.ref x), some (.ref a), some (.ref p1), some (.ref p2), u, v, w] ∧ Same Hc Hd, ⟨_, rfl, by wtm_at "same"⟩, ?_, ?_⟩
      · rintro k σ' Hd hk ⟨w, rfl, hsd⟩
        have hk' : k < ns.length := by omega
        have hb := Lm.bwd_ok hok (w := (k : Int)) (by omega)
        have g1 : (Lm.feet ns.length rs).getD k 0 = Lm.bwd rs k := Lm.tab_getD _ hk'
        have hb1 : 0 ≤ (Lm.feet ns.length rs).getD k 0 ∧ (Lm.feet ns.length rs).getD k 0 < ns.length := by rw [g1]; exact hb
        have hx := hfw _ hb.1 hb.2
        rw [Lm.fwd_bwd] at hx
        unfold xsF at hx
        wtm_at "ev"
        rw [g1]
        refine ifn (fun z => absurd hx.symm z) (fun _ => ?_)
        wtm_at "ev"
        exact ⟨_, rfl, by wtm_at "same"⟩
      · rintro σ' Hd ⟨w, rfl, hsd⟩
        have hyd : PrA Hd ys (Lm.metL rs) := PrA.same hsd hy
        have hkd : Hd p2 = some (.lst ys) := hsd _ _ hq2
        have hxs : Lm.crossX (xsF ns) ns.length = Lm.crossX (Lm.fwd rs) ns.length := Lm.crossX_congr fun i hi => (hfw _ (by omega) (by omega)).symm
        wtm_at "ev"
        rw [Lm.nice_srt hok hni, hxs, decide_eq_true rfl]
        exact ⟨_, by wtm_at "same", q⟩
end


section
variable {Pg : Program} {w : World} {K : PySem.W.Frag} {mg : Str → Option Value} {base : Heap} {A : Ad}
def P_l_refused (K : PySem.W.Frag) : PK' := fun vs H Q E => ∃ (a : Addr) (ns : List Int), vs = [.ref a] ∧ SqL K H a (ns.map V.int) ∧ ns.length ≤ 100000 ∧ Q (.bl (!isOut ns)) H
theorem use_l_refused {a : Addr} {ns : List Int} {H : Hp} {Q : VK} {E : XK} (hS : SqL K H a (ns.map V.int)) (hz : ns.length ≤ 100000) (q : Q (.bl (!isOut ns)) H) : P_l_refused K ([V.ref a] ++ []) H Q E := ⟨a, ns, rfl, hS, hz, q⟩
local macro_rules | `(tactic| wtm_at "e1") => `(tactic| ((with_reducible apply Ll.use_l_refused); (focus (wtm_at "sql")); (focus (wtm_at "len"))))
theorem ok_l_refused (T : Txt K mg A) : FnOk Pg w K mg base CX0 4 A.f_l_refused A.d_l_refused ["_law_outcome"] (spc (P_l_refused K)) := by
  refine ok_of T.F_l_refused sc_l_refused (fun vs H Q E h => ?_) (fun cdv A' outer s H' E' vs H Q E hr h => ?_)
  · obtain ⟨a, ns, rfl, _⟩ := h
    rfl
  · obtain ⟨a, ns, rfl, hS, hz, q⟩ := h
    refine ⟨_, (pss_cons (ps_tryAs (i := 1) (tb := _) (ts := _) rfl rfl sc_l_refused.nd rfl rfl ⟨rfl, by decide, .inl T.g_LotError⟩ (fun W pn xe tk hp => (pss_one (ps_expr (pe_callS (E := WE W) (ok_standing T) (hr.mono (by decide)) rfl T.g_standing T.F_standing.kp T.b_standing (fun σ => passAt tk σ) (pa_cons (pv 0) pa_nil)))))
      (fun a oe cls d pn hz hf => (pss_one (ps_ret (pe_and (pe_callB (call_isX hz hf) (by rfl) T.n_isinstance (by decide +kernel) (pa_cons (pv 1) (pa_cons (pe_glob (v := .ref A.c_NoOutcome) rfl T.g_NoOutcome rfl) pa_nil))) (pe_one (pe_not (pe_callB (call_isX hz hf) (by rfl) T.n_isinstance (by decide +kernel) (pa_cons (pv 1) (pa_cons (pe_glob (v := .ref A.c_NoPost) rfl T.g_NoPost rfl) pa_nil))))))))))
      (pss_one (ps_ret pe_bl))), ?_⟩
    try dsimp only [L2.cxOf, L2.Cx.nox, L2.Cx.wish]
    show S _ _ _ _ _ [some (.ref a), none] H
    wtm_at "ev"
    refine s_tryAs fun W hW => ?_
    wtm_at "ev"
    refine c_callS ?_
    wtm_at "ev"
    cases ho : isOut ns with
    | false =>
      rw [ho] at q
      refine ⟨_, fun c d H1 H2 h e => hW _ _ _ _ _ h e, a, ns, rfl, hS, hz, .inl ⟨ho, T.exm_NoOutcome_LotError, fun b hb => ?_⟩⟩
      wtm_at "ev"
      exact ⟨_, by wtm_at "same", q⟩
    | true =>
      rw [ho] at q
      refine ⟨_, fun c d H1 H2 h e => hW _ _ _ _ _ h e, a, ns, rfl, hS, hz, .inr ⟨ho, fun p Hn hp hs hl => ?_⟩⟩
      wtm_at "ev"
      exact ⟨_, by wtm_at "same", q⟩
def P_l_no_places (K : PySem.W.Frag) : PK' := fun vs H Q E => ∃ (a : Addr) (ns : List Int), vs = [.ref a] ∧ SqL K H a (ns.map V.int) ∧ ns.length ≤ 1000 ∧ (ns.length < 1 ∨ 100 < ns.length) ∧ Q (.bl true) H
theorem use_l_no_places {a : Addr} {ns : List Int} {H : Hp} {Q : VK} {E : XK} (hS : SqL K H a (ns.map V.int)) (hz : ns.length ≤ 1000) (ho : ns.length < 1 ∨ 100 < ns.length) (q : Q (.bl true) H) : P_l_no_places K ([V.ref a] ++ []) H Q E := ⟨a, ns, rfl, hS, hz, ho, q⟩
theorem ok_l_no_places (T : Txt K mg A) (TB : LamX.TabB base mg A.c_code A.c_tab) : FnOk Pg w K mg base CX0 2 A.f_l_no_places A.d_l_no_places ["_law_numbers"] (spc (P_l_no_places K)) := by
  refine ok_of T.F_l_no_places sc_l_no_places (fun vs H Q E h => ?_) (fun cdv A' outer s H' E' vs H Q E hr h => ?_)
  · obtain ⟨a, ns, rfl, _⟩ := h
    rfl
  · obtain ⟨a, ns, rfl, hS, hz, ho, q⟩ := h
    refine ⟨_, (pss_cons (ps_tryAs (i := 1) (tb := _) (ts := _) rfl rfl sc_l_no_places.nd rfl rfl ⟨rfl, by decide, .inl T.g_LotError⟩ (fun W pn xe tk hp => (pss_one (ps_expr (pe_callS (E := WE W) (ok_places T TB) (hr.mono (by decide)) rfl T.g_places T.F_places.kp T.b_places (fun σ => passAt tk σ) (pa_cons (pv 0) pa_nil)))))
      (fun a oe cls d pn hz hf => (pss_one (ps_ret (pe_and (pe_callB (call_isX hz hf) (by rfl) T.n_isinstance (by decide +kernel) (pa_cons (pv 1) (pa_cons (pe_glob (v := .ref A.c_NoOutcome) rfl T.g_NoOutcome rfl) pa_nil))) (pe_one (pe_not (pe_callB (call_isX hz hf) (by rfl) T.n_isinstance (by decide +kernel) (pa_cons (pv 1) (pa_cons (pe_glob (v := .ref A.c_NoPost) rfl T.g_NoPost rfl) pa_nil))))))))))
      (pss_one (ps_ret pe_bl))), ?_⟩
    try dsimp only [L2.cxOf, L2.Cx.nox, L2.Cx.wish]
    show S _ _ _ _ _ [some (.ref a), none] H
    wtm_at "ev"
    refine s_tryAs fun W hW => ?_
    wtm_at "ev"
    refine c_callS ?_
    wtm_at "ev"
    refine ⟨_, fun c d H1 H2 h e => hW _ _ _ _ _ h e, a, ns, rfl, hS, hz, .inl ⟨ho, T.exm_NoOutcome_LotError, fun b hb => ?_⟩⟩
    wtm_at "ev"
    exact ⟨_, by wtm_at "same", q⟩
end

local macro_rules | `(tactic| wtm_at "e1") => `(tactic| ((with_reducible apply Ll.use_l_refused); (focus (wtm_at "sql")); (focus (wtm_at "len"))))
section
variable {Pg : Program} {w : World} {K : PySem.W.Frag} {mg : Str → Option Value} {base : Heap} {A : Ad}
def P_l_spoiled (K : PySem.W.Frag) : PK' := fun vs H Q E => ∃ (a : Addr) (ns : List Int) (c m : Int), vs = [.ref a, .int c, .int m] ∧ H a = some (.lst (ns.map V.int)) ∧ 1 ≤ ns.length ∧ ns.length ≤ 100 ∧ ∀ p (ms : List Int), ms.length ≤ 200 → H p = none → Q (.ref p) (upd H p (.lst (ms.map V.int)))
theorem use_l_spoiled {a : Addr} {ns : List Int} {c m : Int} {H : Hp} {Q : VK} {E : XK} (hS : H a = some (.lst (ns.map V.int))) (h1 : 1 ≤ ns.length) (h2 : ns.length ≤ 100) (q : ∀ p (ms : List Int), ms.length ≤ 200 → H p = none → Q (.ref p) (upd H p (.lst (ms.map V.int)))) : P_l_spoiled K ([V.ref a, .int c, .int m] ++ []) H Q E := ⟨a, ns, c, m, rfl, hS, h1, h2, q⟩
theorem ok_l_spoiled (T : Txt K mg A) : FnOk Pg w K mg base CX0 1 A.f_l_spoiled A.d_l_spoiled ["_law_ends", "_law_cell", "_law_number"] (spc (P_l_spoiled K)) := by
  refine ok_of T.F_l_spoiled sc_l_spoiled (fun vs H Q E h => ?_) (fun cdv A' outer s H' E' vs H Q E hr h => ?_)
  · obtain ⟨a, ns, c, m, rfl, _⟩ := h
    rfl
  · obtain ⟨a, ns, c, m, rfl, hS, h1, h2, q⟩ := h
    refine ⟨_, (pss_cons (ps_set (i := 3) sc_l_spoiled.nd rfl (Or.inl rfl) (pe_op op_mod (pe_op op_fdiv (pv 1) pe_int) (pe_callB (call_lenK (K := K) rfl) (by rfl) T.n_len PySem.boot_len (pa_cons (pv 0) pa_nil))))
      (pss_cons (ps_set (i := 4) sc_l_spoiled.nd rfl (Or.inl rfl) (pe_op op_mod (pv 1) pe_int))
      (pss_cons (ps_if (pt_cmpR op_eq (pv 4) pe_int (nomark _)) (pss_one (ps_ret (pe_op op_cat (pv 0) (pe_lst (pa_cons (pe_op op_mod (pv 2) (pe_op op_add (pe_callB (call_lenK (K := K) rfl) (by rfl) T.n_len PySem.boot_len (pa_cons (pv 0) pa_nil)) pe_int)) pa_nil))))) pss_nil)
      (pss_cons (ps_if (pt_cmpR op_eq (pv 4) pe_int (nomark _)) (pss_one (ps_ret (pe_op op_cat (pe_slice (sl_listK (K := K) rfl) (pv 0) po_none (po_some (pv 3))) (pe_slice (sl_listK (K := K) rfl) (pv 0) (po_some (pe_op op_add (pv 3) pe_int)) po_none)))) pss_nil)
      (pss_cons (ps_if (pt_cmpR op_eq (pv 4) pe_int (nomark _)) (pss_one (ps_ret (pe_listRg rfl (by rfl) T.n_list (prg_1 (by rfl) T.n_range (pe_ix (ix_listK (K := K) rfl) (pe_lst (pa_cons pe_int (pa_cons pe_int pa_nil))) (pe_op op_mod (pv 3) pe_int) (fun _ _ => rfl)))))) pss_nil)
      (pss_cons (ps_if (pt_cmpR op_eq (pv 4) pe_int (nomark _)) (pss_cons (ps_set (i := 5) sc_l_spoiled.nd rfl (Or.inl rfl) (pe_callTy (call_listK (K := K) rfl) (by rfl) T.n_list (by decide +kernel) (pa_cons (pv 0) pa_nil)))
      (pss_cons (ps_asg (pe_op op_add (pe_ix (ix_listK (K := K) rfl) (pv 5) (pv 3) (fun _ _ => rfl)) pe_int) (pg_sub (pv 5) (pv 3) set_list))
      (pss_cons (ps_asg (pe_op op_sub (pe_ix (ix_listK (K := K) rfl) (pv 5) (pe_op op_mod (pv 2) (pe_callB (call_lenK (K := K) rfl) (by rfl) T.n_len PySem.boot_len (pa_cons (pv 0) pa_nil))) (fun _ _ => rfl)) pe_int) (pg_sub (pv 5) (pe_op op_mod (pv 2) (pe_callB (call_lenK (K := K) rfl) (by rfl) T.n_len PySem.boot_len (pa_cons (pv 0) pa_nil))) set_list))
      (pss_one (ps_ret (pv 5)))))) pss_nil)
      (pss_one (ps_ret (pe_op op_cat (pe_op op_cat (pe_slice (sl_listK (K := K) rfl) (pv 0) po_none (po_some (pv 3))) (pe_lst (pa_cons (pe_ix (ix_listK (K := K) rfl) (pe_lst (pa_cons (pe_un un_neg pe_int) (pa_cons (pe_callB (call_lenK (K := K) rfl) (by rfl) T.n_len PySem.boot_len (pa_cons (pv 0) pa_nil)) (pa_cons (pe_ix (ix_listK (K := K) rfl) (pv 0) (pe_op op_mod (pv 2) (pe_callB (call_lenK (K := K) rfl) (by rfl) T.n_len PySem.boot_len (pa_cons (pv 0) pa_nil))) (fun _ _ => rfl)) (pa_cons (pv 2) pa_nil))))) (pv 4) (fun _ _ => rfl)) pa_nil))) (pe_slice (sl_listK (K := K) rfl) (pv 0) (po_some (pe_op op_add (pv 3) pe_int)) po_none)))))))))), ?_⟩
    try dsimp only [L2.cxOf, L2.Cx.nox, L2.Cx.wish]
    show S _ _ _ _ _ [some (.ref a), some (.int c), some (.int m), none, none, none] H
    have hl0 : (0 : Int) < ns.length := by omega
    have hl1 : (0 : Int) ≤ ns.length := by omega
    have i1 := Int.emod_nonneg (c / 8) (show (ns.length : Int) ≠ 0 by omega)
    have i2 := Int.emod_lt_of_pos (c / 8) hl0
    have j1 := Int.emod_nonneg m (show (ns.length : Int) ≠ 0 by omega)
    have j2 := Int.emod_lt_of_pos m hl0
    wtm_at "ev"
    refine ifd (fun h => ?_) (fun h => ?_)
    · wtm_at "ev"
      replace q := fun p => q p (ns ++ [m % ((ns.length : Int) + 2)]) (by simp; omega)
      wtm_at "ret"
    wtm_at "ev"
    refine ifd (fun h => ?_) (fun h => ?_)
    · wtm_at "ev"
      replace q := fun p => q p (ns.take (c / 8 % (ns.length : Int)).toNat ++ ns.drop (c / 8 % (ns.length : Int) + 1).toNat) (by simp; omega)
      wtm_at "ret"
    wtm_at "ev"
    refine ifd (fun h => ?_) (fun h => ?_)
    · wtm_at "ev"
      wtm_at "pick"
      intro v hv
      obtain ⟨z, rfl, hz⟩ : ∃ z : Nat, v = .int z ∧ z ≤ 101 := by
        simp only [List.mem_cons, List.not_mem_nil, or_false] at hv
        rcases hv with rfl | rfl
        · exact ⟨0, rfl, by omega⟩
        · exact ⟨101, rfl, by omega⟩
      wtm_at "ev"
      replace q := fun p => q p (Lm.tab z id) (by rw [Lm.tab_length]; omega)
      wtm_at "ret"
    wtm_at "ev"
    refine ifd (fun h => ?_) (fun h => ?_)
    · wtm_at "ev"
      rename_i p hp
      exact up_new (fun p => q p _ (by simp only [List.length_set]; omega)) (by wtm_at "same") hp upd_same
    wtm_at "ev"
    wtm_at "pick"
    intro v hv
    obtain ⟨z, rfl⟩ : ∃ z, v = .int z := by
      simp only [List.mem_cons, List.not_mem_nil, or_false] at hv
      rcases hv with rfl | rfl | rfl | rfl <;> exact ⟨_, rfl⟩
    wtm_at "ev"
    replace q := fun p => q p (ns.take (c / 8 % (ns.length : Int)).toNat ++ [z] ++ ns.drop (c / 8 % (ns.length : Int) + 1).toNat) (by simp; omega)
    wtm_at "ret"
end


def carL (n : Nat) (rs : List Int) (xs : List V) : List V := (Lm.feet n rs).map fun w => xs.getD w.toNat .non
theorem carL_length (n : Nat) (rs : List Int) (xs : List V) : (carL n rs xs).length = n := by unfold carL; rw [List.length_map]; exact Lm.tab_length _ _
theorem carL_at {n : Nat} {rs : List Int} {xs : List V} (hok : Lm.Ok (n : Int) rs) {k : Nat} (hk : k < n) : atI (carL n rs xs) (Lm.fwd rs k) = some (xs.getD k .non) := by
  have hb := Lm.fwd_ok hok (w := (k : Int)) (by omega)
  obtain ⟨m, hm⟩ := Int.eq_ofNat_of_zero_le hb.1
  rw [hm]
  refine atI_nat ?_
  have hl : m < (Lm.tab n (Lm.bwd rs)).length := by rw [Lm.tab_length]; omega
  unfold carL Lm.feet
  rw [List.getElem?_map, List.getElem?_eq_getElem hl, Lm.tab_get, ← hm, Lm.bwd_fwd]
  show some (xs.getD (k : Int).toNat .non) = _
  rw [Int.toNat_natCast]
section
variable {Pg : Program} {w : World} {K : PySem.W.Frag} {mg : Str → Option Value} {base : Heap} {A : Ad}
def P_carried (K : PySem.W.Frag) (A : Ad) : PK' := fun vs H Q E => ∃ (x a : Addr) (n : Nat) (rs : List Int) (xs : List V), vs = [.ref x, .ref a] ∧ Lad K A.c_Ladder H x (n : Int) rs ∧ n ≤ 1000 ∧ Lm.Ok (n : Int) rs ∧ SqL K H a xs ∧
  ((xs.length ≠ n ∧ E (.ref A.c_Unlike) none H) ∨ (xs.length = n ∧ ∀ p, H p = none → Q (.ref p) (upd H p (.lst (carL n rs xs)))))
theorem use_carried {x a : Addr} {n : Nat} {rs : List Int} {xs : List V} {H : Hp} {Q : VK} {E : XK} (hL : Lad K A.c_Ladder H x (n : Int) rs) (hn : n ≤ 1000) (hok : Lm.Ok (n : Int) rs) (hS : SqL K H a xs) (hl : xs.length = n) (q : ∀ p, H p = none → Q (.ref p) (upd H p (.lst (carL n rs xs)))) : P_carried K A (V.ref x :: ([V.ref a] ++ [])) H Q E := ⟨x, a, n, rs, xs, rfl, hL, hn, hok, hS, .inr ⟨hl, q⟩⟩
local macro_rules | `(tactic| wtm_at "e1") => `(tactic| ((with_reducible apply Ll.use_carried); (focus (wtm_at "lad")); (focus (wtm_at "len")); (focus (wtm_at "ok")); (focus (wtm_at "sql")); (focus (first | assumption | (simp; omega) | (simp; done))); intro p' hp'; change La.Free _ p' at hp'))
theorem ok_carried (T : Txt K mg A) : FnOk Pg w K mg base (L2.CX Pg w) 2 A.f_carried A.d_carried ["self", "things"] (spc (P_carried K A)) := by
  refine okX_of T.F_carried sc_carried (fun vs H Q E h => ?_) (fun cdv A' outer s H' E' vs H Q E hr hE h => ?_)
  · obtain ⟨x, a, n, rs, xs, rfl, _⟩ := h
    rfl
  · obtain ⟨x, a, n, rs, xs, rfl, hL, hn, hok, hS, hw⟩ := h
    refine ⟨_, (pss_cons (ps_if (pt_cmpR op_ne (pe_callB (call_lenK (K := K) rfl) (by rfl) T.n_len PySem.boot_len (pa_cons (pv 1) pa_nil)) (pe_fldK (K := K) rfl (pv 0) rfl) (nomark _)) (pss_one (ps_raise0 rfl (takes_of rfl rfl rfl rfl) PySem.F.excBase_ValueError T.x_Unlike T.g_Unlike T.k_Unlike (raises_own T.bs_Unlike T.ty_Unlike))) pss_nil)
      (pss_one (ps_ret (pe_lc (own := [("walker", 2)]) (g := gName 2) (tt := tYes) rfl sc_carried.nd (pi_list (pe_meth0 (pv 0) T.cl T.m_feet (ok_feet T) (hr.mono (by decide)) T.b_feet .nil pass0)) (blkOk_by (own := [("walker", 2)]) (N := ["self", "things", "walker"]) (sc := defScope s_carried) (by decide +kernel)) (fun _ _ _ _ _ => (pg_name (i := 2) sc_carried.nd rfl (Or.inl rfl))) (fun _ _ _ _ _ => pts_nil) (fun _ _ _ _ _ => (pe_ix (ix_listK (K := K) rfl) (pv 1) (pv 2) (fun _ _ => rfl))))))), ?_⟩
    try dsimp only [L2.cxOf, L2.Cx.nox, L2.Cx.wish]
    show S _ _ _ _ _ [some (.ref x), some (.ref a), none] H
    wtm_at "ev"
    refine ifn (fun hb => ?_) (fun hb => ?_)
    · rcases hw with ⟨_, hq⟩ | ⟨hl, _⟩
      · refine s_raise0 ?_
        exact fun H1 e1 => hE _ _ _ _ hq e1
      · omega
    rcases hw with ⟨hl, _⟩ | ⟨hl, q⟩
    · omega
    wtm_at "ev"
    refine c_lcL (fun _ => rfl) (fun _ => true) (fun v => match v with | .int w => xs.getD w.toNat .non | _ => .non) ?_
    wtm_at "ev"
    refine ⟨_, _, rfl, by wtm_at "sql", ?_, ?_, ?_, ?_⟩
    · rw [List.length_map, show (Lm.feet n rs).length = n from Lm.tab_length _ _, sizeLine_eq]
      omega
    · intro y hy Hc hc
      wtm_at "ev"
      exact ⟨rfl, Same.refl _⟩
    · intro y hy _ Hc hc
      obtain ⟨r, hr, rfl⟩ := List.mem_map.mp hy
      obtain ⟨i, hi, rfl⟩ := Lm.mem_tab.mp hr
      have hb := Lm.bwd_ok hok (w := (i : Int)) (by omega)
      wtm_at "ev"
      refine r_ixL (by wtm_at "sql") (v := xs.getD (Lm.bwd rs i).toNat .non) ?_ ⟨rfl, Same.refl _⟩
      obtain ⟨m, hm⟩ := Int.eq_ofNat_of_zero_le hb.1
      rw [hm]
      refine atI_nat ?_
      have : m < xs.length := by omega
      rw [Int.toNat_natCast, List.getElem?_eq_getElem this, List.getD_eq_getElem?_getD, List.getElem?_eq_getElem this]
      rfl
    · intro D hD
      rw [filter_true, List.map_map]
      change La.Free _ D at hD
      have e : List.map ((fun v => match v with | .int w => xs.getD w.toNat .non | _ => .non) ∘ V.int) (Lm.feet n rs) = carL n rs xs := rfl
      rw [e]
      wtm_at "ret"
end

local macro_rules | `(tactic| wtm_at "e1") => `(tactic| ((with_reducible apply Ll.use_carried); (focus (wtm_at "lad")); (focus (wtm_at "len")); (focus (wtm_at "ok")); (focus (wtm_at "sql")); (focus (first | assumption | (simp; omega) | (simp; done))); intro p' hp'; change La.Free _ p' at hp'))
theorem isOut_places {ms : List Int} (h1 : 1 ≤ ms.length) (h2 : ms.length ≤ 100) : isOut (placesL ms) = true := by
  unfold isOut
  have hl := places_length ms
  rw [if_neg (by simp only [Bool.or_eq_true, decide_eq_true_eq]; omega), srt_places]
  exact decide_eq_true rfl
theorem carL_srt {ms : List Int} (ho : isOut (placesL ms) = true) : carL ms.length (Lm.stdN (xsF (placesL ms)) (placesL ms).length) (ms.map V.int) = (Lm.srt ms).map V.int := by
  obtain ⟨hper, h1, h2⟩ := isOut_perm ho
  have hl := places_length ms
  have ef : Lm.feet ms.length (Lm.stdN (xsF (placesL ms)) (placesL ms).length) = turnsL ms := by
    unfold Lm.feet
    refine (Lm.eq_tab (turns_length ms) fun i hi => ?_).symm
    have ht := turns_in ms hi
    have hf := Lm.std_fwd hper (w := (turnsL ms).getD i 0) ht.1 (by rw [hl]; exact ht.2)
    have e : xsF (placesL ms) ((turnsL ms).getD i 0) = (i : Int) := places_at ms hi
    rw [e] at hf
    rw [← hf, Lm.bwd_fwd]
  unfold carL
  rw [ef, ← turns_key, List.map_map]
  refine List.map_congr_left fun w hw => ?_
  have hm := turns_mem.mp hw
  have hw2 : w.toNat < ms.length := by omega
  show (ms.map V.int).getD w.toNat .non = V.int (ms.getD w.toNat 0)
  rw [List.getD_eq_getElem?_getD, List.getElem?_map, List.getElem?_eq_getElem hw2, List.getD_eq_getElem?_getD, List.getElem?_eq_getElem hw2]
  rfl
theorem sql_but {K : PySem.W.Frag} {P : Addr} {H Hn : Hp} {a : Addr} {xs : List V} (hb : But P H Hn) (hP : H P = some (.tbl #[])) (h : SqL K H a xs) : SqL K Hn a xs := by
  rcases h with (h | ⟨o, h⟩) | h
  · exact .inl (.inl (hb _ _ (fun e => by rw [e, hP] at h; cases h) h))
  · exact .inl (.inr ⟨o, hb _ _ (fun e => by rw [e, hP] at h; cases h) h⟩)
  · exact .inr h
theorem but_lst {P : Addr} {H Hn : Hp} {a : Addr} {xs : List V} (hb : But P H Hn) (hP : H P = some (.tbl #[])) (h : H a = some (.lst xs)) : Hn a = some (.lst xs) := hb _ _ (fun e => by rw [e, hP] at h; cases h) h
theorem if_mid {b : Bool} {t u : TS} {nx bk ct : L2.St → Hp → Prop} {rt : VK} {σ : L2.St} {H : Hp} (M : L2.St → Hp → Prop) (h1 : b = true → S t M rt bk ct σ H) (h2 : b = false → S u M rt bk ct σ H) (k : ∀ σ' H', M σ' H' → nx σ' H') : (b = true → S t nx rt bk ct σ H) ∧ (b = false → S u nx rt bk ct σ H) := ⟨fun e => s_cut M (h1 e) k, fun e => s_cut M (h2 e) k⟩
section
variable {Pg : Program} {w : World} {K : PySem.W.Frag} {mg : Str → Option Value} {base : Heap} {A : Ad}
theorem use_carriedP {x a : Addr} {ms : List Int} {H : Hp} {Q : VK} {E : XK} (hS : SqL K H a (ms.map V.int)) (hL : Lad K A.c_Ladder H x ((placesL ms).length : Int) (Lm.stdN (xsF (placesL ms)) (placesL ms).length)) (ho : isOut (placesL ms) = true) (q : ∀ p, H p = none → Q (.ref p) (upd H p (.lst ((Lm.srt ms).map V.int)))) : P_carried K A (V.ref x :: ([V.ref a] ++ [])) H Q E := by
  obtain ⟨hper, h1, h2⟩ := isOut_perm ho
  have hl := places_length ms
  have hok := (Lm.form_all hper.inj (placesL ms).length (Nat.le_refl _)).ok
  rw [← carL_srt ho] at q
  rw [hl] at hL hok q
  exact ⟨x, a, ms.length, _, _, rfl, hL, by omega, hok, hS, .inr ⟨List.length_map .., q⟩⟩
theorem rep_101 {p : Addr} {x : Int} {H : Hp} {Q : VK} (h : H p = some (.lst [V.int x])) (q : ∀ r, H r = none → Q (.ref r) (upd H r (.lst ((List.replicate 101 x).map V.int)))) : Cl (rRep (.ref p) (.int 101)) H Q := rep_int (n := 101) h (by omega) q
local macro_rules | `(tactic| wtm_at "e1") => `(tactic| ((with_reducible apply Ll.rep_101); (focus (wtm_at "look")); intro p' hp'; change La.Free _ p' at hp'))
local macro_rules | `(tactic| wtm_at "e1") => `(tactic| ((with_reducible apply Ll.use_l_made); (focus (wtm_at "lad")); (focus (wtm_at "sql")); (focus assumption)))
local macro_rules | `(tactic| wtm_at "e1") => `(tactic| ((with_reducible apply Ll.use_l_no_places); (focus (wtm_at "sql")); (focus (wtm_at "len")); (focus (first | (apply Or.inl; decide) | (apply Or.inr; (simp only [List.length_take, List.length_append, List.length_replicate]); omega)))))
local macro_rules | `(tactic| wtm_at "e1") => `(tactic| ((with_reducible apply Ll.use_carriedP); (focus (wtm_at "sql")); (focus (wtm_at "lad")); (focus assumption); intro p' hp'; change La.Free _ p' at hp'))
local macro_rules | `(tactic| wtm_at "e1") => `(tactic| ((with_reducible apply La.eqD_intsT); (focus (wtm_at "sqt")); (focus (wtm_at "sqt"))))
theorem ok_law {f : Addr} {fd : FuncData} (F_law : Fun K "law" "law" s_law f fd) (T : Txt K mg A) (TB : LamX.TabB base mg A.c_code A.c_tab) : FnOk Pg w K mg base CX0 5 f fd ["_law_script"] (spc (P_law K A.c_tab)) := by
  refine ok_of F_law sc_law (fun vs H Q E h => ?_) (fun cdv A' outer s H' E' vs H Q E hr h => ?_)
  · obtain ⟨a, ns, rfl, _⟩ := h
    rfl
  · obtain ⟨a, ns, rfl, hS, hz, hT, q⟩ := h
    refine ⟨_, (pss_cons (ps_set (i := 1) sc_law.nd rfl (Or.inl rfl) (pe_call (ok_l_numbers_by T) (hr.mono (by decide)) rfl T.g_l_numbers_by T.F_l_numbers_by.kp T.b_l_numbers_by .nil pass0 (pa_cons (pe_slice (sl_listK (K := K) rfl) (pv 0) (po_some pe_int) (po_some pe_int)) (pa_cons (pe_call (ok_l_cell_at T) (hr.mono (by decide)) rfl T.g_l_cell_at T.F_l_cell_at.kp T.b_l_cell_at .nil pass0 (pa_cons (pv 0) (pa_cons pe_int pa_nil))) pa_nil))))
      (pss_cons (ps_if (PW.pt (pw_or (pt_not (pt_val (pe_call (ok_l_no_places T TB) (hr.mono (by decide)) rfl T.g_l_no_places T.F_l_no_places.kp T.b_l_no_places .nil pass0 (pa_cons (pe_lst pa_nil) pa_nil)))) (pw_or1 (pt_not (pt_val (pe_call (ok_l_no_places T TB) (hr.mono (by decide)) rfl T.g_l_no_places T.F_l_no_places.kp T.b_l_no_places .nil pass0 (pa_cons (pe_slice (sl_listK (K := K) rfl) (pe_op op_cat (pv 1) (pe_op op_rep (pe_lst (pa_cons pe_int pa_nil)) pe_int)) po_none (po_some pe_int)) pa_nil))))))) (pss_one (ps_ret pe_bl)) pss_nil)
      (pss_cons (ps_if (pt_cmpR (op_eqDK (K := K) rfl hr.units) (pv 1) (pe_lst pa_nil) (nomark _)) (pss_one (ps_ret (pe_and (pe_call (ok_l_says T) (hr.mono (by decide)) rfl T.g_l_says T.F_l_says.kp T.b_l_says .nil pass0 (pa_cons (pe_call (ok_is_outcome T) (hr.mono (by decide)) rfl T.g_is_outcome T.F_is_outcome.kp T.b_is_outcome .nil pass0 (pa_cons (pe_lst pa_nil) pa_nil)) (pa_cons pe_bl pa_nil))) (pe_one (pe_call (ok_l_refused T) (hr.mono (by decide)) rfl T.g_l_refused T.F_l_refused.kp T.b_l_refused .nil pass0 (pa_cons (pe_lst pa_nil) pa_nil)))))) pss_nil)
      (pss_cons (ps_set (i := 2) sc_law.nd rfl (Or.inl rfl) (pe_callTy (call_listK (K := K) rfl) (by rfl) T.n_list (by decide +kernel) (pa_cons (pv 1) pa_nil)))
      (pss_cons (ps_set (i := 3) sc_law.nd rfl (Or.inl rfl) (pe_call (ok_places T TB) (hr.mono (by decide)) rfl T.g_places T.F_places.kp T.b_places .nil passL (pa_cons (pv 2) pa_nil)))
      (pss_cons (ps_if (PW.pt (pw_or (pt_cmpR (op_neDK (K := K) rfl hr.units) (pv 2) (pv 1) (nomark _)) (pw_or (pt_not (pt_val (pe_call (ok_l_list T) (hr.mono (by decide)) rfl T.g_l_list T.F_l_list.kp T.b_l_list .nil pass0 (pa_cons (pv 3) (pa_cons (pe_callB (call_lenK (K := K) rfl) (by rfl) T.n_len PySem.boot_len (pa_cons (pv 1) pa_nil)) pa_nil))))) (pw_or1 (pt_not (pt_val (pe_call (ok_l_rises T) (hr.mono (by decide)) rfl T.g_l_rises T.F_l_rises.kp T.b_l_rises .nil pass0 (pa_cons (pv 1) (pa_cons (pv 3) pa_nil))))))))) (pss_one (ps_ret pe_bl)) pss_nil)
      (pss_cons (ps_set (i := 4) sc_law.nd rfl (Or.inl rfl) (pe_callTy (call_listK (K := K) rfl) (by rfl) T.n_list (by decide +kernel) (pa_cons (pv 3) pa_nil)))
      (pss_cons (ps_set (i := 5) sc_law.nd rfl (Or.inl rfl) (pe_call (ok_standing T) (hr.mono (by decide)) rfl T.g_standing T.F_standing.kp T.b_standing .nil passL (pa_cons (pv 3) pa_nil)))
      (pss_cons (ps_if (PW.pt (pw_or (pt_not (pt_val (pe_call (ok_l_made T) (hr.mono (by decide)) rfl T.g_l_made T.F_l_made.kp T.b_l_made .nil pass0 (pa_cons (pv 5) (pa_cons (pv 4) pa_nil))))) (pw_or (pt_cmpR (op_neDK (K := K) rfl hr.units) (pv 3) (pv 4) (nomark _)) (pw_or1 (pt_cmpR (op_neDK (K := K) rfl hr.units) (pe_meth (pv 5) T.cl T.m_carried (ok_carried T) (hr.mono (by decide)) T.b_carried .nil passL (pa_cons (pv 1) pa_nil)) (pe_callB (cr_sortedK (K := K) rfl) (by rfl) T.n_sorted (by decide +kernel) (pa_cons (pv 1) pa_nil)) (nomark _)))))) (pss_one (ps_ret pe_bl)) pss_nil)
      (pss_cons (ps_if (PW.pt (pw_or (pt_not (pt_val (pe_call (ok_l_says T) (hr.mono (by decide)) rfl T.g_l_says T.F_l_says.kp T.b_l_says .nil pass0 (pa_cons (pe_call (ok_stands T) (hr.mono (by decide)) rfl T.g_stands T.F_stands.kp T.b_stands .nil pass0 (pa_cons (pv 5) pa_nil)) (pa_cons pe_bl pa_nil))))) (pw_or1 (pt_not (pt_val (pe_call (ok_l_says T) (hr.mono (by decide)) rfl T.g_l_says T.F_l_says.kp T.b_l_says .nil pass0 (pa_cons (pe_call (ok_is_outcome T) (hr.mono (by decide)) rfl T.g_is_outcome T.F_is_outcome.kp T.b_is_outcome .nil pass0 (pa_cons (pv 4) pa_nil)) (pa_cons pe_bl pa_nil)))))))) (pss_one (ps_ret pe_bl)) pss_nil)
      (pss_cons (ps_set (i := 6) sc_law.nd rfl (Or.inl rfl) (pe_meth0 (pv 5) T.cl T.m_turned (ok_turned T) (hr.mono (by decide)) T.b_turned .nil pass0))
      (pss_cons (ps_if (pt_not (pt_val (pe_call (ok_l_says T) (hr.mono (by decide)) rfl T.g_l_says T.F_l_says.kp T.b_l_says .nil pass0 (pa_cons (pe_call (ok_stands T) (hr.mono (by decide)) rfl T.g_stands T.F_stands.kp T.b_stands .nil pass0 (pa_cons (pv 6) pa_nil)) (pa_cons (pe_call (ok_l_stands T) (hr.mono (by decide)) rfl T.g_l_stands T.F_l_stands.kp T.b_l_stands .nil pass0 (pa_cons (pe_fldK (K := K) rfl (pv 6) rfl) pa_nil)) pa_nil))))) (pss_one (ps_ret pe_bl)) pss_nil)
      (pss_cons (ps_if (pt_cmpR op_gt1 (pe_callB (call_lenK (K := K) rfl) (by rfl) T.n_len PySem.boot_len (pa_cons (pv 1) pa_nil)) pe_int (nomark _)) (pss_cons (ps_set (i := 7) sc_law.nd rfl (Or.inr rfl) (pe_callB (call_min2N rfl) (by rfl) T.n_min (by decide +kernel) (pa_cons (pe_ix (ix_listK (K := K) rfl) (pe_lst (pa_cons pe_int (pa_cons pe_int pa_nil))) (pe_op op_mod (pe_op op_fdiv (pe_call (ok_l_cell_at T) (hr.mono (by decide)) rfl T.g_l_cell_at T.F_l_cell_at.kp T.b_l_cell_at .nil pass0 (pa_cons (pv 0) (pa_cons pe_int pa_nil))) pe_int) pe_int) (fun _ _ => rfl)) (pa_cons (pe_op op_sub (pe_callB (call_lenK (K := K) rfl) (by rfl) T.n_len PySem.boot_len (pa_cons (pv 1) pa_nil)) pe_int) pa_nil))))
      (pss_cons (ps_setLc (i := 8) (own := [("_law_cell", 11)]) (g := gName 11) (tt := tYes) rfl sc_law.nd rfl rfl (sw_true rfl rfl rfl (by decide +kernel)) (pi_list (pe_slice (sl_listK (K := K) rfl) (pv 0) (po_some pe_int) (po_some (pe_op op_add pe_int (pe_op op_mod (pe_call (ok_l_cell_at T) (hr.mono (by decide)) rfl T.g_l_cell_at T.F_l_cell_at.kp T.b_l_cell_at .nil pass0 (pa_cons (pv 0) (pa_cons pe_int pa_nil))) pe_int))))) (blkOk_by (own := [("_law_cell", 11)]) (N := ["_law_script", "_law_numbers", "_law_handed", "_law_outcome", "_law_held", "_law_ladder", "_law_other", "_law_most", "_law_rungs", "_law_spoiled_here", "_law_due", "_law_cell"]) (sc := defScope s_law) (by decide +kernel)) (fun _ _ _ _ _ => (pg_name (i := 11) sc_law.nd rfl (Or.inl rfl))) (fun _ _ _ _ _ => pts_nil) (fun _ _ _ _ _ => (pe_op op_mod (pv 11) (pv 7))))
      (pss_one (ps_if (pt_not (pt_val (pe_call (ok_l_says T) (hr.mono (by decide)) rfl T.g_l_says T.F_l_says.kp T.b_l_says .nil pass0 (pa_cons (pe_call (ok_stands T) (hr.mono (by decide)) rfl T.g_stands T.F_stands.kp T.b_stands .nil pass0 (pa_cons (pe_make T.mk_Ladder (ok_init T) (hr.mono (by decide)) rfl T.g_Ladder T.b_init2 .nil passL (pa_cons (pe_callB (call_lenK (K := K) rfl) (by rfl) T.n_len PySem.boot_len (pa_cons (pv 1) pa_nil)) (pa_cons (pe_callTy (call_listK (K := K) rfl) (by rfl) T.n_list (by decide +kernel) (pa_cons (pv 8) pa_nil)) pa_nil))) pa_nil)) (pa_cons (pe_call (ok_l_stands T) (hr.mono (by decide)) rfl T.g_l_stands T.F_l_stands.kp T.b_l_stands .nil pass0 (pa_cons (pv 8) pa_nil)) pa_nil))))) (pss_one (ps_ret pe_bl)) pss_nil)))) pss_nil)
      (pss_cons (ps_set (i := 9) sc_law.nd rfl (Or.inl rfl) (pe_call (ok_l_spoiled T) (hr.mono (by decide)) rfl T.g_l_spoiled T.F_l_spoiled.kp T.b_l_spoiled .nil pass0 (pa_cons (pv 4) (pa_cons (pe_call (ok_l_cell_at T) (hr.mono (by decide)) rfl T.g_l_cell_at T.F_l_cell_at.kp T.b_l_cell_at .nil pass0 (pa_cons (pv 0) (pa_cons pe_int pa_nil))) (pa_cons (pe_op op_mod (pe_op op_fdiv (pe_call (ok_l_cell_at T) (hr.mono (by decide)) rfl T.g_l_cell_at T.F_l_cell_at.kp T.b_l_cell_at .nil pass0 (pa_cons (pv 0) (pa_cons pe_int pa_nil))) pe_int) (pe_op op_pow pe_int pe_int)) pa_nil)))))
      (pss_cons (ps_set (i := 10) sc_law.nd rfl (Or.inl rfl) (pe_and (pe_chain op_le op_le pe_int (pe_callB (call_lenK (K := K) rfl) (by rfl) T.n_len PySem.boot_len (pa_cons (pv 9) pa_nil)) pe_int) (pe_one (pe_cmpR (op_eqDK (K := K) rfl hr.units) (pe_callB (cr_sortedK (K := K) rfl) (by rfl) T.n_sorted (by decide +kernel) (pa_cons (pv 9) pa_nil)) (pe_listRg rfl (by rfl) T.n_list (prg_1 (by rfl) T.n_range (pe_callB (call_lenK (K := K) rfl) (by rfl) T.n_len PySem.boot_len (pa_cons (pv 9) pa_nil)))) (nomark _)))))
      (pss_cons (ps_if (PW.pt (pw_or (pt_not (pt_val (pe_call (ok_l_says T) (hr.mono (by decide)) rfl T.g_l_says T.F_l_says.kp T.b_l_says .nil pass0 (pa_cons (pe_call (ok_is_outcome T) (hr.mono (by decide)) rfl T.g_is_outcome T.F_is_outcome.kp T.b_is_outcome .nil pass0 (pa_cons (pe_callTy (call_listK (K := K) rfl) (by rfl) T.n_list (by decide +kernel) (pa_cons (pv 9) pa_nil)) pa_nil)) (pa_cons (pv 10) pa_nil))))) (pw_or1 (pt_cmpR op_eq (pv 10) (pe_call (ok_l_refused T) (hr.mono (by decide)) rfl T.g_l_refused T.F_l_refused.kp T.b_l_refused .nil pass0 (pa_cons (pe_callTy (call_listK (K := K) rfl) (by rfl) T.n_list (by decide +kernel) (pa_cons (pv 9) pa_nil)) pa_nil)) (nomark _))))) (pss_one (ps_ret pe_bl)) pss_nil)
      (pss_one (ps_ret (pe_and (pe_cmpR (op_eqDK (K := K) rfl hr.units) (pv 3) (pv 4) (nomark _)) (pe_one (pe_cmpR (op_eqDK (K := K) rfl hr.units) (pe_fldK (K := K) rfl (pe_call (ok_standing T) (hr.mono (by decide)) rfl T.g_standing T.F_standing.kp T.b_standing .nil passL (pa_cons (pv 4) pa_nil)) rfl) (pe_fldK (K := K) rfl (pv 5) rfl) (nomark _)))))))))))))))))))))), ?_⟩
    dsimp only [L2.cxOf, L2.Cx.nox, L2.Cx.wish]
    show S _ _ _ _ _ [some (.ref a), none, none, none, none, none, none, none, none, none, none, none] H
    have hc : (cutI ns (some 2) (some 102)).length ≤ 63 := Nat.le_trans (cutI_len _ _ _) hz
    wtm_at "ev"
    generalize cutI ns (some 2) (some 102) = cs at *
    refine ⟨_, cs, _, rfl, by wtm_at "sql", by omega, fun p ms hml hp => ?_⟩
    change La.Free _ p at hp
    wtm_at "ev"
    refine ifd (fun h0 => ?_) (fun h0 => ?_)
    · have hb : isOut [] = false := rfl
      wtm_at "ev"
      rw [hb]
      show UpV Q (V.bl true) _
      exact ⟨_, Same.refl _, q _⟩
    have hm1 : 1 ≤ ms.length := by
      cases ms with
      | nil => exact absurd rfl h0
      | cons _ _ => exact Nat.succ_le_succ (Nat.zero_le _)
    have hm2 : ms.length ≤ 100 := by omega
    have ho := isOut_places hm1 hm2
    have hpl := places_length ms
    have hx : ∀ x ∈ placesL ms, 0 ≤ x ∧ x < (ms.length : Int) := fun x hx => by
      obtain ⟨i, hi, e⟩ := Lm.mem_tab.mp ((places_perm ms).mem_iff.mp hx)
      have e' : (i : Int) = x := e
      omega
    wtm_at "ev"
    rename_i c0 hc0 d hd
    change La.Free H c0 at hc0
    have hT3 : upd (upd (upd H c0 (.lst (cs.map V.int))) p (.lst (ms.map V.int))) d (.lst (ms.map V.int)) A.c_tab = some (.tbl #[]) := by wtm_at "look"
    have hS3 : SqL K (upd (upd (upd H c0 (.lst (cs.map V.int))) p (.lst (ms.map V.int))) d (.lst (ms.map V.int))) a (ns.map V.int) := by wtm_at "sql"
    have hp3 : upd (upd (upd H c0 (.lst (cs.map V.int))) p (.lst (ms.map V.int))) d (.lst (ms.map V.int)) p = some (.lst (ms.map V.int)) := by wtm_at "look"
    refine use_places (by wtm_at "sql") hm1 hm2 hT3 (fun o Hn hof hbut hno => ?_)
    replace hS3 := sql_but hbut hT3 hS3
    replace hp3 := but_lst hbut hT3 hp3
    have hd3 := but_lst hbut hT3 upd_same
    clear hbut hT3 hof hd hp hc0
    obtain ⟨hper, _, _⟩ := isOut_perm ho
    have hst := (Lm.form_all hper.inj (placesL ms).length (Nat.le_refl _)).st
    have hok := (Lm.form_all hper.inj (placesL ms).length (Nat.le_refl _)).ok
    have hnn : Lm.NN (Lm.stdN (xsF (placesL ms)) (placesL ms).length) := hok.nn
    have hnr : Lm.NN (Lm.stdN (xsF (placesL ms)) (placesL ms).length).reverse := hok.reverse.nn
    have hsl := std_len (xsF (placesL ms)) (placesL ms).length (by omega)
    wtm_at "ev"
    rename_i e he x Hx hxf hsx hlx
    refine ifF (by rw [hst, ho]; rfl) ?_
    have hS4 : SqL K Hx a (ns.map V.int) := by wtm_at "sql"
    have hp4 : Hx p = some (.lst (ms.map V.int)) := by wtm_at "look"
    have ho4 : Hx o = some (.lst ((placesL ms).map V.int)) := by wtm_at "look"
    have he4 : Hx e = some (.lst ((placesL ms).map V.int)) := by wtm_at "look"
    clear hsx hxf he hS3 hp3 hno hd3
    wtm_at "ev"
    rename_i y Hy hsy hly hyf
    have hS5 : SqL K Hy a (ns.map V.int) := by wtm_at "sql"
    have hp5 : Hy p = some (.lst (ms.map V.int)) := by wtm_at "look"
    have ho5 : Hy o = some (.lst ((placesL ms).map V.int)) := by wtm_at "look"
    have he5 : Hy e = some (.lst ((placesL ms).map V.int)) := by wtm_at "look"
    have hl5 : Lad K A.c_Ladder Hy x ((placesL ms).length : Int) (Lm.stdN (xsF (placesL ms)) (placesL ms).length) := by wtm_at "lad"
    clear hsy hyf hly hS4 hp4 ho4 he4 hlx
    refine if_mid (fun σ' Hc => ∃ u v, σ' = [some (.ref a), some (.ref p), some (.ref d), some (.ref o), some (.ref e), some (.ref x), some (.ref y), u, v, none, none, none] ∧ Same Hy Hc) (fun h1 => ?_) (fun h1 => ?_) ?_
    · replace h1 := of_decide_eq_true h1
      wtm_at "ev"
      wtm_at "pick"
      intro v hv
      obtain ⟨z, rfl, hz1⟩ : ∃ z : Int, v = .int z ∧ 3 ≤ z := by
        simp only [List.mem_cons, List.not_mem_nil, or_false] at hv
        rcases hv with rfl | rfl
        · exact ⟨3, rfl, by omega⟩
        · exact ⟨100, rfl, by omega⟩
      wtm_at "ev"
      obtain ⟨mo, hmo, hmo1, hmo2⟩ : ∃ mo : Int, (if (ms.length : Int) - 1 < z then (ms.length : Int) - 1 else z) = mo ∧ 0 < mo ∧ mo ≤ (ms.length : Int) - 1 := by
        refine ⟨_, rfl, ?_, ?_⟩
        · split <;> omega
        · split <;> omega
      rw [hmo]
      refine c_lcLI (fun _ => rfl) (fun _ => true) (fun x => x % mo) ?_
      wtm_at "ev"
      have hcl := cutI_len ns (some 1) (some (2 + cellI ns 1 % 6))
      refine ⟨_, _, rfl, by wtm_at "sql", by rw [sizeLine_eq]; omega, ?_, ?_, ?_⟩
      · intro x hx
        wtm_at "pure"
      · intro x hx _
        wtm_at "pure"
      intro D hD
      rw [filter_true]
      change La.Free _ D at hD
      have hr2 : ∀ r ∈ (cutI ns (some 1) (some (2 + cellI ns 1 % 6))).map (fun x => x % mo), 0 ≤ r ∧ r ≤ (ms.length : Int) - 2 := fun r hr => by
        obtain ⟨x, _, rfl⟩ := List.mem_map.mp hr
        have i1 := Int.emod_nonneg x (show mo ≠ 0 by omega)
        have i2 := Int.emod_lt_of_pos x hmo1
        exact ⟨i1, by omega⟩
      have hl2 : ((cutI ns (some 1) (some (2 + cellI ns 1 % 6))).map (fun x => x % mo)).length ≤ 63 := by
        rw [List.length_map]
        omega
      generalize (cutI ns (some 1) (some (2 + cellI ns 1 % 6))).map (fun x => x % mo) = ss at *
      have hn2 : Lm.NN ss := fun r hr => (hr2 r hr).1
      have hl3 : 1 ≤ (ms.length : Int) ∧ (ms.length : Int) ≤ 100 := by omega
      wtm_at "ev"
      exact ⟨_, _, rfl, by wtm_at "same"⟩
    · wtm_at "ev"
      exact ⟨_, _, rfl, Same.refl _⟩
    · rintro σ' Hc ⟨u, v, rfl, hsc⟩
      have hSc : SqL K Hc a (ns.map V.int) := by wtm_at "sql"
      have hoc : Hc o = some (.lst ((placesL ms).map V.int)) := by wtm_at "look"
      have hec : Hc e = some (.lst ((placesL ms).map V.int)) := by wtm_at "look"
      have hlc : Lad K A.c_Ladder Hc x ((placesL ms).length : Int) (Lm.stdN (xsF (placesL ms)) (placesL ms).length) := by wtm_at "lad"
      clear hsc hS5 hp5 ho5 he5 hl5
      wtm_at "ev"
      refine use_l_spoiled (by wtm_at "look") (by omega) (by omega) (fun z zs hzs hz0 => ?_)
      change La.Free _ z at hz0
      wtm_at "ev"
      refine ifd (fun h1 => ?_) (fun h1 => ?_)
      · wtm_at "ev"
        refine ifd (fun h2 => ?_) (fun h2 => ?_)
        · have ho2 : isOut zs = decide (Lm.srt zs = Lm.tab zs.length id) := by
            unfold isOut
            rw [if_neg (by simp only [Bool.or_eq_true, decide_eq_true_eq]; omega)]
          wtm_at "ev"
          refine ifF (by rw [ho2]; generalize decide (Lm.srt zs = Lm.tab zs.length id) = b; cases b <;> rfl) ?_
          wtm_at "ev"
          rw [decide_eq_true rfl, decide_eq_true rfl]
          show UpV Q (V.bl true) _
          exact ⟨_, Same.refl _, q _⟩
        · have ho2 : isOut zs = false := by
            unfold isOut
            rw [if_pos (by simp only [Bool.or_eq_true, decide_eq_true_eq]; omega)]
          wtm_at "ev"
          refine ifF (by rw [ho2]; rfl) ?_
          wtm_at "ev"
          rw [decide_eq_true rfl, decide_eq_true rfl]
          show UpV Q (V.bl true) _
          exact ⟨_, Same.refl _, q _⟩
      · have ho2 : isOut zs = false := by
          unfold isOut
          rw [if_pos (by simp only [Bool.or_eq_true, decide_eq_true_eq]; omega)]
        wtm_at "ev"
        refine ifF (by rw [ho2]; rfl) ?_
        wtm_at "ev"
        rw [decide_eq_true rfl, decide_eq_true rfl]
        show UpV Q (V.bl true) _
        exact ⟨_, Same.refl _, q _⟩
end

section
variable {Pg : Program} {w : World} {K : PySem.W.Frag} {mg : Str → Option Value} {base : Heap} {A : Ad}
theorem txt_mk {K : PySem.W.Frag} {h : Heap} {mg : Str → Option Value} {Pg : Program} {w : World} {fa : Addr} (X : K.In h) (G : h.Ns mainGlobals mg) (hfa : mg "law" = some (.ref fa))
    {C : Addr}
    {t_MOST : Tok}
    {f_init : Addr} {od_init an_init : Option Addr} {sl_init : Array (Option Value)} {oc_init kV_init dc_init pm_init cd_init ct_init : Value}
    {dT : Addr} {dToc : Value} {dTod : Option Addr} {dTn : Nat} {dTsl : Array (Option Value)}
    {f_feet : Addr} {od_feet an_feet : Option Addr} {sl_feet : Array (Option Value)} {oc_feet kV_feet dc_feet pm_feet cd_feet ct_feet : Value}
    {f_ends : Addr} {od_ends an_ends : Option Addr} {sl_ends : Array (Option Value)} {oc_ends kV_ends dc_ends pm_ends cd_ends ct_ends : Value}
    {f_carried : Addr} {od_carried an_carried : Option Addr} {sl_carried : Array (Option Value)} {oc_carried kV_carried dc_carried pm_carried cd_carried ct_carried : Value}
    {f_turned : Addr} {od_turned an_turned : Option Addr} {sl_turned : Array (Option Value)} {oc_turned kV_turned dc_turned pm_turned cd_turned ct_turned : Value}
    {f_above : Addr} {od_above an_above : Option Addr} {sl_above : Array (Option Value)} {oc_above kV_above dc_above pm_above cd_above ct_above : Value}
    {f_is_outcome : Addr} {od_is_outcome an_is_outcome : Option Addr} {sl_is_outcome : Array (Option Value)} {oc_is_outcome kV_is_outcome dc_is_outcome pm_is_outcome cd_is_outcome ct_is_outcome : Value}
    {f_places : Addr} {od_places an_places : Option Addr} {sl_places : Array (Option Value)} {oc_places kV_places dc_places pm_places ct_places : Value}
    {cP PT : Addr}
    {tC : Value} {tOd : Option Addr} {tVs : Array Value} {tSl : Array (Option Value)}
    {f_stands : Addr} {od_stands an_stands : Option Addr} {sl_stands : Array (Option Value)} {oc_stands kV_stands dc_stands pm_stands cd_stands ct_stands : Value}
    {f_standing : Addr} {od_standing an_standing : Option Addr} {sl_standing : Array (Option Value)} {oc_standing kV_standing dc_standing pm_standing cd_standing ct_standing : Value}
    {f_must : Addr} {od_must an_must : Option Addr} {sl_must : Array (Option Value)} {oc_must kV_must dc_must pm_must cd_must ct_must : Value}
    {f_l_cell_at : Addr} {od_l_cell_at an_l_cell_at : Option Addr} {sl_l_cell_at : Array (Option Value)} {oc_l_cell_at kV_l_cell_at dc_l_cell_at pm_l_cell_at cd_l_cell_at ct_l_cell_at : Value}
    {f_l_whole : Addr} {od_l_whole an_l_whole : Option Addr} {sl_l_whole : Array (Option Value)} {oc_l_whole kV_l_whole dc_l_whole pm_l_whole cd_l_whole ct_l_whole : Value}
    {f_l_numbers_by : Addr} {od_l_numbers_by an_l_numbers_by : Option Addr} {sl_l_numbers_by : Array (Option Value)} {oc_l_numbers_by kV_l_numbers_by dc_l_numbers_by pm_l_numbers_by cd_l_numbers_by ct_l_numbers_by : Value}
    {f_l_list : Addr} {od_l_list an_l_list : Option Addr} {sl_l_list : Array (Option Value)} {oc_l_list kV_l_list dc_l_list pm_l_list cd_l_list ct_l_list : Value}
    {f_l_rises : Addr} {od_l_rises an_l_rises : Option Addr} {sl_l_rises : Array (Option Value)} {oc_l_rises kV_l_rises dc_l_rises pm_l_rises cd_l_rises ct_l_rises : Value}
    {f_l_stands : Addr} {od_l_stands an_l_stands : Option Addr} {sl_l_stands : Array (Option Value)} {oc_l_stands kV_l_stands dc_l_stands pm_l_stands cd_l_stands ct_l_stands : Value}
    {f_l_says : Addr} {od_l_says an_l_says : Option Addr} {sl_l_says : Array (Option Value)} {oc_l_says kV_l_says dc_l_says pm_l_says cd_l_says ct_l_says : Value}
    {f_l_made : Addr} {od_l_made an_l_made : Option Addr} {sl_l_made : Array (Option Value)} {oc_l_made kV_l_made dc_l_made pm_l_made cd_l_made ct_l_made : Value}
    {f_l_spoiled : Addr} {od_l_spoiled an_l_spoiled : Option Addr} {sl_l_spoiled : Array (Option Value)} {oc_l_spoiled kV_l_spoiled dc_l_spoiled pm_l_spoiled cd_l_spoiled ct_l_spoiled : Value}
    {f_l_refused : Addr} {od_l_refused an_l_refused : Option Addr} {sl_l_refused : Array (Option Value)} {oc_l_refused kV_l_refused dc_l_refused pm_l_refused cd_l_refused ct_l_refused : Value}
    {f_l_no_places : Addr} {od_l_no_places an_l_no_places : Option Addr} {sl_l_no_places : Array (Option Value)} {oc_l_no_places kV_l_no_places dc_l_no_places pm_l_no_places cd_l_no_places ct_l_no_places : Value}
    {f_law : Addr} {od_law an_law : Option Addr} {sl_law : Array (Option Value)} {oc_law kV_law dc_law pm_law cd_law ct_law : Value}
    {c_LotError : Addr}
    {c_NoPost : Addr}
    {c_NoRung : Addr}
    {c_Unlike : Addr}
    {c_NoOutcome : Addr}
    (gL : PySem.W.nsIn K mainGlobals "Ladder" = some (some (.ref C)))
    (n_bool : PySem.W.nsIn K mainGlobals "bool" = some none)
    (n_enumerate : PySem.W.nsIn K mainGlobals "enumerate" = some none)
    (n_int : PySem.W.nsIn K mainGlobals "int" = some none)
    (n_isinstance : PySem.W.nsIn K mainGlobals "isinstance" = some none)
    (n_len : PySem.W.nsIn K mainGlobals "len" = some none)
    (n_list : PySem.W.nsIn K mainGlobals "list" = some none)
    (n_min : PySem.W.nsIn K mainGlobals "min" = some none)
    (n_range : PySem.W.nsIn K mainGlobals "range" = some none)
    (n_reversed : PySem.W.nsIn K mainGlobals "reversed" = some none)
    (n_sorted : PySem.W.nsIn K mainGlobals "sorted" = some none)
    (n_tuple : PySem.W.nsIn K mainGlobals "tuple" = some none)
    (gc_MOST : PySem.W.nsIn K mainGlobals "MOST" = some (some (.int 100 t_MOST)))
    (a_init : PySem.W.findIn K (.ref C) "__init__" = some (some (.ref f_init)))
    (i_init : PySem.W.isFn K (.ref f_init) = true)
    (l_init : K.lookup f_init = some ⟨oc_init, od_init, .func (PySem.W.fnOf "__init__" "Ladder.__init__" (defArgs s_init) (defBody s_init) (defScope s_init) (.ref dT) kV_init dc_init pm_init an_init cd_init ct_init), sl_init⟩)
    (lT : K.lookup dT = some ⟨dToc, dTod, .seq #[.none] dTn, dTsl⟩)
    (ci_init : PySem.W.codeIn K cd_init "Ladder.__init__" = true)
    (kp_init : PySem.W.keepIn K (.ref f_init) = true)
    (a_feet : PySem.W.findIn K (.ref C) "feet" = some (some (.ref f_feet)))
    (i_feet : PySem.W.isFn K (.ref f_feet) = true)
    (l_feet : K.lookup f_feet = some ⟨oc_feet, od_feet, .func (PySem.W.fnOf "feet" "Ladder.feet" (defArgs s_feet) (defBody s_feet) (defScope s_feet) .none kV_feet dc_feet pm_feet an_feet cd_feet ct_feet), sl_feet⟩)
    (ci_feet : PySem.W.codeIn K cd_feet "Ladder.feet" = true)
    (kp_feet : PySem.W.keepIn K (.ref f_feet) = true)
    (a_ends : PySem.W.findIn K (.ref C) "ends" = some (some (.ref f_ends)))
    (i_ends : PySem.W.isFn K (.ref f_ends) = true)
    (l_ends : K.lookup f_ends = some ⟨oc_ends, od_ends, .func (PySem.W.fnOf "ends" "Ladder.ends" (defArgs s_ends) (defBody s_ends) (defScope s_ends) .none kV_ends dc_ends pm_ends an_ends cd_ends ct_ends), sl_ends⟩)
    (ci_ends : PySem.W.codeIn K cd_ends "Ladder.ends" = true)
    (kp_ends : PySem.W.keepIn K (.ref f_ends) = true)
    (a_carried : PySem.W.findIn K (.ref C) "carried" = some (some (.ref f_carried)))
    (i_carried : PySem.W.isFn K (.ref f_carried) = true)
    (l_carried : K.lookup f_carried = some ⟨oc_carried, od_carried, .func (PySem.W.fnOf "carried" "Ladder.carried" (defArgs s_carried) (defBody s_carried) (defScope s_carried) .none kV_carried dc_carried pm_carried an_carried cd_carried ct_carried), sl_carried⟩)
    (ci_carried : PySem.W.codeIn K cd_carried "Ladder.carried" = true)
    (kp_carried : PySem.W.keepIn K (.ref f_carried) = true)
    (a_turned : PySem.W.findIn K (.ref C) "turned" = some (some (.ref f_turned)))
    (i_turned : PySem.W.isFn K (.ref f_turned) = true)
    (l_turned : K.lookup f_turned = some ⟨oc_turned, od_turned, .func (PySem.W.fnOf "turned" "Ladder.turned" (defArgs s_turned) (defBody s_turned) (defScope s_turned) .none kV_turned dc_turned pm_turned an_turned cd_turned ct_turned), sl_turned⟩)
    (ci_turned : PySem.W.codeIn K cd_turned "Ladder.turned" = true)
    (kp_turned : PySem.W.keepIn K (.ref f_turned) = true)
    (a_above : PySem.W.findIn K (.ref C) "above" = some (some (.ref f_above)))
    (i_above : PySem.W.isFn K (.ref f_above) = true)
    (l_above : K.lookup f_above = some ⟨oc_above, od_above, .func (PySem.W.fnOf "above" "Ladder.above" (defArgs s_above) (defBody s_above) (defScope s_above) .none kV_above dc_above pm_above an_above cd_above ct_above), sl_above⟩)
    (ci_above : PySem.W.codeIn K cd_above "Ladder.above" = true)
    (kp_above : PySem.W.keepIn K (.ref f_above) = true)
    (a_is_outcome : PySem.W.nsIn K mainGlobals "is_outcome" = some (some (.ref f_is_outcome)))
    (l_is_outcome : K.lookup f_is_outcome = some ⟨oc_is_outcome, od_is_outcome, .func (PySem.W.fnOf "is_outcome" "is_outcome" (defArgs s_is_outcome) (defBody s_is_outcome) (defScope s_is_outcome) .none kV_is_outcome dc_is_outcome pm_is_outcome an_is_outcome cd_is_outcome ct_is_outcome), sl_is_outcome⟩)
    (ci_is_outcome : PySem.W.codeIn K cd_is_outcome "is_outcome" = true)
    (kp_is_outcome : PySem.W.keepIn K (.ref f_is_outcome) = true)
    (a_places : PySem.W.nsIn K mainGlobals "places" = some (some (.ref f_places)))
    (l_places : K.lookup f_places = some ⟨oc_places, od_places, .func (PySem.W.fnOf "places" "places" (defArgs s_places) (defBody s_places) (defScope s_places) .none kV_places dc_places pm_places an_places (.ref cP) ct_places), sl_places⟩)
    (ci_places : PySem.W.codeIn K (.ref cP) "places" = true)
    (lc_places : K.lookup cP = some ⟨tC, tOd, .fields tVs, tSl⟩)
    (v11 : (tVs[11]? : Option Value) = some (.ref PT))
    (tbl : PySem.W.tabIn K "places" = some (cP, PT))
    (nPT : K.lookup PT = none)
    (kp_places : PySem.W.keepIn K (.ref f_places) = true)
    (a_stands : PySem.W.nsIn K mainGlobals "stands" = some (some (.ref f_stands)))
    (l_stands : K.lookup f_stands = some ⟨oc_stands, od_stands, .func (PySem.W.fnOf "stands" "stands" (defArgs s_stands) (defBody s_stands) (defScope s_stands) .none kV_stands dc_stands pm_stands an_stands cd_stands ct_stands), sl_stands⟩)
    (ci_stands : PySem.W.codeIn K cd_stands "stands" = true)
    (kp_stands : PySem.W.keepIn K (.ref f_stands) = true)
    (a_standing : PySem.W.nsIn K mainGlobals "standing" = some (some (.ref f_standing)))
    (l_standing : K.lookup f_standing = some ⟨oc_standing, od_standing, .func (PySem.W.fnOf "standing" "standing" (defArgs s_standing) (defBody s_standing) (defScope s_standing) .none kV_standing dc_standing pm_standing an_standing cd_standing ct_standing), sl_standing⟩)
    (ci_standing : PySem.W.codeIn K cd_standing "standing" = true)
    (kp_standing : PySem.W.keepIn K (.ref f_standing) = true)
    (a_must : PySem.W.nsIn K mainGlobals "must" = some (some (.ref f_must)))
    (l_must : K.lookup f_must = some ⟨oc_must, od_must, .func (PySem.W.fnOf "must" "must" (defArgs s_must) (defBody s_must) (defScope s_must) .none kV_must dc_must pm_must an_must cd_must ct_must), sl_must⟩)
    (ci_must : PySem.W.codeIn K cd_must "must" = true)
    (kp_must : PySem.W.keepIn K (.ref f_must) = true)
    (a_l_cell_at : PySem.W.nsIn K mainGlobals "_law_cell_at" = some (some (.ref f_l_cell_at)))
    (l_l_cell_at : K.lookup f_l_cell_at = some ⟨oc_l_cell_at, od_l_cell_at, .func (PySem.W.fnOf "_law_cell_at" "_law_cell_at" (defArgs s_l_cell_at) (defBody s_l_cell_at) (defScope s_l_cell_at) .none kV_l_cell_at dc_l_cell_at pm_l_cell_at an_l_cell_at cd_l_cell_at ct_l_cell_at), sl_l_cell_at⟩)
    (ci_l_cell_at : PySem.W.codeIn K cd_l_cell_at "_law_cell_at" = true)
    (kp_l_cell_at : PySem.W.keepIn K (.ref f_l_cell_at) = true)
    (a_l_whole : PySem.W.nsIn K mainGlobals "_law_whole" = some (some (.ref f_l_whole)))
    (l_l_whole : K.lookup f_l_whole = some ⟨oc_l_whole, od_l_whole, .func (PySem.W.fnOf "_law_whole" "_law_whole" (defArgs s_l_whole) (defBody s_l_whole) (defScope s_l_whole) .none kV_l_whole dc_l_whole pm_l_whole an_l_whole cd_l_whole ct_l_whole), sl_l_whole⟩)
    (ci_l_whole : PySem.W.codeIn K cd_l_whole "_law_whole" = true)
    (kp_l_whole : PySem.W.keepIn K (.ref f_l_whole) = true)
    (a_l_numbers_by : PySem.W.nsIn K mainGlobals "_law_numbers_by" = some (some (.ref f_l_numbers_by)))
    (l_l_numbers_by : K.lookup f_l_numbers_by = some ⟨oc_l_numbers_by, od_l_numbers_by, .func (PySem.W.fnOf "_law_numbers_by" "_law_numbers_by" (defArgs s_l_numbers_by) (defBody s_l_numbers_by) (defScope s_l_numbers_by) .none kV_l_numbers_by dc_l_numbers_by pm_l_numbers_by an_l_numbers_by cd_l_numbers_by ct_l_numbers_by), sl_l_numbers_by⟩)
    (ci_l_numbers_by : PySem.W.codeIn K cd_l_numbers_by "_law_numbers_by" = true)
    (kp_l_numbers_by : PySem.W.keepIn K (.ref f_l_numbers_by) = true)
    (a_l_list : PySem.W.nsIn K mainGlobals "_law_list" = some (some (.ref f_l_list)))
    (l_l_list : K.lookup f_l_list = some ⟨oc_l_list, od_l_list, .func (PySem.W.fnOf "_law_list" "_law_list" (defArgs s_l_list) (defBody s_l_list) (defScope s_l_list) .none kV_l_list dc_l_list pm_l_list an_l_list cd_l_list ct_l_list), sl_l_list⟩)
    (ci_l_list : PySem.W.codeIn K cd_l_list "_law_list" = true)
    (kp_l_list : PySem.W.keepIn K (.ref f_l_list) = true)
    (a_l_rises : PySem.W.nsIn K mainGlobals "_law_rises" = some (some (.ref f_l_rises)))
    (l_l_rises : K.lookup f_l_rises = some ⟨oc_l_rises, od_l_rises, .func (PySem.W.fnOf "_law_rises" "_law_rises" (defArgs s_l_rises) (defBody s_l_rises) (defScope s_l_rises) .none kV_l_rises dc_l_rises pm_l_rises an_l_rises cd_l_rises ct_l_rises), sl_l_rises⟩)
    (ci_l_rises : PySem.W.codeIn K cd_l_rises "_law_rises" = true)
    (kp_l_rises : PySem.W.keepIn K (.ref f_l_rises) = true)
    (a_l_stands : PySem.W.nsIn K mainGlobals "_law_stands" = some (some (.ref f_l_stands)))
    (l_l_stands : K.lookup f_l_stands = some ⟨oc_l_stands, od_l_stands, .func (PySem.W.fnOf "_law_stands" "_law_stands" (defArgs s_l_stands) (defBody s_l_stands) (defScope s_l_stands) .none kV_l_stands dc_l_stands pm_l_stands an_l_stands cd_l_stands ct_l_stands), sl_l_stands⟩)
    (ci_l_stands : PySem.W.codeIn K cd_l_stands "_law_stands" = true)
    (kp_l_stands : PySem.W.keepIn K (.ref f_l_stands) = true)
    (a_l_says : PySem.W.nsIn K mainGlobals "_law_says" = some (some (.ref f_l_says)))
    (l_l_says : K.lookup f_l_says = some ⟨oc_l_says, od_l_says, .func (PySem.W.fnOf "_law_says" "_law_says" (defArgs s_l_says) (defBody s_l_says) (defScope s_l_says) .none kV_l_says dc_l_says pm_l_says an_l_says cd_l_says ct_l_says), sl_l_says⟩)
    (ci_l_says : PySem.W.codeIn K cd_l_says "_law_says" = true)
    (kp_l_says : PySem.W.keepIn K (.ref f_l_says) = true)
    (a_l_made : PySem.W.nsIn K mainGlobals "_law_made" = some (some (.ref f_l_made)))
    (l_l_made : K.lookup f_l_made = some ⟨oc_l_made, od_l_made, .func (PySem.W.fnOf "_law_made" "_law_made" (defArgs s_l_made) (defBody s_l_made) (defScope s_l_made) .none kV_l_made dc_l_made pm_l_made an_l_made cd_l_made ct_l_made), sl_l_made⟩)
    (ci_l_made : PySem.W.codeIn K cd_l_made "_law_made" = true)
    (kp_l_made : PySem.W.keepIn K (.ref f_l_made) = true)
    (a_l_spoiled : PySem.W.nsIn K mainGlobals "_law_spoiled" = some (some (.ref f_l_spoiled)))
    (l_l_spoiled : K.lookup f_l_spoiled = some ⟨oc_l_spoiled, od_l_spoiled, .func (PySem.W.fnOf "_law_spoiled" "_law_spoiled" (defArgs s_l_spoiled) (defBody s_l_spoiled) (defScope s_l_spoiled) .none kV_l_spoiled dc_l_spoiled pm_l_spoiled an_l_spoiled cd_l_spoiled ct_l_spoiled), sl_l_spoiled⟩)
    (ci_l_spoiled : PySem.W.codeIn K cd_l_spoiled "_law_spoiled" = true)
    (kp_l_spoiled : PySem.W.keepIn K (.ref f_l_spoiled) = true)
    (a_l_refused : PySem.W.nsIn K mainGlobals "_law_refused" = some (some (.ref f_l_refused)))
    (l_l_refused : K.lookup f_l_refused = some ⟨oc_l_refused, od_l_refused, .func (PySem.W.fnOf "_law_refused" "_law_refused" (defArgs s_l_refused) (defBody s_l_refused) (defScope s_l_refused) .none kV_l_refused dc_l_refused pm_l_refused an_l_refused cd_l_refused ct_l_refused), sl_l_refused⟩)
    (ci_l_refused : PySem.W.codeIn K cd_l_refused "_law_refused" = true)
    (kp_l_refused : PySem.W.keepIn K (.ref f_l_refused) = true)
    (a_l_no_places : PySem.W.nsIn K mainGlobals "_law_no_places" = some (some (.ref f_l_no_places)))
    (l_l_no_places : K.lookup f_l_no_places = some ⟨oc_l_no_places, od_l_no_places, .func (PySem.W.fnOf "_law_no_places" "_law_no_places" (defArgs s_l_no_places) (defBody s_l_no_places) (defScope s_l_no_places) .none kV_l_no_places dc_l_no_places pm_l_no_places an_l_no_places cd_l_no_places ct_l_no_places), sl_l_no_places⟩)
    (ci_l_no_places : PySem.W.codeIn K cd_l_no_places "_law_no_places" = true)
    (kp_l_no_places : PySem.W.keepIn K (.ref f_l_no_places) = true)
    (a_law : PySem.W.nsIn K mainGlobals "law" = some (some (.ref f_law)))
    (l_law : K.lookup f_law = some ⟨oc_law, od_law, .func (PySem.W.fnOf "law" "law" (defArgs s_law) (defBody s_law) (defScope s_law) .none kV_law dc_law pm_law an_law cd_law ct_law), sl_law⟩)
    (ci_law : PySem.W.codeIn K cd_law "law" = true)
    (kp_law : PySem.W.keepIn K (.ref f_law) = true)
    (pg : PySem.W.plainGet K C Str.empty = true)
    (hd : PySem.W.hasDictIn K C = true)
    (po : PySem.W.plainOver K C = true)
    (sa : PySem.W.findIn K (.ref C) "__setattr__" = some (some (.builtin "object.__setattr__")))
    (mk : PySem.W.makesIn K C = true)
    (kc : PySem.W.keepIn K (.ref C) = true)
    (nP : PySem.W.findIn K (.ref C) "posts" = some none)
    (nR : PySem.W.findIn K (.ref C) "rungs" = some none)
    (cC : PySem.W.findIn K (.ref C) "__class__" = some (some (.builtin "object.__class__")))
    (sG : PySem.W.specialIn K (.builtin "object.__class__") "__get__" = some (some (.builtin "getset_descriptor.__get__")))
    (tk : PySem.W.takesIn K (.builtin "object.__class__") = some true)
    (mo : PySem.W.mroIn K C (.type "object") = some true)
    (g_LotError : PySem.W.nsIn K mainGlobals "LotError" = some (some (.ref c_LotError)))
    (ty_LotError : PySem.W.typeIn K (.ref c_LotError) = some (.type "type"))
    (ic_LotError : PySem.W.isClsIn K c_LotError = true)
    (hd_LotError : PySem.W.hasDictIn K c_LotError = true)
    (bs_LotError : PySem.W.subIn K (.ref c_LotError) (.type "BaseException") = some true)
    (g_NoPost : PySem.W.nsIn K mainGlobals "NoPost" = some (some (.ref c_NoPost)))
    (ty_NoPost : PySem.W.typeIn K (.ref c_NoPost) = some (.type "type"))
    (ic_NoPost : PySem.W.isClsIn K c_NoPost = true)
    (hd_NoPost : PySem.W.hasDictIn K c_NoPost = true)
    (bs_NoPost : PySem.W.subIn K (.ref c_NoPost) (.type "BaseException") = some true)
    (x_NoPost : PySem.W.excIn K c_NoPost [.type "ValueError", .type "Exception", .type "BaseException", .type "object"] "ValueError.__new__" = true)
    (k_NoPost : PySem.W.keepIn K (.ref c_NoPost) = true)
    (ve_NoPost : PySem.W.subIn K (.ref c_NoPost) (.type "ValueError") = some true)
    (ga_NoPost : PySem.W.findIn K (.ref c_NoPost) "__getattribute__" = some (some (.builtin "BaseException.__getattribute__")))
    (gg_NoPost : PySem.W.findIn K (.ref c_NoPost) "__getattr__" = some none)
    (gc_NoPost : PySem.W.findIn K (.ref c_NoPost) "__class__" = some (some (.builtin "object.__class__")))
    (mo_NoPost : PySem.W.mroIn K c_NoPost (.type "object") = some true)
    (g_NoRung : PySem.W.nsIn K mainGlobals "NoRung" = some (some (.ref c_NoRung)))
    (ty_NoRung : PySem.W.typeIn K (.ref c_NoRung) = some (.type "type"))
    (ic_NoRung : PySem.W.isClsIn K c_NoRung = true)
    (hd_NoRung : PySem.W.hasDictIn K c_NoRung = true)
    (bs_NoRung : PySem.W.subIn K (.ref c_NoRung) (.type "BaseException") = some true)
    (x_NoRung : PySem.W.excIn K c_NoRung [.type "ValueError", .type "Exception", .type "BaseException", .type "object"] "ValueError.__new__" = true)
    (k_NoRung : PySem.W.keepIn K (.ref c_NoRung) = true)
    (ve_NoRung : PySem.W.subIn K (.ref c_NoRung) (.type "ValueError") = some true)
    (ga_NoRung : PySem.W.findIn K (.ref c_NoRung) "__getattribute__" = some (some (.builtin "BaseException.__getattribute__")))
    (gg_NoRung : PySem.W.findIn K (.ref c_NoRung) "__getattr__" = some none)
    (gc_NoRung : PySem.W.findIn K (.ref c_NoRung) "__class__" = some (some (.builtin "object.__class__")))
    (mo_NoRung : PySem.W.mroIn K c_NoRung (.type "object") = some true)
    (g_Unlike : PySem.W.nsIn K mainGlobals "Unlike" = some (some (.ref c_Unlike)))
    (ty_Unlike : PySem.W.typeIn K (.ref c_Unlike) = some (.type "type"))
    (ic_Unlike : PySem.W.isClsIn K c_Unlike = true)
    (hd_Unlike : PySem.W.hasDictIn K c_Unlike = true)
    (bs_Unlike : PySem.W.subIn K (.ref c_Unlike) (.type "BaseException") = some true)
    (x_Unlike : PySem.W.excIn K c_Unlike [.type "ValueError", .type "Exception", .type "BaseException", .type "object"] "ValueError.__new__" = true)
    (k_Unlike : PySem.W.keepIn K (.ref c_Unlike) = true)
    (ve_Unlike : PySem.W.subIn K (.ref c_Unlike) (.type "ValueError") = some true)
    (ga_Unlike : PySem.W.findIn K (.ref c_Unlike) "__getattribute__" = some (some (.builtin "BaseException.__getattribute__")))
    (gg_Unlike : PySem.W.findIn K (.ref c_Unlike) "__getattr__" = some none)
    (gc_Unlike : PySem.W.findIn K (.ref c_Unlike) "__class__" = some (some (.builtin "object.__class__")))
    (mo_Unlike : PySem.W.mroIn K c_Unlike (.type "object") = some true)
    (g_NoOutcome : PySem.W.nsIn K mainGlobals "NoOutcome" = some (some (.ref c_NoOutcome)))
    (ty_NoOutcome : PySem.W.typeIn K (.ref c_NoOutcome) = some (.type "type"))
    (ic_NoOutcome : PySem.W.isClsIn K c_NoOutcome = true)
    (hd_NoOutcome : PySem.W.hasDictIn K c_NoOutcome = true)
    (bs_NoOutcome : PySem.W.subIn K (.ref c_NoOutcome) (.type "BaseException") = some true)
    (x_NoOutcome : PySem.W.excIn K c_NoOutcome [.type "ValueError", .type "Exception", .type "BaseException", .type "object"] "ValueError.__new__" = true)
    (k_NoOutcome : PySem.W.keepIn K (.ref c_NoOutcome) = true)
    (ve_NoOutcome : PySem.W.subIn K (.ref c_NoOutcome) (.type "ValueError") = some true)
    (ga_NoOutcome : PySem.W.findIn K (.ref c_NoOutcome) "__getattribute__" = some (some (.builtin "BaseException.__getattribute__")))
    (gg_NoOutcome : PySem.W.findIn K (.ref c_NoOutcome) "__getattr__" = some none)
    (gc_NoOutcome : PySem.W.findIn K (.ref c_NoOutcome) "__class__" = some (some (.builtin "object.__class__")))
    (mo_NoOutcome : PySem.W.mroIn K c_NoOutcome (.type "object") = some true)
    (su_NoPost_LotError : PySem.W.subIn K (.ref c_NoPost) (.ref c_LotError) = some true)
    (su_NoPost_NoPost : PySem.W.subIn K (.ref c_NoPost) (.ref c_NoPost) = some true)
    (su_NoPost_NoOutcome : PySem.W.subIn K (.ref c_NoPost) (.ref c_NoOutcome) = some false)
    (ne_NoPost_NoOutcome : c_NoPost ≠ c_NoOutcome)
    (su_NoRung_LotError : PySem.W.subIn K (.ref c_NoRung) (.ref c_LotError) = some true)
    (su_NoRung_NoPost : PySem.W.subIn K (.ref c_NoRung) (.ref c_NoPost) = some false)
    (ne_NoRung_NoPost : c_NoRung ≠ c_NoPost)
    (su_NoRung_NoOutcome : PySem.W.subIn K (.ref c_NoRung) (.ref c_NoOutcome) = some false)
    (ne_NoRung_NoOutcome : c_NoRung ≠ c_NoOutcome)
    (su_Unlike_LotError : PySem.W.subIn K (.ref c_Unlike) (.ref c_LotError) = some true)
    (su_Unlike_NoPost : PySem.W.subIn K (.ref c_Unlike) (.ref c_NoPost) = some false)
    (ne_Unlike_NoPost : c_Unlike ≠ c_NoPost)
    (su_Unlike_NoOutcome : PySem.W.subIn K (.ref c_Unlike) (.ref c_NoOutcome) = some false)
    (ne_Unlike_NoOutcome : c_Unlike ≠ c_NoOutcome)
    (su_NoOutcome_LotError : PySem.W.subIn K (.ref c_NoOutcome) (.ref c_LotError) = some true)
    (su_NoOutcome_NoPost : PySem.W.subIn K (.ref c_NoOutcome) (.ref c_NoPost) = some false)
    (ne_NoOutcome_NoPost : c_NoOutcome ≠ c_NoPost)
    (su_NoOutcome_NoOutcome : PySem.W.subIn K (.ref c_NoOutcome) (.ref c_NoOutcome) = some true)
    : ∃ (fd : FuncData) (c P : Addr), PySem.W.tabIn K "places" = some (c, P) ∧ K.lookup P = none ∧ (∀ (s : Shared) (v : Value), BindsTo s fd ⟨[v], []⟩ [("_law_script", v)]) ∧ ∀ base : Heap, K.In base → base.Ns mainGlobals mg → LamX.TabB base mg c P → FnOk Pg w K mg base CX0 5 fa fd ["_law_script"] (spc (P_law K P)) := by
  have e := hfa.symm.trans (PySem.W.mg_of X G a_law)
  cases e
  have F_init : FunD K "__init__" "Ladder.__init__" (defArgs s_init) (defBody s_init) (defScope s_init) [.non] [] f_init _ := ⟨⟨_, _, _, _, _, _, _, _, _, _, rfl, l_init, ci_init, .inr ⟨by decide, dT, _, [.none], dTn, rfl, lT, rfl, .cons rfl .nil⟩, .inl rfl⟩, kp_init⟩
  have b_init2 : Binds K _ ["self", "posts", "rungs"] [] := binds3 F_init fun _ _ _ _ _ _ _ us its hl hi => match us, its, hl, hi with | [_, _, _], [_], _, _ => ⟨_, rfl, rfl⟩
  have b_init1 : Binds K _ ["self", "posts", "rungs"] [.none] := binds2d F_init fun _ _ _ _ _ _ _ us its hl hi => match us, its, hl, hi with | [_, _], [_], _, _ => ⟨_, rfl, rfl⟩
  have F_feet := fun_mk (st := s_feet) l_feet ci_feet kp_feet
  have b_feet := F_feet.binds (ps := ["self"]) fun _ _ _ _ _ _ us hl => match us, hl with | [_], _ => rfl
  have F_ends := fun_mk (st := s_ends) l_ends ci_ends kp_ends
  have b_ends := F_ends.binds (ps := ["self"]) fun _ _ _ _ _ _ us hl => match us, hl with | [_], _ => rfl
  have F_carried := fun_mk (st := s_carried) l_carried ci_carried kp_carried
  have b_carried := F_carried.binds (ps := ["self", "things"]) fun _ _ _ _ _ _ us hl => match us, hl with | [_, _], _ => rfl
  have F_turned := fun_mk (st := s_turned) l_turned ci_turned kp_turned
  have b_turned := F_turned.binds (ps := ["self"]) fun _ _ _ _ _ _ us hl => match us, hl with | [_], _ => rfl
  have F_above := fun_mk (st := s_above) l_above ci_above kp_above
  have b_above := F_above.binds (ps := ["self", "other"]) fun _ _ _ _ _ _ us hl => match us, hl with | [_, _], _ => rfl
  have F_is_outcome := fun_mk (st := s_is_outcome) l_is_outcome ci_is_outcome kp_is_outcome
  have b_is_outcome := F_is_outcome.binds (ps := ["some"]) fun _ _ _ _ _ _ us hl => match us, hl with | [_], _ => rfl
  have F_places := fun_mk (st := s_places) l_places ci_places kp_places
  have b_places := F_places.binds (ps := ["things"]) fun _ _ _ _ _ _ us hl => match us, hl with | [_], _ => rfl
  have F_stands := fun_mk (st := s_stands) l_stands ci_stands kp_stands
  have b_stands := F_stands.binds (ps := ["ladder"]) fun _ _ _ _ _ _ us hl => match us, hl with | [_], _ => rfl
  have F_standing := fun_mk (st := s_standing) l_standing ci_standing kp_standing
  have b_standing := F_standing.binds (ps := ["outcome"]) fun _ _ _ _ _ _ us hl => match us, hl with | [_], _ => rfl
  have F_must := fun_mk (st := s_must) l_must ci_must kp_must
  have b_must := F_must.binds (ps := ["outcome"]) fun _ _ _ _ _ _ us hl => match us, hl with | [_], _ => rfl
  have F_l_cell_at := fun_mk (st := s_l_cell_at) l_l_cell_at ci_l_cell_at kp_l_cell_at
  have b_l_cell_at := F_l_cell_at.binds (ps := ["_law_script", "_law_k"]) fun _ _ _ _ _ _ us hl => match us, hl with | [_, _], _ => rfl
  have F_l_whole := fun_mk (st := s_l_whole) l_l_whole ci_l_whole kp_l_whole
  have b_l_whole := F_l_whole.binds (ps := ["_law_found"]) fun _ _ _ _ _ _ us hl => match us, hl with | [_], _ => rfl
  have F_l_numbers_by := fun_mk (st := s_l_numbers_by) l_l_numbers_by ci_l_numbers_by kp_l_numbers_by
  have b_l_numbers_by := F_l_numbers_by.binds (ps := ["_law_cells", "_law_kind"]) fun _ _ _ _ _ _ us hl => match us, hl with | [_, _], _ => rfl
  have F_l_list := fun_mk (st := s_l_list) l_l_list ci_l_list kp_l_list
  have b_l_list := F_l_list.binds (ps := ["_law_found", "_law_many"]) fun _ _ _ _ _ _ us hl => match us, hl with | [_, _], _ => rfl
  have F_l_rises := fun_mk (st := s_l_rises) l_l_rises ci_l_rises kp_l_rises
  have b_l_rises := F_l_rises.binds (ps := ["_law_numbers", "_law_outcome"]) fun _ _ _ _ _ _ us hl => match us, hl with | [_, _], _ => rfl
  have F_l_stands := fun_mk (st := s_l_stands) l_l_stands ci_l_stands kp_l_stands
  have b_l_stands := F_l_stands.binds (ps := ["_law_rungs"]) fun _ _ _ _ _ _ us hl => match us, hl with | [_], _ => rfl
  have F_l_says := fun_mk (st := s_l_says) l_l_says ci_l_says kp_l_says
  have b_l_says := F_l_says.binds (ps := ["_law_found", "_law_due"]) fun _ _ _ _ _ _ us hl => match us, hl with | [_, _], _ => rfl
  have F_l_made := fun_mk (st := s_l_made) l_l_made ci_l_made kp_l_made
  have b_l_made := F_l_made.binds (ps := ["_law_found", "_law_outcome"]) fun _ _ _ _ _ _ us hl => match us, hl with | [_, _], _ => rfl
  have F_l_spoiled := fun_mk (st := s_l_spoiled) l_l_spoiled ci_l_spoiled kp_l_spoiled
  have b_l_spoiled := F_l_spoiled.binds (ps := ["_law_ends", "_law_cell", "_law_number"]) fun _ _ _ _ _ _ us hl => match us, hl with | [_, _, _], _ => rfl
  have F_l_refused := fun_mk (st := s_l_refused) l_l_refused ci_l_refused kp_l_refused
  have b_l_refused := F_l_refused.binds (ps := ["_law_outcome"]) fun _ _ _ _ _ _ us hl => match us, hl with | [_], _ => rfl
  have F_l_no_places := fun_mk (st := s_l_no_places) l_l_no_places ci_l_no_places kp_l_no_places
  have b_l_no_places := F_l_no_places.binds (ps := ["_law_numbers"]) fun _ _ _ _ _ _ us hl => match us, hl with | [_], _ => rfl
  have F_law := fun_mk (st := s_law) l_law ci_law kp_law
  have cl : Cls K C := ⟨pg, hd, po, sa⟩
  have T : Txt K mg { c_Ladder := C, c_code := cP, c_tab := PT, c_LotError := c_LotError, c_NoPost := c_NoPost, c_NoRung := c_NoRung, c_Unlike := c_Unlike, c_NoOutcome := c_NoOutcome, f_init := f_init, d_init := _, f_feet := f_feet, d_feet := _, f_ends := f_ends, d_ends := _, f_carried := f_carried, d_carried := _, f_turned := f_turned, d_turned := _, f_above := f_above, d_above := _, f_is_outcome := f_is_outcome, d_is_outcome := _, f_places := f_places, d_places := _, f_stands := f_stands, d_stands := _, f_standing := f_standing, d_standing := _, f_must := f_must, d_must := _, f_l_cell_at := f_l_cell_at, d_l_cell_at := _, f_l_whole := f_l_whole, d_l_whole := _, f_l_numbers_by := f_l_numbers_by, d_l_numbers_by := _, f_l_list := f_l_list, d_l_list := _, f_l_rises := f_l_rises, d_l_rises := _, f_l_stands := f_l_stands, d_l_stands := _, f_l_says := f_l_says, d_l_says := _, f_l_made := f_l_made, d_l_made := _, f_l_spoiled := f_l_spoiled, d_l_spoiled := _, f_l_refused := f_l_refused, d_l_refused := _, f_l_no_places := f_l_no_places, d_l_no_places := _ } :=
    { n_bool := PySem.W.mg_none_of X G n_bool,
      n_enumerate := PySem.W.mg_none_of X G n_enumerate,
      n_int := PySem.W.mg_none_of X G n_int,
      n_isinstance := PySem.W.mg_none_of X G n_isinstance,
      n_len := PySem.W.mg_none_of X G n_len,
      n_list := PySem.W.mg_none_of X G n_list,
      n_min := PySem.W.mg_none_of X G n_min,
      n_range := PySem.W.mg_none_of X G n_range,
      n_reversed := PySem.W.mg_none_of X G n_reversed,
      n_sorted := PySem.W.mg_none_of X G n_sorted,
      n_tuple := PySem.W.mg_none_of X G n_tuple,
      g_MOST := ⟨_, PySem.W.mg_of X G gc_MOST⟩,
      g_Ladder := PySem.W.mg_of X G gL,
      cl := cl,
      nP := nP,
      nR := nR,
      mk_Ladder := ⟨mk, a_init, i_init, kc⟩,
      ty_Ladder := fun H p dx fs hp => .ins hp cl cC sG tk mo,
      kit_Ladder := kit_self,
      g_LotError := PySem.W.mg_of X G g_LotError,
      g_NoPost := PySem.W.mg_of X G g_NoPost,
      x_NoPost := x_NoPost,
      k_NoPost := k_NoPost,
      bs_NoPost := bs_NoPost,
      ty_NoPost := ty_NoPost,
      exc_NoPost := ⟨ga_NoPost, gg_NoPost, bs_NoPost, hd_NoPost, gc_NoPost, sG, tk, mo_NoPost⟩,
      exm_NoPost_LotError := PySem.W.exm_ref bs_LotError hd_LotError ty_LotError su_NoPost_LotError,
      kit_NoPost_NoPost := kit_sub ic_NoPost ty_NoPost su_NoPost_NoPost (fun _ => rfl),
      kit_NoPost_NoOutcome := kit_sub ic_NoOutcome ty_NoOutcome su_NoPost_NoOutcome (fun q => absurd q ne_NoPost_NoOutcome),
      g_NoRung := PySem.W.mg_of X G g_NoRung,
      x_NoRung := x_NoRung,
      k_NoRung := k_NoRung,
      bs_NoRung := bs_NoRung,
      ty_NoRung := ty_NoRung,
      exc_NoRung := ⟨ga_NoRung, gg_NoRung, bs_NoRung, hd_NoRung, gc_NoRung, sG, tk, mo_NoRung⟩,
      exm_NoRung_LotError := PySem.W.exm_ref bs_LotError hd_LotError ty_LotError su_NoRung_LotError,
      kit_NoRung_NoPost := kit_sub ic_NoPost ty_NoPost su_NoRung_NoPost (fun q => absurd q ne_NoRung_NoPost),
      kit_NoRung_NoOutcome := kit_sub ic_NoOutcome ty_NoOutcome su_NoRung_NoOutcome (fun q => absurd q ne_NoRung_NoOutcome),
      g_Unlike := PySem.W.mg_of X G g_Unlike,
      x_Unlike := x_Unlike,
      k_Unlike := k_Unlike,
      bs_Unlike := bs_Unlike,
      ty_Unlike := ty_Unlike,
      exc_Unlike := ⟨ga_Unlike, gg_Unlike, bs_Unlike, hd_Unlike, gc_Unlike, sG, tk, mo_Unlike⟩,
      exm_Unlike_LotError := PySem.W.exm_ref bs_LotError hd_LotError ty_LotError su_Unlike_LotError,
      kit_Unlike_NoPost := kit_sub ic_NoPost ty_NoPost su_Unlike_NoPost (fun q => absurd q ne_Unlike_NoPost),
      kit_Unlike_NoOutcome := kit_sub ic_NoOutcome ty_NoOutcome su_Unlike_NoOutcome (fun q => absurd q ne_Unlike_NoOutcome),
      g_NoOutcome := PySem.W.mg_of X G g_NoOutcome,
      x_NoOutcome := x_NoOutcome,
      k_NoOutcome := k_NoOutcome,
      bs_NoOutcome := bs_NoOutcome,
      ty_NoOutcome := ty_NoOutcome,
      exc_NoOutcome := ⟨ga_NoOutcome, gg_NoOutcome, bs_NoOutcome, hd_NoOutcome, gc_NoOutcome, sG, tk, mo_NoOutcome⟩,
      exm_NoOutcome_LotError := PySem.W.exm_ref bs_LotError hd_LotError ty_LotError su_NoOutcome_LotError,
      kit_NoOutcome_NoPost := kit_sub ic_NoPost ty_NoPost su_NoOutcome_NoPost (fun q => absurd q ne_NoOutcome_NoPost),
      kit_NoOutcome_NoOutcome := kit_sub ic_NoOutcome ty_NoOutcome su_NoOutcome_NoOutcome (fun _ => rfl),
      F_init := F_init,
      b_init2 := b_init2,
      b_init1 := b_init1,
      F_feet := F_feet,
      b_feet := b_feet,
      m_feet := ⟨a_feet, i_feet, kp_feet⟩,
      F_ends := F_ends,
      b_ends := b_ends,
      m_ends := ⟨a_ends, i_ends, kp_ends⟩,
      F_carried := F_carried,
      b_carried := b_carried,
      m_carried := ⟨a_carried, i_carried, kp_carried⟩,
      F_turned := F_turned,
      b_turned := b_turned,
      m_turned := ⟨a_turned, i_turned, kp_turned⟩,
      F_above := F_above,
      b_above := b_above,
      m_above := ⟨a_above, i_above, kp_above⟩,
      F_is_outcome := F_is_outcome,
      b_is_outcome := b_is_outcome,
      g_is_outcome := PySem.W.mg_of X G a_is_outcome,
      F_places := F_places,
      b_places := b_places,
      code_places := rfl,
      g_places := PySem.W.mg_of X G a_places,
      F_stands := F_stands,
      b_stands := b_stands,
      g_stands := PySem.W.mg_of X G a_stands,
      F_standing := F_standing,
      b_standing := b_standing,
      g_standing := PySem.W.mg_of X G a_standing,
      F_must := F_must,
      b_must := b_must,
      g_must := PySem.W.mg_of X G a_must,
      F_l_cell_at := F_l_cell_at,
      b_l_cell_at := b_l_cell_at,
      g_l_cell_at := PySem.W.mg_of X G a_l_cell_at,
      F_l_whole := F_l_whole,
      b_l_whole := b_l_whole,
      g_l_whole := PySem.W.mg_of X G a_l_whole,
      F_l_numbers_by := F_l_numbers_by,
      b_l_numbers_by := b_l_numbers_by,
      g_l_numbers_by := PySem.W.mg_of X G a_l_numbers_by,
      F_l_list := F_l_list,
      b_l_list := b_l_list,
      g_l_list := PySem.W.mg_of X G a_l_list,
      F_l_rises := F_l_rises,
      b_l_rises := b_l_rises,
      g_l_rises := PySem.W.mg_of X G a_l_rises,
      F_l_stands := F_l_stands,
      b_l_stands := b_l_stands,
      g_l_stands := PySem.W.mg_of X G a_l_stands,
      F_l_says := F_l_says,
      b_l_says := b_l_says,
      g_l_says := PySem.W.mg_of X G a_l_says,
      F_l_made := F_l_made,
      b_l_made := b_l_made,
      g_l_made := PySem.W.mg_of X G a_l_made,
      F_l_spoiled := F_l_spoiled,
      b_l_spoiled := b_l_spoiled,
      g_l_spoiled := PySem.W.mg_of X G a_l_spoiled,
      F_l_refused := F_l_refused,
      b_l_refused := b_l_refused,
      g_l_refused := PySem.W.mg_of X G a_l_refused,
      F_l_no_places := F_l_no_places,
      b_l_no_places := b_l_no_places,
      g_l_no_places := PySem.W.mg_of X G a_l_no_places }
  exact ⟨_, _, _, tbl, nPT, fun s v => .of_eq rfl, fun base _ _ TB => ok_law F_law T TB⟩
theorem walk {l : PySem.W.OpenLaw} {q : Program} {loose : List Str} {XP : (Str → Option Value) → Heap → Prop} {YP : World → Heap → Prop} {d dP : DefRec} {K : Params → PySem.W.Frag} (hn : l.most = some 63) (hdf : d.params.defaults = []) (hrec : (PyProof.Rows.recsOf q).find? (fun e => e.name == ("places" : Str)) = some dP)
    (hY : ∀ (w : World) (h : Heap), YP w h → (K w.params).In h)
    (F : ∀ (w : World) (mg : Str → Option Value) (fa : Addr) (h : Heap), (K w.params).In h → h.Ns mainGlobals mg → mg d.name = some (.ref fa) →
      ∃ (fd : FuncData) (c P : Addr), PySem.W.tabIn (K w.params) "places" = some (c, P) ∧ (K w.params).lookup P = none ∧ (∀ (s : Shared) (u : Value), BindsTo s fd ⟨[u], []⟩ [("_law_script", u)]) ∧ ∀ base : Heap, (K w.params).In base → base.Ns mainGlobals mg → LamX.TabB base mg c P → FnOk l.prog w (K w.params) mg base CX0 5 fa fd ["_law_script"] (spc (P_law (K w.params) P))) :
    PySem.W.WalkO q loose XP YP l.row.toRowW d [] (fun f vs => PySem.call f vs) :=
  La.walk_tab (n := 63) (k := 5) (x := "_law_script") (CX := fun _ => CX0) (SP := fun K P => spc (P_law K P)) hn (by decide) hdf ⟨rfl, by decide, by decide⟩ hrec hY F (fun K P H a ns hl hP hS => ⟨H, fun v _ => v = .bl true, fun _ _ _ => False, Same.refl H, fun _ _ _ q _ => q, fun _ _ _ _ q _ => q, a, ns, rfl, hS, hl, hP, fun _ => rfl⟩) fun _ _ _ _ _ z => z
end
end Ll
open PySem PySem.W PyProof.Rows in
set_option maxRecDepth 100000 in
set_option maxHeartbeats 0 in
theorem PySem.Challenge.cw_ladderlots_k06_whole_made_in_order_holds : PySem.Challenge.rw_ladderlots_k06_whole_made_in_order.Holds := by
  w_on; o_law; k_head; (case hw => w_witness2)
  k_fill
  refine Ll.walk (l := PySem.Challenge.rw_ladderlots_k06_whole_made_in_order) rfl rfl rfl (fun w h Y => PySem.W.km_in_of Y) ?F
  case F =>
    intro w mg fa h KX G hmg
    refine' Ll.txt_mk KX G hmg ?gL ?n_bool ?n_enumerate ?n_int ?n_isinstance ?n_len ?n_list ?n_min ?n_range ?n_reversed ?n_sorted ?n_tuple ?gc_MOST ?a_init ?i_init ?l_init ?lT ?ci_init ?kp_init ?a_feet ?i_feet ?l_feet ?ci_feet ?kp_feet ?a_ends ?i_ends ?l_ends ?ci_ends ?kp_ends ?a_carried ?i_carried ?l_carried ?ci_carried ?kp_carried ?a_turned ?i_turned ?l_turned ?ci_turned ?kp_turned ?a_above ?i_above ?l_above ?ci_above ?kp_above ?a_is_outcome ?l_is_outcome ?ci_is_outcome ?kp_is_outcome ?a_places ?l_places ?ci_places ?lc_places ?v11 ?tbl ?nPT ?kp_places ?a_stands ?l_stands ?ci_stands ?kp_stands ?a_standing ?l_standing ?ci_standing ?kp_standing ?a_must ?l_must ?ci_must ?kp_must ?a_l_cell_at ?l_l_cell_at ?ci_l_cell_at ?kp_l_cell_at ?a_l_whole ?l_l_whole ?ci_l_whole ?kp_l_whole ?a_l_numbers_by ?l_l_numbers_by ?ci_l_numbers_by ?kp_l_numbers_by ?a_l_list ?l_l_list ?ci_l_list ?kp_l_list ?a_l_rises ?l_l_rises ?ci_l_rises ?kp_l_rises ?a_l_stands ?l_l_stands ?ci_l_stands ?kp_l_stands ?a_l_says ?l_l_says ?ci_l_says ?kp_l_says ?a_l_made ?l_l_made ?ci_l_made ?kp_l_made ?a_l_spoiled ?l_l_spoiled ?ci_l_spoiled ?kp_l_spoiled ?a_l_refused ?l_l_refused ?ci_l_refused ?kp_l_refused ?a_l_no_places ?l_l_no_places ?ci_l_no_places ?kp_l_no_places ?a_law ?l_law ?ci_law ?kp_law ?pg ?hd ?po ?sa ?mk ?kc ?nP ?nR ?cC ?sG ?tk ?mo ?g_LotError ?ty_LotError ?ic_LotError ?hd_LotError ?bs_LotError ?g_NoPost ?ty_NoPost ?ic_NoPost ?hd_NoPost ?bs_NoPost ?x_NoPost ?k_NoPost ?ve_NoPost ?ga_NoPost ?gg_NoPost ?gc_NoPost ?mo_NoPost ?g_NoRung ?ty_NoRung ?ic_NoRung ?hd_NoRung ?bs_NoRung ?x_NoRung ?k_NoRung ?ve_NoRung ?ga_NoRung ?gg_NoRung ?gc_NoRung ?mo_NoRung ?g_Unlike ?ty_Unlike ?ic_Unlike ?hd_Unlike ?bs_Unlike ?x_Unlike ?k_Unlike ?ve_Unlike ?ga_Unlike ?gg_Unlike ?gc_Unlike ?mo_Unlike ?g_NoOutcome ?ty_NoOutcome ?ic_NoOutcome ?hd_NoOutcome ?bs_NoOutcome ?x_NoOutcome ?k_NoOutcome ?ve_NoOutcome ?ga_NoOutcome ?gg_NoOutcome ?gc_NoOutcome ?mo_NoOutcome ?su_NoPost_LotError ?su_NoPost_NoPost ?su_NoPost_NoOutcome ?ne_NoPost_NoOutcome ?su_NoRung_LotError ?su_NoRung_NoPost ?ne_NoRung_NoPost ?su_NoRung_NoOutcome ?ne_NoRung_NoOutcome ?su_Unlike_LotError ?su_Unlike_NoPost ?ne_Unlike_NoPost ?su_Unlike_NoOutcome ?ne_Unlike_NoOutcome ?su_NoOutcome_LotError ?su_NoOutcome_NoPost ?ne_NoOutcome_NoPost ?su_NoOutcome_NoOutcome
    (case gL => k_is)
    (case n_bool => k_is)
    (case n_enumerate => k_is)
    (case n_int => k_is)
    (case n_isinstance => k_is)
    (case n_len => k_is)
    (case n_list => k_is)
    (case n_min => k_is)
    (case n_range => k_is)
    (case n_reversed => k_is)
    (case n_sorted => k_is)
    (case n_tuple => k_is)
    (case gc_MOST => k_is)
    (case a_init => k_is)
    (case i_init => k_is)
    (case l_init => k_is)
    (case lT => k_is)
    (case ci_init => k_is)
    (case kp_init => k_is)
    (case a_feet => k_is)
    (case i_feet => k_is)
    (case l_feet => k_is)
    (case ci_feet => k_is)
    (case kp_feet => k_is)
    (case a_ends => k_is)
    (case i_ends => k_is)
    (case l_ends => k_is)
    (case ci_ends => k_is)
    (case kp_ends => k_is)
    (case a_carried => k_is)
    (case i_carried => k_is)
    (case l_carried => k_is)
    (case ci_carried => k_is)
    (case kp_carried => k_is)
    (case a_turned => k_is)
    (case i_turned => k_is)
    (case l_turned => k_is)
    (case ci_turned => k_is)
    (case kp_turned => k_is)
    (case a_above => k_is)
    (case i_above => k_is)
    (case l_above => k_is)
    (case ci_above => k_is)
    (case kp_above => k_is)
    (case a_is_outcome => k_is)
    (case l_is_outcome => k_is)
    (case ci_is_outcome => k_is)
    (case kp_is_outcome => k_is)
    (case a_places => k_is)
    (case l_places => k_is)
    (case ci_places => k_is)
    (case lc_places => k_is)
    (case v11 => exact rfl)
    (case tbl => kernel_rfl)
    (case nPT => kernel_rfl)
    (case kp_places => k_is)
    (case a_stands => k_is)
    (case l_stands => k_is)
    (case ci_stands => k_is)
    (case kp_stands => k_is)
    (case a_standing => k_is)
    (case l_standing => k_is)
    (case ci_standing => k_is)
    (case kp_standing => k_is)
    (case a_must => k_is)
    (case l_must => k_is)
    (case ci_must => k_is)
    (case kp_must => k_is)
    (case a_l_cell_at => k_is)
    (case l_l_cell_at => k_is)
    (case ci_l_cell_at => k_is)
    (case kp_l_cell_at => k_is)
    (case a_l_whole => k_is)
    (case l_l_whole => k_is)
    (case ci_l_whole => k_is)
    (case kp_l_whole => k_is)
    (case a_l_numbers_by => k_is)
    (case l_l_numbers_by => k_is)
    (case ci_l_numbers_by => k_is)
    (case kp_l_numbers_by => k_is)
    (case a_l_list => k_is)
    (case l_l_list => k_is)
    (case ci_l_list => k_is)
    (case kp_l_list => k_is)
    (case a_l_rises => k_is)
    (case l_l_rises => k_is)
    (case ci_l_rises => k_is)
    (case kp_l_rises => k_is)
    (case a_l_stands => k_is)
    (case l_l_stands => k_is)
    (case ci_l_stands => k_is)
    (case kp_l_stands => k_is)
    (case a_l_says => k_is)
    (case l_l_says => k_is)
    (case ci_l_says => k_is)
    (case kp_l_says => k_is)
    (case a_l_made => k_is)
    (case l_l_made => k_is)
    (case ci_l_made => k_is)
    (case kp_l_made => k_is)
    (case a_l_spoiled => k_is)
    (case l_l_spoiled => k_is)
    (case ci_l_spoiled => k_is)
    (case kp_l_spoiled => k_is)
    (case a_l_refused => k_is)
    (case l_l_refused => k_is)
    (case ci_l_refused => k_is)
    (case kp_l_refused => k_is)
    (case a_l_no_places => k_is)
    (case l_l_no_places => k_is)
    (case ci_l_no_places => k_is)
    (case kp_l_no_places => k_is)
    (case a_law => k_is)
    (case l_law => k_is)
    (case ci_law => k_is)
    (case kp_law => k_is)
    (case pg => k_is)
    (case hd => k_is)
    (case po => k_is)
    (case sa => k_is)
    (case mk => k_is)
    (case kc => k_is)
    (case nP => k_is)
    (case nR => k_is)
    (case cC => k_is)
    (case sG => k_is)
    (case tk => k_is)
    (case mo => k_is)
    (case g_LotError => k_is)
    (case ty_LotError => k_is)
    (case ic_LotError => k_is)
    (case hd_LotError => k_is)
    (case bs_LotError => k_is)
    (case g_NoPost => k_is)
    (case ty_NoPost => k_is)
    (case ic_NoPost => k_is)
    (case hd_NoPost => k_is)
    (case bs_NoPost => k_is)
    (case x_NoPost => k_exc)
    (case k_NoPost => k_is)
    (case ve_NoPost => k_is)
    (case ga_NoPost => k_is)
    (case gg_NoPost => k_is)
    (case gc_NoPost => k_is)
    (case mo_NoPost => k_is)
    (case g_NoRung => k_is)
    (case ty_NoRung => k_is)
    (case ic_NoRung => k_is)
    (case hd_NoRung => k_is)
    (case bs_NoRung => k_is)
    (case x_NoRung => k_exc)
    (case k_NoRung => k_is)
    (case ve_NoRung => k_is)
    (case ga_NoRung => k_is)
    (case gg_NoRung => k_is)
    (case gc_NoRung => k_is)
    (case mo_NoRung => k_is)
    (case g_Unlike => k_is)
    (case ty_Unlike => k_is)
    (case ic_Unlike => k_is)
    (case hd_Unlike => k_is)
    (case bs_Unlike => k_is)
    (case x_Unlike => k_exc)
    (case k_Unlike => k_is)
    (case ve_Unlike => k_is)
    (case ga_Unlike => k_is)
    (case gg_Unlike => k_is)
    (case gc_Unlike => k_is)
    (case mo_Unlike => k_is)
    (case g_NoOutcome => k_is)
    (case ty_NoOutcome => k_is)
    (case ic_NoOutcome => k_is)
    (case hd_NoOutcome => k_is)
    (case bs_NoOutcome => k_is)
    (case x_NoOutcome => k_exc)
    (case k_NoOutcome => k_is)
    (case ve_NoOutcome => k_is)
    (case ga_NoOutcome => k_is)
    (case gg_NoOutcome => k_is)
    (case gc_NoOutcome => k_is)
    (case mo_NoOutcome => k_is)
    (case su_NoPost_LotError => k_is)
    (case su_NoPost_NoPost => k_is)
    (case su_NoPost_NoOutcome => k_is)
    (case ne_NoPost_NoOutcome => decide)
    (case su_NoRung_LotError => k_is)
    (case su_NoRung_NoPost => k_is)
    (case ne_NoRung_NoPost => decide)
    (case su_NoRung_NoOutcome => k_is)
    (case ne_NoRung_NoOutcome => decide)
    (case su_Unlike_LotError => k_is)
    (case su_Unlike_NoPost => k_is)
    (case ne_Unlike_NoPost => decide)
    (case su_Unlike_NoOutcome => k_is)
    (case ne_Unlike_NoOutcome => decide)
    (case su_NoOutcome_LotError => k_is)
    (case su_NoOutcome_NoPost => k_is)
    (case ne_NoOutcome_NoPost => decide)
    (case su_NoOutcome_NoOutcome => k_is)
