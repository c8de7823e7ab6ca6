import PyProof.Rows.All
import Wide.All
import OpenK.AllK
import Wide.FinOn
import HandS.ForMost
import HandS.Exc
import HandS.TryOnly
import HandS.TryElse
import HandS.ExcOwn
import HandS.WordsExc
import HandS.Star
import HandS.TupAny
import HandS.TupMul
import HandS.Steps
import HandS.Walk
import HandS.IsInst
import HandS.CallRecv
import HandS.Wide
import HandS.Lambda
import HandS.EndTab
import HandS.Codes
import PySem.Challenge.RW_patternways_k36_whole_ways
import HandS.Head0
import HandS.Head1
import HandS.Head2
import HandS.HeadEnd
import HandS.HeadHook1
import HandS.HeadHook2
import HandS.HeadHook3
import HandS.HeadHook4
import HandS.HeadWalk
import HandS.NestedK
import KE.GoesMore
import HandS.SetKeys
import HandS.ListItems
import KE.KDictKeyed
import KE.KDictItemsList
set_option Elab.async false
set_option maxRecDepth 100000
set_option maxHeartbeats 4000000
set_option linter.all false
namespace PW
open PySem L2
section
/-! the data layer: tuples as trees, readings by what they give -/
/-! ### data of tuples in the abstract heap -/
mutual
inductive Tp (H : Hp) : V → PyData → Prop
  | non : Tp H .non .none
  | bl (b : Bool) : Tp H (.bl b) (.bool b)
  | int (i : Int) : Tp H (.int i) (.int i)
  | str (x : Str) : Tp H (.str x) (.str x)
  | tup {a : Addr} {xs : List V} {ds : List PyData} : H a = some (.tup xs) → TpA H xs ds → Tp H (.ref a) (.tuple ds)
inductive TpA (H : Hp) : List V → List PyData → Prop
  | nil : TpA H [] []
  | cons {v : V} {vs : List V} {d : PyData} {ds : List PyData} : Tp H v d → TpA H vs ds → TpA H (v :: vs) (d :: ds)
end

/-- all tuples stay -/
def TLe (H H' : Hp) : Prop := ∀ a xs, H a = some (.tup xs) → H' a = some (.tup xs)
theorem TLe.refl (H : Hp) : TLe H H := fun _ _ h => h
theorem TLe.trans {H H1 H2 : Hp} (a : TLe H H1) (b : TLe H1 H2) : TLe H H2 := fun x o h => b x o (a x o h)
theorem tle {H H' : Hp} (e : Same H H') : TLe H H' := fun a xs h => e a _ h
theorem same_new {H : Hp} {p : Addr} (h : H p = none) (o : HO) : Same H (upd H p o) := fun b u q => by rw [upd_ne (ne_of_none q h)]; exact q
/-- an object that H does not know may change -/
theorem same_mut {H H' : Hp} {p : Addr} {o : HO} (e : Same H H') (h : H p = none) : Same H (upd H' p o) := fun b u q => by
  rw [upd_ne (ne_of_none q h)]
  exact e b u q
theorem TLe.upd {H H' : Hp} {p : Addr} {o : HO} (e : TLe H H') (h : ∀ xs, H p ≠ some (.tup xs)) : TLe H (upd H' p o) := fun b xs q => by
  have hb : b ≠ p := fun z => h xs (z ▸ q)
  rw [upd_ne hb]
  exact e b xs q
theorem tle_lst {H : Hp} {p : Addr} {xs : List V} {o : HO} (h : H p = some (.lst xs)) : TLe H (upd H p o) := (TLe.refl H).upd fun ys q => by rw [h] at q; cases q

section
variable {H H' : Hp}
mutual
theorem Tp.mono (e : TLe H H') : ∀ {v : V} {d : PyData}, Tp H v d → Tp H' v d
  | _, _, .non => .non
  | _, _, .bl b => .bl b
  | _, _, .int i => .int i
  | _, _, .str x => .str x
  | _, _, .tup h q => .tup (e _ _ h) (TpA.mono e q)
theorem TpA.mono (e : TLe H H') : ∀ {vs : List V} {ds : List PyData}, TpA H vs ds → TpA H' vs ds
  | _, _, .nil => .nil
  | _, _, .cons h q => .cons (Tp.mono e h) (TpA.mono e q)
end
end
section
variable {H : Hp}
theorem TpA.length : ∀ {vs : List V} {ds : List PyData}, TpA H vs ds → vs.length = ds.length
  | _, _, .nil => rfl
  | _, _, .cons _ q => by rw [List.length_cons, List.length_cons, TpA.length q]
theorem TpA.append : ∀ {vs ws : List V} {ds es : List PyData}, TpA H vs ds → TpA H ws es → TpA H (vs ++ ws) (ds ++ es)
  | _, _, _, _, .nil, h => h
  | _, _, _, _, .cons h q, k => .cons h (TpA.append q k)
theorem TpA.drop : ∀ (n : Nat) {vs : List V} {ds : List PyData}, TpA H vs ds → TpA H (vs.drop n) (ds.drop n)
  | 0, _, _, h => h
  | _ + 1, _, _, .nil => .nil
  | n + 1, _, _, .cons _ q => TpA.drop n q
theorem TpA.take : ∀ (n : Nat) {vs : List V} {ds : List PyData}, TpA H vs ds → TpA H (vs.take n) (ds.take n)
  | 0, _, _, _ => .nil
  | _ + 1, _, _, .nil => .nil
  | n + 1, _, _, .cons h q => .cons h (TpA.take n q)
theorem TpA.get : ∀ {vs : List V} {ds : List PyData} {i : Nat} {v : V}, TpA H vs ds → vs[i]? = some v → ∃ d, ds[i]? = some d ∧ Tp H v d
  | _, _, _, _, .nil, e => by simp at e
  | _, _, 0, _, .cons h _, e => by
    simp at e
    subst e
    exact ⟨_, by simp, h⟩
  | _, _, i + 1, v, .cons _ q, e => by
    obtain ⟨d, h1, h2⟩ := TpA.get (i := i) (v := v) q (by simpa using e)
    exact ⟨d, by simpa using h1, h2⟩
theorem TpA.getD : ∀ {vs : List V} {ds : List PyData} {i : Nat} {d : PyData}, TpA H vs ds → ds[i]? = some d → ∃ v, vs[i]? = some v ∧ Tp H v d
  | _, _, _, _, .nil, e => by simp at e
  | _, _, 0, _, .cons h _, e => by
    simp at e
    subst e
    exact ⟨_, by simp, h⟩
  | _, _, i + 1, v, .cons _ q, e => by
    obtain ⟨d, h1, h2⟩ := TpA.getD (i := i) (d := v) q (by simpa using e)
    exact ⟨d, by simpa using h1, h2⟩
theorem TpA.one {v : V} {d : PyData} (h : Tp H v d) : TpA H [v] [d] := .cons h .nil
theorem Tp.tuple_inv {v : V} {ds : List PyData} (h : Tp H v (.tuple ds)) : ∃ a xs, v = .ref a ∧ H a = some (.tup xs) ∧ TpA H xs ds := by
  cases h with
  | tup h q => exact ⟨_, _, rfl, h, q⟩
theorem Tp.int_inv {v : V} {i : Int} (h : Tp H v (.int i)) : v = .int i := by cases h; rfl
theorem Tp.str_inv {v : V} {x : Str} (h : Tp H v (.str x)) : v = .str x := by cases h; rfl
theorem Tp.bool_inv {v : V} {b : Bool} (h : Tp H v (.bool b)) : v = .bl b := by cases h; rfl
theorem Tp.none_inv {v : V} (h : Tp H v .none) : v = .non := by cases h; rfl
end
/-! to the library's data -/
section
variable {K : PySem.W.Frag} {H : Hp}
mutual
theorem Tp.dp : ∀ {v : V} {d : PyData}, Tp H v d → Dp K H v d
  | _, _, .non => .non
  | _, _, .bl b => .bl b
  | _, _, .int i => .int i
  | _, _, .str x => .str x
  | _, _, .tup h q => .tup (SqT.of h) (TpA.dp q)
theorem TpA.dp : ∀ {vs : List V} {ds : List PyData}, TpA H vs ds → DpAll K H vs ds
  | _, _, .nil => .nil
  | _, _, .cons h q => .cons (Tp.dp h) (TpA.dp q)
end
end
/-- a list of data at v -/
def Lp (H : Hp) (v : V) (ds : List PyData) : Prop := ∃ a xs, v = .ref a ∧ H a = some (.lst xs) ∧ TpA H xs ds
theorem Lp.mono {H H' : Hp} {v : V} {ds : List PyData} (e : Same H H') (h : Lp H v ds) : Lp H' v ds := by
  obtain ⟨a, xs, rfl, h1, h2⟩ := h
  exact ⟨a, xs, rfl, e _ _ h1, h2.mono (tle e)⟩
theorem Lp.dp {K : PySem.W.Frag} {H : Hp} {v : V} {ds : List PyData} (h : Lp H v ds) : Dp K H v (.list ds) := by
  obtain ⟨a, xs, rfl, h1, h2⟩ := h
  exact .lst (SqL.of h1) h2.dp

/-! ### what a reading gives, leaving what is known -/
def ET (te : TE) (σ : L2.St) (H : Hp) (d : PyData) : Prop := ∀ H1, Same H H1 → ∀ Q : VK, (∀ v H2, Same H1 H2 → Tp H2 v d → Q v H2) → te σ H1 Q
/-- a list of data -/
def EL (te : TE) (σ : L2.St) (H : Hp) (ds : List PyData) : Prop := ∀ H1, Same H H1 → ∀ Q : VK, (∀ v H2, Same H1 H2 → Lp H2 v ds → Q v H2) → te σ H1 Q
/-- a new list of data -/
def EN (te : TE) (σ : L2.St) (H : Hp) (ds : List PyData) : Prop := ∀ H1, Same H H1 → ∀ Q : VK, (∀ p xs H2, H1 p = none → Same H1 H2 → H2 p = some (.lst xs) → TpA H2 xs ds → Q (.ref p) H2) → te σ H1 Q
def EA (ta : TA) (σ : L2.St) (H : Hp) (ds : List PyData) : Prop := ∀ H1, Same H H1 → ∀ Q : List V → Hp → Prop, (∀ vs H2, Same H1 H2 → TpA H2 vs ds → Q vs H2) → ta σ H1 Q
def EB (tt : TT) (σ : L2.St) (H : Hp) (b : Bool) : Prop := ∀ H1, Same H H1 → ∀ Q : Bool → Hp → Prop, (∀ H2, Same H1 H2 → Q b H2) → tt σ H1 Q
def EO (to : TO) (σ : L2.St) (H : Hp) (o : Option Int) : Prop := ∀ H1, Same H H1 → ∀ Q : Option Int → Hp → Prop, (∀ H2, Same H1 H2 → Q o H2) → to σ H1 Q

section
variable {K : PySem.W.Frag} {σ : L2.St} {H H' : Hp} {te ta tb : TE} {t tr : TA} {tt : TT} {d e : PyData} {ds es : List PyData} {i j : Int} {b : Bool}
theorem ET.mono (s : Same H H') (h : ET te σ H d) : ET te σ H' d := fun H1 a Q q => h H1 (s.trans a) Q q
theorem EL.mono (s : Same H H') (h : EL te σ H ds) : EL te σ H' ds := fun H1 a Q q => h H1 (s.trans a) Q q
theorem EN.mono (s : Same H H') (h : EN te σ H ds) : EN te σ H' ds := fun H1 a Q q => h H1 (s.trans a) Q q
theorem EA.mono (s : Same H H') (h : EA t σ H ds) : EA t σ H' ds := fun H1 a Q q => h H1 (s.trans a) Q q
theorem EB.mono (s : Same H H') (h : EB tt σ H b) : EB tt σ H' b := fun H1 a Q q => h H1 (s.trans a) Q q
theorem EN.el (h : EN te σ H ds) : EL te σ H ds := fun H1 a Q q => h H1 a Q fun p xs H2 _ s h1 h2 => q _ H2 s ⟨p, xs, rfl, h1, h2⟩
/-- use -/
theorem ET.use (h : ET te σ H d) {Q : VK} (q : ∀ v H2, Same H H2 → Tp H2 v d → Q v H2) : te σ H Q := h H (Same.refl H) Q q
theorem EL.use (h : EL te σ H ds) {Q : VK} (q : ∀ v H2, Same H H2 → Lp H2 v ds → Q v H2) : te σ H Q := h H (Same.refl H) Q q
theorem EN.use (h : EN te σ H ds) {Q : VK} (q : ∀ p xs H2, H p = none → Same H H2 → H2 p = some (.lst xs) → TpA H2 xs ds → Q (.ref p) H2) : te σ H Q := h H (Same.refl H) Q q
theorem EA.use (h : EA t σ H ds) {Q : List V → Hp → Prop} (q : ∀ vs H2, Same H H2 → TpA H2 vs ds → Q vs H2) : t σ H Q := h H (Same.refl H) Q q
theorem EB.use (h : EB tt σ H b) {Q : Bool → Hp → Prop} (q : ∀ H2, Same H H2 → Q b H2) : tt σ H Q := h H (Same.refl H) Q q

theorem et_var {i : Nat} {v : V} (h : σ[i]? = some (some v)) (r : Tp H v d) : ET (tVar i) σ H d := fun H1 a Q q => ⟨v, h, q v H1 (Same.refl H1) (r.mono (tle a))⟩
theorem el_var {i : Nat} {v : V} (h : σ[i]? = some (some v)) (r : Lp H v ds) : EL (tVar i) σ H ds := fun H1 a Q q => ⟨v, h, q v H1 (Same.refl H1) (r.mono a)⟩
theorem et_c {v : V} (r : Tp H v d) : ET (tC v) σ H d := fun H1 a Q q => q v H1 (Same.refl H1) (r.mono (tle a))
theorem et_int {i : Int} : ET (tC (.int i)) σ H (.int i) := et_c (.int i)
theorem et_str {x : Str} : ET (tC (.str x)) σ H (.str x) := et_c (.str x)
theorem et_bl {b : Bool} : ET (tC (.bl b)) σ H (.bool b) := et_c (.bl b)
theorem et_non : ET (tC .non) σ H .none := et_c .non
theorem ea_nil : EA tNil σ H [] := fun H1 _ Q q => q [] H1 (Same.refl H1) .nil
theorem ea_cons (ha : ET ta σ H d) (hr : EA tr σ H ds) : EA (tCons ta tr) σ H (d :: ds) := fun H1 a Q q =>
  ha H1 a _ fun v H2 s2 r2 => hr H2 (a.trans s2) _ fun vs H3 s3 r3 => q (v :: vs) H3 (s2.trans s3) (.cons (r2.mono (tle s3)) r3)
theorem ea_star (ha : ET ta σ H (.tuple es)) (hr : EA tr σ H ds) : EA (StX.tStar K ta tr) σ H (es ++ ds) := fun H1 a Q q =>
  ha H1 a _ fun v H2 s2 r2 => by
    obtain ⟨p, xs, rfl, hp, r⟩ := r2.tuple_inv
    exact ⟨p, xs, rfl, .inl (SqT.of hp), hr H2 (a.trans s2) _ fun vs H3 s3 r3 => q (xs ++ vs) H3 (s2.trans s3) ((r.mono (tle s3)).append r3)⟩
theorem ea_starL (ha : EL ta σ H es) (hr : EA tr σ H ds) : EA (StX.tStar K ta tr) σ H (es ++ ds) := fun H1 a Q q =>
  ha H1 a _ fun v H2 s2 r2 => by
    obtain ⟨p, xs, rfl, hp, r⟩ := r2
    exact ⟨p, xs, rfl, .inr (SqL.of hp), hr H2 (a.trans s2) _ fun vs H3 s3 r3 => q (xs ++ vs) H3 (s2.trans s3) ((r.mono (tle s3)).append r3)⟩
theorem sz_ok {n : Nat} (h : n ≤ 16000000) : n ≤ sizeLine := Nat.le_trans h (by decide)
theorem sz_lt {n : Nat} (h : n < 16000000) : n < sizeLine := Nat.lt_of_lt_of_le h (by decide)
theorem et_tup (h : EA t σ H ds) (hz : ds.length ≤ 16000000) : ET (tTup t) σ H (.tuple ds) := fun H1 a Q q =>
  h H1 a _ fun vs H2 s2 r2 => ⟨sz_ok (by rw [r2.length]; exact hz), fun p hp => q (.ref p) _ (s2.trans (same_new hp _)) (.tup upd_same (r2.mono (tle (same_new hp _))))⟩
theorem en_lst (h : EA t σ H ds) (hz : ds.length ≤ 16000000) : EN (tLst t) σ H ds := fun H1 a Q q =>
  h H1 a _ fun vs H2 s2 r2 => ⟨sz_ok (by rw [r2.length]; exact hz), fun p hp => q p vs _ (s2.free hp) (s2.trans (same_new hp _)) upd_same (r2.mono (tle (same_new hp _)))⟩
/-- an item -/
theorem atI_len {α β : Type} {xs : List α} {ys : List β} (h : xs.length = ys.length) (i : Int) : ixN xs.length i = ixN ys.length i := by rw [h]
theorem TpA.at {vs : List V} {ds : List PyData} {i : Int} {d : PyData} (h : TpA H vs ds) (e : atI ds i = some d) : ∃ v, atI vs i = some v ∧ Tp H v d := by
  unfold atI at e ⊢
  rw [h.length]
  cases q : ixN ds.length i with
  | none => rw [q] at e; cases e
  | some j =>
    rw [q] at e
    exact h.getD e
theorem et_ix (ha : ET ta σ H (.tuple ds)) (hb : ET tb σ H (.int i)) (e : atI ds i = some d) : ET (tOp (rIxT K) ta tb) σ H d := fun H1 a Q q =>
  ha H1 a _ fun v H2 s2 r2 => hb H2 (a.trans s2) _ fun w H3 s3 r3 => by
    obtain ⟨p, xs, rfl, hp, r⟩ := r2.tuple_inv
    cases r3.int_inv
    obtain ⟨z, hz, rz⟩ := (r.mono (tle s3)).at e
    exact ⟨p, xs, i, z, rfl, rfl, SqT.of (s3 _ _ hp), hz, q z H3 (s2.trans s3) rz⟩
/-- a slice -/
def cutD (ds : List PyData) (lo hi : Option Int) : List PyData := (ds.drop (HT.sIx ds.length 0 lo)).take (HT.sIx ds.length ds.length hi - HT.sIx ds.length 0 lo)
theorem eo_none : EO tNoPart σ H none := fun H1 _ Q q => q H1 (Same.refl H1)
theorem eo_some (h : ET te σ H (.int i)) : EO (tPart te) σ H (some i) := fun H1 a Q q => h H1 a _ fun v H2 s2 r2 => by
  cases r2.int_inv
  exact ⟨i, rfl, q H2 s2⟩
theorem TpA.cut {vs : List V} {ds : List PyData} (h : TpA H vs ds) (lo hi : Option Int) : TpA H (cutV vs lo hi) (cutD ds lo hi) := by
  unfold cutV cutD
  rw [h.length]
  exact (h.drop _).take _
theorem cutV_all {xs : List V} {lo hi : Option Int} (h1 : HT.sIx xs.length 0 lo = 0) (h2 : HT.sIx xs.length xs.length hi = xs.length) : cutV xs lo hi = xs := by
  unfold cutV
  rw [h1, h2]
  simp
theorem et_sl {tl th : TO} {lo hi : Option Int} (ha : ET ta σ H (.tuple ds)) (hl : EO tl σ H lo) (hh : EO th σ H hi) : ET (tSl (rSlA K) ta tl th) σ H (.tuple (cutD ds lo hi)) := fun H1 a Q q =>
  ha H1 a _ fun v H2 s2 r2 => hl H2 (a.trans s2) _ fun H3 s3 => hh H3 ((a.trans s2).trans s3) _ fun H4 s4 => by
    obtain ⟨p, xs, rfl, hp, r⟩ := r2.tuple_inv
    have s24 := s3.trans s4
    refine ⟨p, xs, rfl, SqT.of (s24 _ _ hp), fun ⟨w1, w2⟩ => ?_, fun _ z hz => ?_⟩
    · refine q (.ref p) H4 (s2.trans s24) (.tup (s24 _ _ hp) ?_)
      have c := (r.mono (tle s24)).cut lo hi
      rw [cutV_all w1 w2] at c
      exact c
    · exact q (.ref z) _ ((s2.trans s24).trans (same_new hz _)) (.tup upd_same ((r.cut lo hi).mono (tle (s24.trans (same_new hz _)))))
/-- ints -/
theorem et_i0 {g : Int → Int → V} {d : PyData} (ha : ET ta σ H (.int i)) (hb : ET tb σ H (.int j)) (hg : ∀ H, Tp H (g i j) d) : ET (tOp (rI0 g) ta tb) σ H d := fun H1 a Q q =>
  ha H1 a _ fun v H2 s2 r2 => hb H2 (a.trans s2) _ fun w H3 s3 r3 => by
    cases r2.int_inv
    cases r3.int_inv
    exact ⟨i, j, rfl, rfl, q _ H3 (s2.trans s3) (hg H3)⟩
theorem et_i1 {C : Int → Int → Prop} {g : Int → Int → V} {d : PyData} (ha : ET ta σ H (.int i)) (hb : ET tb σ H (.int j)) (hc : C i j) (hg : ∀ H, Tp H (g i j) d) : ET (tOp (rI C g) ta tb) σ H d := fun H1 a Q q =>
  ha H1 a _ fun v H2 s2 r2 => hb H2 (a.trans s2) _ fun w H3 s3 r3 => by
    cases r2.int_inv
    cases r3.int_inv
    exact ⟨i, j, rfl, rfl, hc, q _ H3 (s2.trans s3) (hg H3)⟩
theorem et_add (ha : ET ta σ H (.int i)) (hb : ET tb σ H (.int j)) : ET (tOp (rI0 fun i j => .int (i + j)) ta tb) σ H (.int (i + j)) := et_i0 ha hb fun _ => .int _
theorem et_sub (ha : ET ta σ H (.int i)) (hb : ET tb σ H (.int j)) : ET (tOp (rI0 fun i j => .int (i - j)) ta tb) σ H (.int (i - j)) := et_i0 ha hb fun _ => .int _
theorem et_lt (ha : ET ta σ H (.int i)) (hb : ET tb σ H (.int j)) : ET (tOp (rI0 fun i j => .bl (decide (i < j))) ta tb) σ H (.bool (decide (i < j))) := et_i0 ha hb fun _ => .bl _
theorem et_le (ha : ET ta σ H (.int i)) (hb : ET tb σ H (.int j)) : ET (tOp (rI0 fun i j => .bl (decide (i ≤ j))) ta tb) σ H (.bool (decide (i ≤ j))) := et_i0 ha hb fun _ => .bl _
theorem et_gt (ha : ET ta σ H (.int i)) (hb : ET tb σ H (.int j)) : ET (tOp (rI0 fun i j => .bl (decide (j < i))) ta tb) σ H (.bool (decide (j < i))) := et_i0 ha hb fun _ => .bl _
theorem et_ge (ha : ET ta σ H (.int i)) (hb : ET tb σ H (.int j)) : ET (tOp (rI0 fun i j => .bl (decide (j ≤ i))) ta tb) σ H (.bool (decide (j ≤ i))) := et_i0 ha hb fun _ => .bl _
/-- == and != of texts, of ints -/
theorem et_eqS {x y : Str} (ha : ET ta σ H (.str x)) (hb : ET tb σ H (.str y)) : ET (tOp rEq ta tb) σ H (.bool (decide (x = y))) := fun H1 a Q q =>
  ha H1 a _ fun v H2 s2 r2 => hb H2 (a.trans s2) _ fun w H3 s3 r3 => by
    cases r2.str_inv
    cases r3.str_inv
    refine ⟨rfl, q _ H3 (s2.trans s3) ?_⟩
    have e : decide (V.str x = V.str y) = decide (x = y) := by simp
    rw [e]
    exact .bl _
theorem et_neS {x y : Str} (ha : ET ta σ H (.str x)) (hb : ET tb σ H (.str y)) : ET (tOp rNe ta tb) σ H (.bool (!decide (x = y))) := fun H1 a Q q =>
  ha H1 a _ fun v H2 s2 r2 => hb H2 (a.trans s2) _ fun w H3 s3 r3 => by
    cases r2.str_inv
    cases r3.str_inv
    refine ⟨rfl, q _ H3 (s2.trans s3) ?_⟩
    have e : decide (V.str x = V.str y) = decide (x = y) := by simp
    rw [e]
    exact .bl _
theorem et_eqI (ha : ET ta σ H (.int i)) (hb : ET tb σ H (.int j)) : ET (tOp rEq ta tb) σ H (.bool (decide (i = j))) := fun H1 a Q q =>
  ha H1 a _ fun v H2 s2 r2 => hb H2 (a.trans s2) _ fun w H3 s3 r3 => by
    cases r2.int_inv
    cases r3.int_inv
    refine ⟨rfl, q _ H3 (s2.trans s3) ?_⟩
    have e : decide (V.int i = V.int j) = decide (i = j) := by simp
    rw [e]
    exact .bl _
theorem et_neI (ha : ET ta σ H (.int i)) (hb : ET tb σ H (.int j)) : ET (tOp rNe ta tb) σ H (.bool (!decide (i = j))) := fun H1 a Q q =>
  ha H1 a _ fun v H2 s2 r2 => hb H2 (a.trans s2) _ fun w H3 s3 r3 => by
    cases r2.int_inv
    cases r3.int_inv
    refine ⟨rfl, q _ H3 (s2.trans s3) ?_⟩
    have e : decide (V.int i = V.int j) = decide (i = j) := by simp
    rw [e]
    exact .bl _
/-- == and != of data -/
theorem et_eqD (ha : ET ta σ H d) (hb : ET tb σ H e) (h1 : SeqAt.shaped d = true) (h2 : SeqAt.shaped e = true) : ET (tOp (rEqD K) ta tb) σ H (.bool (PyData.eqv d e)) := fun H1 a Q q =>
  ha H1 a _ fun v H2 s2 r2 => hb H2 (a.trans s2) _ fun w H3 s3 r3 => ⟨d, e, (r2.mono (tle s3)).dp, r3.dp, h1, h2, q _ H3 (s2.trans s3) (.bl _)⟩
theorem et_neD (ha : ET ta σ H d) (hb : ET tb σ H e) (h1 : SeqAt.shaped d = true) (h2 : SeqAt.shaped e = true) : ET (tOp (rNeD K) ta tb) σ H (.bool (!PyData.eqv d e)) := fun H1 a Q q =>
  ha H1 a _ fun v H2 s2 r2 => hb H2 (a.trans s2) _ fun w H3 s3 r3 => ⟨d, e, (r2.mono (tle s3)).dp, r3.dp, h1, h2, q _ H3 (s2.trans s3) (.bl _)⟩
theorem et_neL (ha : EL ta σ H ds) (hb : EL tb σ H es) (h1 : SeqAt.shaped (.list ds) = true) (h2 : SeqAt.shaped (.list es) = true) : ET (tOp (rNeD K) ta tb) σ H (.bool (!PyData.eqv (.list ds) (.list es))) := fun H1 a Q q =>
  ha H1 a _ fun v H2 s2 r2 => hb H2 (a.trans s2) _ fun w H3 s3 r3 => ⟨.list ds, .list es, (r2.mono s3).dp, r3.dp, h1, h2, q _ H3 (s2.trans s3) (.bl _)⟩
/-- is None -/
def isNn : PyData → Bool
  | .none => true
  | _ => false
theorem Tp.isN {v : V} (h : Tp H v d) : decide (v = .non) = isNn d := by
  cases h <;> simp [isNn]
theorem et_isN (ha : ET ta σ H d) (hb : ET tb σ H .none) : ET (tOp (fun x y H Q => y = .non ∧ Q (.bl (decide (x = .non))) H) ta tb) σ H (.bool (isNn d)) := fun H1 a Q q =>
  ha H1 a _ fun v H2 s2 r2 => hb H2 (a.trans s2) _ fun w H3 s3 r3 => by
    cases r3.none_inv
    exact ⟨rfl, q _ H3 (s2.trans s3) (by rw [r2.isN]; exact .bl _)⟩
theorem et_notN (ha : ET ta σ H d) (hb : ET tb σ H .none) : ET (tOp (fun x y H Q => y = .non ∧ Q (.bl (!decide (x = .non))) H) ta tb) σ H (.bool (!isNn d)) := fun H1 a Q q =>
  ha H1 a _ fun v H2 s2 r2 => hb H2 (a.trans s2) _ fun w H3 s3 r3 => by
    cases r3.none_inv
    exact ⟨rfl, q _ H3 (s2.trans s3) (by rw [r2.isN]; exact .bl _)⟩
/-- a text in a written tuple of texts -/
theorem inV_strs (x : Str) (ys : List Str) : inV (.str x) (ys.map V.str) = decide (x ∈ ys) := by
  unfold inV
  rw [List.any_map]
  induction ys with
  | nil => simp
  | cons y ys ih =>
    rw [List.any_cons, ih]
    simp only [Function.comp, eqV, List.mem_cons]
    by_cases h : x = y
    · subst h; simp
    · have h' : ¬ y = x := fun q => h q.symm
      simp [h, h']
theorem TpA.strs {vs : List V} {ys : List Str} (h : TpA H vs (ys.map PyData.str)) : vs = ys.map V.str := by
  induction ys generalizing vs with
  | nil => cases h; rfl
  | cons y ys ih =>
    cases h with
    | cons h1 h2 => rw [h1.str_inv, ih h2]; rfl
theorem et_inS {x : Str} {ys : List Str} (ha : ET ta σ H (.str x)) (hb : ET tb σ H (.tuple (ys.map PyData.str))) : ET (tOp (rIn K false) ta tb) σ H (.bool (decide (x ∈ ys))) := fun H1 a Q q =>
  ha H1 a _ fun v H2 s2 r2 => hb H2 (a.trans s2) _ fun w H3 s3 r3 => by
    cases r2.str_inv
    obtain ⟨p, xs, rfl, hp, r⟩ := r3.tuple_inv
    have e := r.strs
    subst e
    refine ⟨p, _, rfl, .inr (SqT.of hp), rfl, ?_, q _ H3 (s2.trans s3) ?_⟩
    · rw [List.all_map, List.all_eq_true]; intro z _; rfl
    · show Tp H3 (.bl (if false = true then _ else inV _ _)) _
      rw [if_neg Bool.false_ne_true, inV_strs]
      exact .bl _
/-- and, or, not, as values -/
theorem et_and {b : Bool} (ha : ET ta σ H (.bool b)) (hb : b = true → ET tb σ H d) (hd : b = false → d = .bool false) : ET (tAndV ta tb) σ H d := fun H1 a Q q =>
  ha H1 a _ fun v H2 s2 r2 => by
    cases r2.bool_inv
    refine ⟨b, rfl, ?_⟩
    cases b with
    | true => exact iteT (hb rfl H2 (a.trans s2) Q fun v H3 s3 r3 => q v H3 (s2.trans s3) r3)
    | false => exact iteF (q _ H2 s2 (by rw [hd rfl]; exact .bl _))
theorem et_or {b : Bool} (ha : ET ta σ H (.bool b)) (hb : b = false → ET tb σ H d) (hd : b = true → d = .bool true) : ET (tOrV ta tb) σ H d := fun H1 a Q q =>
  ha H1 a _ fun v H2 s2 r2 => by
    cases r2.bool_inv
    refine ⟨b, rfl, ?_⟩
    cases b with
    | false => exact iteF (hb rfl H2 (a.trans s2) Q fun v H3 s3 r3 => q v H3 (s2.trans s3) r3)
    | true => exact iteT (q _ H2 s2 (by rw [hd rfl]; exact .bl _))
theorem et_not {b : Bool} (ha : ET ta σ H (.bool b)) : ET (tNotV ta) σ H (.bool (!b)) := fun H1 a Q q =>
  ha H1 a _ fun v H2 s2 r2 => by
    cases r2.bool_inv
    exact ⟨b, rfl, q _ H2 s2 (.bl _)⟩
/-- tests -/
theorem eb_test (h : ET te σ H (.bool b)) : EB (tTest te) σ H b := fun H1 a Q q => h H1 a _ fun v H2 s2 r2 => by
  cases r2.bool_inv
  exact ⟨b, rfl, q H2 s2⟩
theorem eb_val (h : ET te σ H (.bool b)) : EB (tB te) σ H b := fun H1 a Q q => h H1 a _ fun v H2 s2 r2 => by
  cases r2.bool_inv
  exact ⟨b, rfl, q H2 s2⟩
variable {ut : TT} {c : Bool}
theorem eb_and (ha : EB tt σ H b) (hb : b = true → EB ut σ H c) : EB (tAnd tt ut) σ H (b && c) := fun H1 a Q q => ha H1 a _ fun H2 s2 => by
  cases b with
  | true => exact iteT (hb rfl H2 (a.trans s2) Q fun H3 s3 => q H3 (s2.trans s3))
  | false => exact iteF (q H2 s2)
theorem eb_or (ha : EB tt σ H b) (hb : b = false → EB ut σ H c) : EB (tOr tt ut) σ H (b || c) := fun H1 a Q q => ha H1 a _ fun H2 s2 => by
  cases b with
  | false => exact iteF (hb rfl H2 (a.trans s2) Q fun H3 s3 => q H3 (s2.trans s3))
  | true => exact iteT (q H2 s2)
theorem eb_not (ha : EB tt σ H b) : EB (tNot tt) σ H (!b) := fun H1 a Q q => ha H1 a _ fun H2 s2 => q H2 s2
theorem et_if {b : Bool} (hc : EB tt σ H b) (ha : b = true → ET ta σ H d) (hb : b = false → ET tb σ H d) : ET (tIf tt ta tb) σ H d := fun H1 a Q q => hc H1 a _ fun H2 s2 => by
  cases b with
  | true => exact iteT (ha rfl H2 (a.trans s2) Q fun v H3 s3 r3 => q v H3 (s2.trans s3) r3)
  | false => exact iteF (hb rfl H2 (a.trans s2) Q fun v H3 s3 r3 => q v H3 (s2.trans s3) r3)
theorem el_if {b : Bool} (hc : EB tt σ H b) (ha : b = true → EL ta σ H ds) (hb : b = false → EL tb σ H ds) : EL (tIf tt ta tb) σ H ds := fun H1 a Q q => hc H1 a _ fun H2 s2 => by
  cases b with
  | true => exact iteT (ha rfl H2 (a.trans s2) Q fun v H3 s3 r3 => q v H3 (s2.trans s3) r3)
  | false => exact iteF (hb rfl H2 (a.trans s2) Q fun v H3 s3 r3 => q v H3 (s2.trans s3) r3)
end

/-! ### promises about data -/
/-- n data in, a datum out -/
def spT (n : Nat) (F : List PyData → PyData → Prop) : Sp := fun vs H Q _ => ∃ ds d, ds.length = n ∧ TpA H vs ds ∧ F ds d ∧ ∀ v H', Same H H' → Tp H' v d → Q v H'
/-- n data in, a list of data out -/
def spL (n : Nat) (F : List PyData → List PyData → Prop) : Sp := fun vs H Q _ => ∃ ds es, ds.length = n ∧ TpA H vs ds ∧ F ds es ∧ ∀ v H', Same H H' → Lp H' v es → Q v H'
theorem spT.len {n : Nat} {F : List PyData → PyData → Prop} : ∀ vs H Q E, spT n F vs H Q E → vs.length = n := fun vs H Q E h => by
  obtain ⟨ds, d, h1, h2, _⟩ := h
  rw [h2.length]; exact h1
theorem spL.len {n : Nat} {F : List PyData → List PyData → Prop} : ∀ vs H Q E, spL n F vs H Q E → vs.length = n := fun vs H Q E h => by
  obtain ⟨ds, d, h1, h2, _⟩ := h
  rw [h2.length]; exact h1
section
variable {σ : L2.St} {H : Hp} {t : TA} {d : PyData} {ds es : List PyData} {E : XK}
theorem et_call {n : Nat} {F : List PyData → PyData → Prop} (ha : EA t σ H ds) (hn : ds.length = n) (hf : F ds d) : ET (tCall (spT n F) [] E t) σ H d := fun H1 a Q q =>
  ha H1 a _ fun vs H2 s2 r2 => ⟨ds, d, hn, by rw [List.append_nil]; exact r2, hf, fun v H3 s3 r3 => q v H3 (s2.trans s3) r3⟩
theorem el_call {n : Nat} {F : List PyData → List PyData → Prop} (ha : EA t σ H ds) (hn : ds.length = n) (hf : F ds es) : EL (tCall (spL n F) [] E t) σ H es := fun H1 a Q q =>
  ha H1 a _ fun vs H2 s2 r2 => ⟨ds, es, hn, by rw [List.append_nil]; exact r2, hf, fun v H3 s3 r3 => q v H3 (s2.trans s3) r3⟩
end

/-! ### statements -/
section
variable {σ : L2.St} {H : Hp} {D : Ends} {te : TE} {d : PyData} {ds : List PyData} {tt : TT} {b : Bool}
theorem st_set {i : Nat} (h : ET te σ H d) (q : ∀ v H', Same H H' → Tp H' v d → D.nx (σ.set i (some v)) H') : tAsg te (gName i) D σ H := h.use q
theorem st_setL {i : Nat} (h : EL te σ H ds) (q : ∀ v H', Same H H' → Lp H' v ds → D.nx (σ.set i (some v)) H') : tAsg te (gName i) D σ H := h.use q
theorem st_ret (h : ET te σ H d) (q : ∀ v H', Same H H' → Tp H' v d → D.rt v H') : tRet te D σ H := h.use q
theorem st_retL (h : EL te σ H ds) (q : ∀ v H', Same H H' → Lp H' v ds → D.rt v H') : tRet te D σ H := h.use q
theorem st_ifT {t u : TS} (h : EB tt σ H true) (q : ∀ H', Same H H' → t D σ H') : tIfS tt t u D σ H := h.use fun H' s => iteT (q H' s)
theorem st_ifF {t u : TS} (h : EB tt σ H false) (q : ∀ H', Same H H' → u D σ H') : tIfS tt t u D σ H := h.use fun H' s => iteF (q H' s)
theorem st_if {t u : TS} (h : EB tt σ H b) (q1 : b = true → ∀ H', Same H H' → t D σ H') (q2 : b = false → ∀ H', Same H H' → u D σ H') : tIfS tt t u D σ H := by
  cases b with
  | true => exact st_ifT h (q1 rfl)
  | false => exact st_ifF h (q2 rfl)
end
end

section
/-! more of the data layer: comprehensions, built-ins, unpacking -/
section
variable {K : PySem.W.Frag} {σ : L2.St} {H : Hp} {te ta tb : TE} {t : TA} {d e : PyData} {ds es : List PyData} {i j : Int} {D : Ends}
theorem et_min2 (ha : EA t σ H [.int i, .int j]) : ET (tCB (fun xs H Q => ∃ i j, xs = [.int i, .int j] ∧ Q (.int (if j < i then j else i)) H) t) σ H (.int (if j < i then j else i)) := fun H1 a Q q =>
  ha H1 a _ fun vs H2 s2 r2 => by
    obtain _ | ⟨h0, _ | ⟨h1, _ | _⟩⟩ := r2
    cases h0.int_inv
    cases h1.int_inv
    exact ⟨i, j, rfl, q _ H2 s2 (.int _)⟩
theorem et_max2 (ha : EA t σ H [.int i, .int j]) : ET (tCB (fun xs H Q => ∃ i j, xs = [.int i, .int j] ∧ Q (.int (if j > i then j else i)) H) t) σ H (.int (if j > i then j else i)) := fun H1 a Q q =>
  ha H1 a _ fun vs H2 s2 r2 => by
    obtain _ | ⟨h0, _ | ⟨h1, _ | _⟩⟩ := r2
    cases h0.int_inv
    cases h1.int_inv
    exact ⟨i, j, rfl, q _ H2 s2 (.int _)⟩
/-- tuple(x), x a list -/
theorem et_tupL (ha : EL te σ H ds) : ET (tCB (fun xs H Q => ∃ p ys, xs = [.ref p] ∧ ((SqL K H p ys ∧ ∀ l, H l = none → Q (.ref l) (upd H l (.tup ys))) ∨ (SqT K H p ys ∧ Q (.ref p) H))) (tCons te tNil)) σ H (.tuple ds) := fun H1 a Q q =>
  ha H1 a _ fun v H2 s2 r2 => by
    obtain ⟨p, xs, rfl, hp, r⟩ := r2
    exact ⟨p, xs, rfl, .inl ⟨SqL.of hp, fun l hl => q (.ref l) _ (s2.trans (same_new hl _)) (.tup upd_same (r.mono (tle (same_new hl _))))⟩⟩
/-- list(x), x a tuple -/
theorem en_listT (ha : ET te σ H (.tuple ds)) : EN (tCB (fun xs H Q => ∃ p ys, xs = [.ref p] ∧ (SqL K H p ys ∨ SqT K H p ys) ∧ ∀ l, H l = none → Q (.ref l) (upd H l (.lst ys))) (tCons te tNil)) σ H ds := fun H1 a Q q =>
  ha H1 a _ fun v H2 s2 r2 => by
    obtain ⟨p, xs, rfl, hp, r⟩ := r2.tuple_inv
    exact ⟨p, xs, rfl, .inr (SqT.of hp), fun l hl => q l xs _ (s2.free hl) (s2.trans (same_new hl _)) upd_same (r.mono (tle (same_new hl _)))⟩
/-- len of a tuple, of a list, of a text -/
theorem et_lenT (ha : ET te σ H (.tuple ds)) : ET (tCB (fun xs H Q => ∃ p ys, xs = [.ref p] ∧ (SqL K H p ys ∨ SqT K H p ys) ∧ Q (.int ys.length) H) (tCons te tNil)) σ H (.int (ds.length : Nat)) := fun H1 a Q q =>
  ha H1 a _ fun v H2 s2 r2 => by
    obtain ⟨p, xs, rfl, hp, r⟩ := r2.tuple_inv
    exact ⟨p, xs, rfl, .inr (SqT.of hp), q _ H2 s2 (by rw [r.length]; exact .int _)⟩
theorem et_lenL (ha : EL te σ H ds) : ET (tCB (fun xs H Q => ∃ p ys, xs = [.ref p] ∧ (SqL K H p ys ∨ SqT K H p ys) ∧ Q (.int ys.length) H) (tCons te tNil)) σ H (.int (ds.length : Nat)) := fun H1 a Q q =>
  ha H1 a _ fun v H2 s2 r2 => by
    obtain ⟨p, xs, rfl, hp, r⟩ := r2
    exact ⟨p, xs, rfl, .inl (SqL.of hp), q _ H2 s2 (by rw [r.length]; exact .int _)⟩
theorem et_lenS {z : Str} (ha : ET te σ H (.str z)) (hz : z.length ≤ 16000000) : ET (tCB (fun xs H Q => ∃ z, xs = [.str z] ∧ z.length ≤ sizeLine ∧ Q (.int z.length) H) (tCons te tNil)) σ H (.int (z.length : Nat)) := fun H1 a Q q =>
  ha H1 a _ fun v H2 s2 r2 => by
    cases r2.str_inv
    exact ⟨z, rfl, sz_ok hz, q _ H2 s2 (.int _)⟩
/-- a tuple unpacked into names -/
def setAll : List Nat → List V → L2.St → L2.St
  | i :: is, v :: vs, σ => setAll is vs (σ.set i (some v))
  | _, _, σ => σ
def gNames : List Nat → TGs
  | [] => gNil
  | i :: is => gCons (gName i) (gNames is)
theorem gNames_run {Q : L2.St → Hp → Prop} : ∀ (is : List Nat) (vs : List V) (σ : L2.St), is.length = vs.length → Q (setAll is vs σ) H → gNames is vs σ H Q
  | [], [], _, _, q => ⟨rfl, q⟩
  | [], _ :: _, _, h, _ => by cases h
  | _ :: _, [], _, h, _ => by cases h
  | i :: is, v :: vs, σ, h, q => ⟨v, vs, rfl, gNames_run is vs (σ.set i (some v)) (by simpa using h) q⟩
theorem st_unp {g : TGs} {n : Nat} (is : List Nat) (hg : g = gNames is) (hi : is.length = n) (h : ET te σ H (.tuple ds)) (hn : ds.length = n) (q : ∀ vs H', Same H H' → TpA H' vs ds → D.nx (setAll is vs σ) H') : tAsg te (gTup K n g) D σ H := h.use fun v H' s r => by
  obtain ⟨p, xs, rfl, hp, r'⟩ := r.tuple_inv
  exact ⟨p, xs, rfl, SqT.of hp, by rw [r'.length]; exact hn, by rw [hg]; exact gNames_run is xs σ (by rw [hi, r'.length, hn]) (q xs H' s r')⟩
theorem st_unp4 {i1 i2 i3 i4 : Nat} {d1 d2 d3 d4 : PyData} (h : ET te σ H (.tuple [d1, d2, d3, d4])) (q : ∀ v1 v2 v3 v4 H', Same H H' → Tp H' v1 d1 → Tp H' v2 d2 → Tp H' v3 d3 → Tp H' v4 d4 → D.nx ((((σ.set i1 (some v1)).set i2 (some v2)).set i3 (some v3)).set i4 (some v4)) H') :
    tAsg te (gTup K 4 (gCons (gName i1) (gCons (gName i2) (gCons (gName i3) (gCons (gName i4) gNil))))) D σ H :=
  st_unp [i1, i2, i3, i4] rfl rfl h rfl fun vs H' s r => by
    obtain _ | ⟨h1, _ | ⟨h2, _ | ⟨h3, _ | ⟨h4, _ | _⟩⟩⟩⟩ := r
    exact q _ _ _ _ H' s h1 h2 h3 h4
/-- two names at once -/
theorem st_par {i j : Nat} {d1 d2 : PyData} (h : EA t σ H [d1, d2]) (q : ∀ v1 v2 H', Same H H' → Tp H' v1 d1 → Tp H' v2 d2 → D.nx ((σ.set i (some v1)).set j (some v2)) H') : tPar i j t D σ H := h.use fun vs H' s r => by
  obtain _ | ⟨h1, _ | ⟨h2, _ | _⟩⟩ := r
  exact ⟨_, _, rfl, q _ _ H' s h1 h2⟩

/-! ### comprehensions -/
theorem take_succ {α : Type} {xs : List α} {i : Nat} {x : α} (h : xs[i]? = some x) : xs.take (i + 1) = xs.take i ++ [x] := by
  rw [List.take_add_one, h]; rfl
/-- one turn's wish -/
def LcTurn (g : TG) (tt : TT) (te : TE) (vs : List Nat) (σ : L2.St) (H : Hp) (d : PyData) (p : Bool) (f : PyData) : Prop :=
  ∀ v H1, Same H H1 → Tp H1 v d → ∃ σ2, (∀ Q : L2.St → Hp → Prop, Q σ2 H1 → g v (wipe σ vs) H1 Q) ∧ wipe σ2 vs = wipe σ vs ∧ EB tt σ2 H1 p ∧ (p = true → ET te σ2 H1 f)
theorem en_lcT {α : Type} {tl : TE} {g : TG} {tt : TT} {vs : List Nat} (as : List α) (dd : α → PyData) (p : α → Bool) (f : α → PyData) (hi : ET tl σ H (.tuple (as.map dd))) (hz : as.length ≤ 16000000)
    (hs : ∀ a ∈ as, LcTurn g tt te vs σ H (dd a) (p a) (f a)) : EN (tLc (iTup K tl) g tt te vs) σ H ((as.filter p).map f) := fun H0 a Q q =>
  hi H0 a _ fun v H1 s1 r1 => by
    obtain ⟨at', xs, rfl, hp, r⟩ := r1.tuple_inv
    refine ⟨at', rfl, ⟨xs, SqT.of hp⟩, fun D hD => ?_⟩
    refine lc_tup (K := K) (a := at') (xs := xs) (fun i Hc => Same H1 Hc ∧ ∃ acc, Hc D = some (.lst acc) ∧ TpA Hc acc (((as.take i).filter p).map f)) ⟨same_new hD _, [], upd_same, by simpa using TpA.nil⟩ (fun i Hc _ h => SqT.of (h.1 _ _ hp)) (fun i x Hc hx ⟨sc, acc, hacc, ra⟩ => ?_) (fun Hc ⟨sc, acc, hacc, ra⟩ => ?_)
    · obtain ⟨d, hd, rd⟩ := (r.mono (tle sc)).get hx
      rw [List.getElem?_map] at hd
      obtain ⟨u, hu, hd⟩ := Option.map_eq_some_iff.mp hd
      subst hd
      have hd := hu
      obtain ⟨σ2, hg, hw, ht, he⟩ := hs u (List.mem_of_getElem? hd) x Hc ((a.trans s1).trans sc) rd
      have hlen : acc.length ≤ i := by
        rw [ra.length, List.length_map]
        refine Nat.le_trans (List.length_filter_le _ _) ?_
        rw [List.length_take]; omega
      have hi2 : i < as.length := (List.getElem?_eq_some_iff.mp hd).1
      refine hg _ ⟨hw, ht Hc (Same.refl Hc) _ fun H3 s3 => ?_⟩
      cases hb : p u with
      | true =>
        refine iteT (he hb H3 s3 _ fun y H4 s4 r4 => ?_)
        have s34 := s3.trans s4
        have hD4 : H4 D = some (.lst acc) := s34 _ _ hacc
        refine ⟨acc, hD4, sz_lt (by omega), same_mut (sc.trans s34) hD, acc ++ [y], upd_same, ?_⟩
        rw [take_succ hd, List.filter_append, List.map_append]
        have tl4 : TLe H4 (upd H4 D (.lst (acc ++ [y]))) := tle_lst hD4
        refine ((ra.mono (tle s34)).mono tl4).append ?_
        simp only [List.filter, hb, List.map]
        exact .cons (r4.mono tl4) .nil
      | false =>
        refine iteF ⟨sc.trans s3, acc, s3 _ _ hacc, ?_⟩
        rw [take_succ hd, List.filter_append, List.map_append]
        simp only [List.filter, hb, List.map, List.append_nil]
        exact ra.mono (tle s3)
    · refine q D acc Hc (s1.free hD) (s1.trans sc) hacc ?_
      rw [r.length, List.length_map, List.take_length] at ra
      exact ra
theorem en_lcL {α : Type} {tl : TE} {g : TG} {tt : TT} {vs : List Nat} (as : List α) (dd : α → PyData) (p : α → Bool) (f : α → PyData) (hi : EL tl σ H (as.map dd)) (hz : as.length ≤ 16000000)
    (hs : ∀ a ∈ as, LcTurn g tt te vs σ H (dd a) (p a) (f a)) : EN (tLc (iList K tl) g tt te vs) σ H ((as.filter p).map f) := fun H0 a Q q =>
  hi H0 a _ fun v H1 s1 r1 => by
    obtain ⟨at', xs, rfl, hp, r⟩ := r1
    refine ⟨at', rfl, ⟨xs, SqL.of hp⟩, fun D hD => ?_⟩
    refine lc_list (K := K) (a := at') (xs := xs) (fun i Hc => Same H1 Hc ∧ ∃ acc, Hc D = some (.lst acc) ∧ TpA Hc acc (((as.take i).filter p).map f)) ⟨same_new hD _, [], upd_same, by simpa using TpA.nil⟩ (fun i Hc _ h => SqL.of (h.1 _ _ hp)) (fun i x Hc hx ⟨sc, acc, hacc, ra⟩ => ?_) (fun Hc ⟨sc, acc, hacc, ra⟩ => ?_)
    · obtain ⟨d, hd, rd⟩ := (r.mono (tle sc)).get hx
      rw [List.getElem?_map] at hd
      obtain ⟨u, hu, hd⟩ := Option.map_eq_some_iff.mp hd
      subst hd
      have hd := hu
      obtain ⟨σ2, hg, hw, ht, he⟩ := hs u (List.mem_of_getElem? hd) x Hc ((a.trans s1).trans sc) rd
      have hlen : acc.length ≤ i := by
        rw [ra.length, List.length_map]
        refine Nat.le_trans (List.length_filter_le _ _) ?_
        rw [List.length_take]; omega
      have hi2 : i < as.length := (List.getElem?_eq_some_iff.mp hd).1
      refine hg _ ⟨hw, ht Hc (Same.refl Hc) _ fun H3 s3 => ?_⟩
      cases hb : p u with
      | true =>
        refine iteT (he hb H3 s3 _ fun y H4 s4 r4 => ?_)
        have s34 := s3.trans s4
        have hD4 : H4 D = some (.lst acc) := s34 _ _ hacc
        refine ⟨acc, hD4, sz_lt (by omega), same_mut (sc.trans s34) hD, acc ++ [y], upd_same, ?_⟩
        rw [take_succ hd, List.filter_append, List.map_append]
        have tl4 : TLe H4 (upd H4 D (.lst (acc ++ [y]))) := tle_lst hD4
        refine ((ra.mono (tle s34)).mono tl4).append ?_
        simp only [List.filter, hb, List.map]
        exact .cons (r4.mono tl4) .nil
      | false =>
        refine iteF ⟨sc.trans s3, acc, s3 _ _ hacc, ?_⟩
        rw [take_succ hd, List.filter_append, List.map_append]
        simp only [List.filter, hb, List.map, List.append_nil]
        exact ra.mono (tle s3)
    · refine q D acc Hc (s1.free hD) (s1.trans sc) hacc ?_
      rw [r.length, List.length_map, List.take_length] at ra
      exact ra
theorem filter_yes {α : Type} (xs : List α) : xs.filter (fun _ => true) = xs := List.filter_eq_self.mpr fun _ _ => rfl
theorem eb_yes : EB tYes σ H true := fun H1 _ Q q => q H1 (Same.refl H1)
/-- the target one name, no test -/
theorem lcT1 {k : Nat} {f : PyData} (hs : ∀ v H1, Same H H1 → Tp H1 v d → ET te ((σ.set k none).set k (some v)) H1 f) : LcTurn (gName k) tYes te [k] σ H d true f := fun v H1 s r =>
  ⟨(σ.set k none).set k (some v), fun Q q => q, by simp [wipe], eb_yes, fun _ => hs v H1 s r⟩
theorem en_lcT1 {α : Type} {tl : TE} {k : Nat} (as : List α) (dd f : α → PyData) (hi : ET tl σ H (.tuple (as.map dd))) (hz : as.length ≤ 16000000)
    (hs : ∀ a ∈ as, ∀ v H1, Same H H1 → Tp H1 v (dd a) → ET te ((σ.set k none).set k (some v)) H1 (f a)) : EN (tLc (iTup K tl) (gName k) tYes te [k]) σ H (as.map f) := by
  have h := en_lcT (K := K) (te := te) as dd (fun _ => true) f hi hz fun a ha => lcT1 (hs a ha)
  rw [filter_yes] at h
  exact h
theorem en_lcL1 {α : Type} {tl : TE} {k : Nat} (as : List α) (dd f : α → PyData) (hi : EL tl σ H (as.map dd)) (hz : as.length ≤ 16000000)
    (hs : ∀ a ∈ as, ∀ v H1, Same H H1 → Tp H1 v (dd a) → ET te ((σ.set k none).set k (some v)) H1 (f a)) : EN (tLc (iList K tl) (gName k) tYes te [k]) σ H (as.map f) := by
  have h := en_lcL (K := K) (te := te) as dd (fun _ => true) f hi hz fun a ha => lcT1 (hs a ha)
  rw [filter_yes] at h
  exact h
/-- the target two names -/
theorem lcT2 {tt : TT} {k1 k2 : Nat} {d1 d2 : PyData} {p : Bool} {f : PyData} (hk : k1 ≠ k2) (ht : ∀ v1 v2 H1, Same H H1 → Tp H1 v1 d1 → Tp H1 v2 d2 → EB tt (((wipe σ [k1, k2]).set k1 (some v1)).set k2 (some v2)) H1 p)
    (hs : p = true → ∀ v1 v2 H1, Same H H1 → Tp H1 v1 d1 → Tp H1 v2 d2 → ET te (((wipe σ [k1, k2]).set k1 (some v1)).set k2 (some v2)) H1 f) :
    LcTurn (gTup K 2 (gCons (gName k1) (gCons (gName k2) gNil))) tt te [k1, k2] σ H (.tuple [d1, d2]) p f := fun v H1 s r => by
  obtain ⟨a, xs, rfl, hp, r'⟩ := r.tuple_inv
  obtain _ | ⟨h1, _ | ⟨h2, _ | _⟩⟩ := r'
  refine ⟨_, fun Q q => ⟨a, _, rfl, SqT.of hp, rfl, _, _, rfl, _, _, rfl, rfl, q⟩, ?_, ht _ _ H1 s h1 h2, fun hb => hs hb _ _ H1 s h1 h2⟩
  show ((((((σ.set k2 none).set k1 none).set k1 (some _)).set k2 (some _)).set k2 none).set k1 none) = (σ.set k2 none).set k1 none
  refine List.ext_getElem? fun m => ?_
  simp only [List.getElem?_set, List.length_set]
  by_cases e1 : k1 = m <;> by_cases e2 : k2 = m <;> simp [e1, e2]
end
theorem atI_0 {α : Type} {x : α} {xs : List α} : atI (x :: xs) 0 = some x := atI_nat (j := 0) rfl
theorem atI_1 {α : Type} {x y : α} {xs : List α} : atI (x :: y :: xs) 1 = some y := atI_nat (j := 1) rfl
theorem eqv_nil {ds : List PyData} : PyData.eqv (.tuple ds) (.tuple []) = ds.isEmpty := by
  cases ds <;> simp [PyData.eqv, PyData.eqvAll]
theorem et_eqNil (ha : ET ta σ H (.tuple ds)) (hds : SeqAt.shaped (.tuple ds) = true) : ET (tOp (rEqD K) ta (tTup tNil)) σ H (.bool ds.isEmpty) := by
  have h := et_eqD (K := K) ha (et_tup (ds := []) ea_nil (Nat.zero_le _)) hds (by decide +kernel)
  rw [eqv_nil] at h
  exact h
theorem et_neNil (ha : ET ta σ H (.tuple ds)) (hds : SeqAt.shaped (.tuple ds) = true) : ET (tOp (rNeD K) ta (tTup tNil)) σ H (.bool (!ds.isEmpty)) := by
  have h := et_neD (K := K) ha (et_tup (ds := []) ea_nil (Nat.zero_le _)) hds (by decide +kernel)
  rw [eqv_nil] at h
  exact h
theorem eqv_nilL {ds : List PyData} : PyData.eqv (.list ds) (.list []) = ds.isEmpty := by
  cases ds <;> simp [PyData.eqv, PyData.eqvAll]
theorem et_neNilL (ha : EL ta σ H ds) (hds : SeqAt.shaped (.list ds) = true) : ET (tOp (rNeD K) ta (tLst tNil)) σ H (.bool (!ds.isEmpty)) := by
  have h := et_neL (K := K) ha (EN.el (en_lst (ds := []) ea_nil (Nat.zero_le _))) hds (by decide +kernel)
  rw [eqv_nilL] at h
  exact h
theorem et_ixL (ha : EL ta σ H ds) (hb : ET tb σ H (.int i)) (e : atI ds i = some d) : ET (tOp (rIxL K) ta tb) σ H d := fun H1 a Q q =>
  ha H1 a _ fun v H2 s2 r2 => hb H2 (a.trans s2) _ fun w H3 s3 r3 => by
    obtain ⟨p, xs, rfl, hp, r⟩ := r2
    cases r3.int_inv
    obtain ⟨z, hz, rz⟩ := (r.mono (tle s3)).at e
    exact ⟨p, xs, i, z, rfl, rfl, SqL.of (s3 _ _ hp), hz, q z H3 (s2.trans s3) rz⟩
theorem cut1 {x : PyData} {xs : List PyData} : cutD (x :: xs) (some 1) none = xs := by
  unfold cutD
  rw [HT.sIx_none, show (some (1 : Int)) = some ((1 : Nat) : Int) from rfl, HT.sIx_nat]
  simp
theorem cut2 {x y : PyData} {xs : List PyData} : cutD (x :: y :: xs) (some 2) none = xs := by
  unfold cutD
  rw [HT.sIx_none, show (some (2 : Int)) = some ((2 : Nat) : Int) from rfl, HT.sIx_nat]
  have e : min 2 (x :: y :: xs).length = 2 := by simp
  rw [e]
  simp
theorem cutTo1 {x : PyData} {xs : List PyData} : cutD (x :: xs) none (some 1) = [x] := by
  unfold cutD
  rw [HT.sIx_none, show (some (1 : Int)) = some ((1 : Nat) : Int) from rfl, HT.sIx_nat]
  simp
theorem et_in2 {x y z : Str} (ha : ET ta σ H (.str x)) (hb : ET tb σ H (.tuple [.str y, .str z])) : ET (tOp (rIn K false) ta tb) σ H (.bool (decide (x ∈ [y, z]))) := et_inS (ys := [y, z]) ha hb
/-! ### the layer's rules with the written part by its letter -/
section
variable {X : Cx} {K : PySem.W.Frag}
theorem ix_tupK (h : X.K = K) : IxR X (rIxT K) := h ▸ ix_tup
theorem ix_listK (h : X.K = K) : IxR X (rIxL K) := h ▸ ix_list
theorem sl_tupK (h : X.K = K) : SlR X (rSlA K) := h ▸ sl_tupA
theorem sl_listK (h : X.K = K) : SlR X (rSlL K) := h ▸ sl_list
theorem op_in_seqK (h : X.K = K) : OpR X (compareOp .In) (rIn K false) := h ▸ op_in_seq
theorem op_eqK (h : X.K = K) (hu : X.A.units + 64 < cLine) : OpR X (compareOp .Eq) (rEqD K) := h ▸ op_eqD hu
theorem op_neK (h : X.K = K) (hu : X.A.units + 64 < cLine) : OpR X (compareOp .NotEq) (rNeD K) := h ▸ op_neD hu
theorem op_catK (h : X.K = K) : OpR X (binaryOp .Add) (rCatA K) := h ▸ op_catA
theorem call_len_seqK (h : X.K = K) : CallR X (.builtin "len") (fun xs H Q => ∃ p ys, xs = [.ref p] ∧ (SqL K H p ys ∨ SqT K H p ys) ∧ Q (.int ys.length) H) := h ▸ call_len_seq
theorem call_tuple_ofK (h : X.K = K) : CallR X (.type "tuple") (fun xs H Q => ∃ p ys, xs = [.ref p] ∧ ((SqL K H p ys ∧ ∀ l, H l = none → Q (.ref l) (upd H l (.tup ys))) ∨ (SqT K H p ys ∧ Q (.ref p) H))) := h ▸ call_tuple_of
theorem call_list_ofK (h : X.K = K) : CallR X (.type "list") (fun xs H Q => ∃ p ys, xs = [.ref p] ∧ (SqL K H p ys ∨ SqT K H p ys) ∧ ∀ l, H l = none → Q (.ref l) (upd H l (.lst ys))) := h ▸ call_list_of
theorem cr_sumK (h : X.K = K) (hc : X.calm = true) : CallR X (.builtin "sum") (rSum K) := h ▸ cr_sum hc
theorem cr_maxK (h : X.K = K) (hc : X.calm = true) : CallR X (.builtin "max") (rMax K) := h ▸ cr_max hc
theorem cr_min_K (h : X.K = K) (hc : X.calm = true) : CallR X (.builtin "min") (rMin K) := h ▸ cr_min hc
theorem cr_allK (h : X.K = K) (hc : X.calm = true) : CallR X (.builtin "all") (rAll K) := h ▸ cr_all hc
theorem call_isiK2 (h : X.K = K) : CallR X (.builtin "isinstance") (rIsi K) := h ▸ call_isi
theorem pi_tupK {tg l : Expr} {te : TE} (h : X.K = K) (hl : PE X l te) : PI X tg l (iTup K te) := h ▸ pi_tup hl
theorem pi_listK {tg l : Expr} {te : TE} (h : X.K = K) (hl : PE X l te) : PI X tg l (iList K te) := h ▸ pi_list hl
theorem pa_starK {e : Expr} {es : List Expr} {p : Pos} {te : TE} {t : TA} (h : X.K = K) (he : PE X e te) (hr : PA X es t) (hs : starEach (.Starred e p :: es) X.env = (true, eval e X.env) :: starEach es X.env := by rfl) : PA X (.Starred e p :: es) (StX.tStar K te t) := h ▸ StX.pa_star he hr hs
theorem pg_tupK {es : List Expr} {k : Nat} {t : TGs} {n : Nat} {pos : Pos} (hK : X.K = K) (hc : X.calm = true) (h : PGs X es t)
    (hn : (assignEach es X.env).length = n := by rfl) (hst : (assignEach es X.env).findIdx? (·.1) = none := by rfl) : PG X (.Tuple es k pos) (gTup K n t) := hK ▸ pg_tup hc h hn hst
theorem mt_extendK {id : String} {r : V → List V → Hp → VK → Prop} (h : MtR X id r) : MtR X id r := h
end
/-! ### statements in a row -/
section
variable {K : PySem.W.Frag} {σ : L2.St} {H : Hp} {D : Ends} {te : TE} {ta : TA} {d : PyData} {ds : List PyData} {tt : TT} {b : Bool} {t u r : TS}
theorem st_seq (h : t { D with nx := u D } σ H) : tSeq t u D σ H := h
theorem sq_yes (h : EB tt σ H b) (hb : b = true) (q : ∀ H', Same H H' → t { D with nx := r D } σ H') : tSeq (tIfS tt t u) r D σ H := st_ifT (D := { D with nx := r D }) (hb ▸ h) q
theorem sq_no (h : EB tt σ H b) (hb : b = false) (q : ∀ H', Same H H' → r D σ H') : tSeq (tIfS tt t tNext) r D σ H := st_ifF (D := { D with nx := r D }) (hb ▸ h) q
theorem sq_if {D : Ends} {t r : TS} (h : EB tt σ H b) (q1 : b = true → ∀ H', Same H H' → t { D with nx := r D } σ H') (q2 : b = false → ∀ H', Same H H' → r D σ H') : tSeq (tIfS tt t tNext) r D σ H := st_if (D := { D with nx := r D }) h q1 q2
/-- a, b = [], [] -/
theorem sq_parN {D : Ends} {r : TS} {i j : Nat} (q : ∀ p1 p2 H', Same H H' → Lp H' (.ref p1) [] → Lp H' (.ref p2) [] → r D ((σ.set i (some (.ref p1))).set j (some (.ref p2))) H') : tSeq (tPar i j (tCons (tLst tNil) (tCons (tLst tNil) tNil))) r D σ H := by
  refine ⟨Nat.zero_le _, fun p1 h1 => ⟨Nat.zero_le _, fun p2 h2 => ⟨_, _, rfl, ?_⟩⟩⟩
  have ne : p1 ≠ p2 := fun e => by rw [← e, upd_same] at h2; cases h2
  refine q p1 p2 _ ((same_new h1 _).trans (same_new h2 _)) ⟨p1, [], rfl, ?_, .nil⟩ ⟨p2, [], rfl, upd_same, .nil⟩
  rw [upd_ne ne]; exact upd_same
theorem set_same {i : Nat} {v : V} {σ : L2.St} (h : σ[i]? = some (some v)) : σ.set i (some v) = σ := by
  refine List.ext_getElem? fun m => ?_
  rw [List.getElem?_set]
  by_cases e : i = m
  · subst e
    rw [if_pos rfl, h, if_pos (List.getElem?_eq_some_iff.mp h).1]
  · rw [if_neg e]
/-- if c: x = e, joined with what stands in x -/
theorem sq_ifsetL {D : Ends} {r : TS} {i : Nat} (h : EB tt σ H b) (ds : List PyData) (v0 : V) (hi : b = true → EL te σ H ds) (h0 : σ[i]? = some (some v0)) (hl : b = false → Lp H v0 ds) (q : ∀ v H', Same H H' → Lp H' v ds → r D (σ.set i (some v)) H') :
    tSeq (tIfS tt (tAsg te (gName i)) tNext) r D σ H :=
  sq_if h (fun e H' s => (EL.mono s (hi e)).use fun v H2 s2 l => q v H2 (s.trans s2) l) fun e H' s => by
    have z := q v0 H' s ((hl e).mono s)
    rw [set_same h0] at z
    exact z
theorem eb_orT {ut : TT} (h : EB tt σ H b) (hb : b = true) : EB (tOr tt ut) σ H true := fun H1 a Q q => h H1 a _ fun H2 s2 => by
  rw [hb]; exact iteT (q H2 s2)
theorem eb_orF {ut : TT} {c : Bool} (h : EB tt σ H b) (hb : b = false) (hc : EB ut σ H c) : EB (tOr tt ut) σ H c := fun H1 a Q q => h H1 a _ fun H2 s2 => by
  rw [hb]; exact iteF (hc H2 (a.trans s2) Q fun H3 s3 => q H3 (s2.trans s3))
theorem eb_andF {ut : TT} (h : EB tt σ H b) (hb : b = false) : EB (tAnd tt ut) σ H false := fun H1 a Q q => h H1 a _ fun H2 s2 => by
  rw [hb]; exact iteF (q H2 s2)
theorem eb_andT {ut : TT} {c : Bool} (h : EB tt σ H b) (hb : b = true) (hc : EB ut σ H c) : EB (tAnd tt ut) σ H c := fun H1 a Q q => h H1 a _ fun H2 s2 => by
  rw [hb]; exact iteT (hc H2 (a.trans s2) Q fun H3 s3 => q H3 (s2.trans s3))
theorem EB.to {c : Bool} (h : EB tt σ H b) (e : b = c) : EB tt σ H c := e ▸ h
theorem ET.to {e : PyData} (h : ET te σ H d) (q : d = e) : ET te σ H e := q ▸ h
theorem EA.to {t : TA} {es : List PyData} (h : EA t σ H ds) (q : ds = es) : EA t σ H es := q ▸ h
theorem EL.to {es : List PyData} (h : EL te σ H ds) (q : ds = es) : EL te σ H es := q ▸ h
theorem et_ifT {tb : TE} (hc : EB tt σ H b) (hb : b = true) (ha : ET te σ H d) : ET (tIf tt te tb) σ H d := et_if hc (fun _ => ha) fun z => by rw [hb] at z; cases z
theorem et_ifF {tb : TE} (hc : EB tt σ H b) (hb : b = false) (ha : ET tb σ H d) : ET (tIf tt te tb) σ H d := et_if hc (fun z => by rw [hb] at z; cases z) fun _ => ha
theorem el_ifT {tb : TE} (hc : EB tt σ H b) (hb : b = true) (ha : EL te σ H ds) : EL (tIf tt te tb) σ H ds := el_if hc (fun _ => ha) fun z => by rw [hb] at z; cases z
theorem el_ifF {tb : TE} (hc : EB tt σ H b) (hb : b = false) (ha : EL tb σ H ds) : EL (tIf tt te tb) σ H ds := el_if hc (fun z => by rw [hb] at z; cases z) fun _ => ha
theorem sq_set {i : Nat} (h : ET te σ H d) (q : ∀ v H', Same H H' → Tp H' v d → r D (σ.set i (some v)) H') : tSeq (tAsg te (gName i)) r D σ H := h.use q
theorem sq_setL {i : Nat} (h : EL te σ H ds) (q : ∀ v H', Same H H' → Lp H' v ds → r D (σ.set i (some v)) H') : tSeq (tAsg te (gName i)) r D σ H := h.use q
theorem sq_setN {i : Nat} (h : EN te σ H ds) (q : ∀ p xs H', H p = none → Same H H' → H' p = some (.lst xs) → TpA H' xs ds → r D (σ.set i (some (.ref p))) H') : tSeq (tAsg te (gName i)) r D σ H := h.use q
theorem sq_unp4 {i1 i2 i3 i4 : Nat} {d1 d2 d3 d4 : PyData} (h : ET te σ H (.tuple [d1, d2, d3, d4])) (q : ∀ v1 v2 v3 v4 H', Same H H' → Tp H' v1 d1 → Tp H' v2 d2 → Tp H' v3 d3 → Tp H' v4 d4 → r D ((((σ.set i1 (some v1)).set i2 (some v2)).set i3 (some v3)).set i4 (some v4)) H') :
    tSeq (tAsg te (gTup K 4 (gCons (gName i1) (gCons (gName i2) (gCons (gName i3) (gCons (gName i4) gNil)))))) r D σ H := st_unp4 (D := { D with nx := r D }) h q
theorem sq_par {i j : Nat} {d1 d2 : PyData} (h : EA ta σ H [d1, d2]) (q : ∀ v1 v2 H', Same H H' → Tp H' v1 d1 → Tp H' v2 d2 → r D ((σ.set i (some v1)).set j (some v2)) H') : tSeq (tPar i j ta) r D σ H := st_par (D := { D with nx := r D }) h q
/-- a for over a tuple of data, over a list of data -/
theorem sq_forT {g : TG} {tb : TS} (hi : ET te σ H (.tuple ds)) (h : ∀ H1, Same H H1 → ∃ Pv : Nat → L2.St → Hp → Prop, Pv 0 σ H1 ∧ (∀ i σ' H', Pv i σ' H' → TLe H1 H') ∧
      (∀ i d v σ' H', ds[i]? = some d → Pv i σ' H' → Tp H' v d → g v σ' H' fun σ2 H2 => tb { D with nx := Pv (i + 1), ct := Pv (i + 1), bk := r D } σ2 H2) ∧ ∀ σ' H', Pv ds.length σ' H' → r D σ' H') :
    tSeq (tFor (iTup K te) g tb) r D σ H := hi.use fun v H1 s1 r1 => by
  obtain ⟨a, xs, rfl, hp, rx⟩ := r1.tuple_inv
  obtain ⟨Pv, h0, hT, hs, hd⟩ := h H1 s1
  refine ⟨a, rfl, ⟨xs, SqT.of hp⟩, ?_⟩
  refine for_tup (K := K) (a := a) (xs := xs) (D := { D with nx := r D }) Pv h0 (fun i σ' H' _ p => SqT.of (hT i σ' H' p _ _ hp)) (fun i x σ' H' hx p => ?_) (fun σ' H' p => hd σ' H' (by rw [← rx.length]; exact p))
  obtain ⟨d, hd', rd⟩ := (rx.mono (hT i σ' H' p)).get hx
  exact hs i d x σ' H' hd' p rd
theorem sq_forL {g : TG} {tb : TS} (hi : EL te σ H ds) (h : ∀ p xs H1, Same H H1 → H1 p = some (.lst xs) → TpA H1 xs ds → ∃ Pv : Nat → L2.St → Hp → Prop, Pv 0 σ H1 ∧ (∀ i σ' H', Pv i σ' H' → TLe H1 H' ∧ H' p = some (.lst xs)) ∧
      (∀ i d v σ' H', ds[i]? = some d → Pv i σ' H' → Tp H' v d → g v σ' H' fun σ2 H2 => tb { D with nx := Pv (i + 1), ct := Pv (i + 1), bk := r D } σ2 H2) ∧ ∀ σ' H', Pv ds.length σ' H' → r D σ' H') :
    tSeq (tFor (iList K te) g tb) r D σ H := hi.use fun v H1 s1 r1 => by
  obtain ⟨a, xs, rfl, hp, rx⟩ := r1
  obtain ⟨Pv, h0, hT, hs, hd⟩ := h a xs H1 s1 hp rx
  refine ⟨a, rfl, ⟨xs, SqL.of hp⟩, ?_⟩
  refine for_list (K := K) (a := a) (xs := xs) (D := { D with nx := r D }) Pv h0 (fun i σ' H' _ p => SqL.of (hT i σ' H' p).2) (fun i x σ' H' hx p => ?_) (fun σ' H' p => hd σ' H' (by rw [← rx.length]; exact p))
  obtain ⟨d, hd', rd⟩ := (rx.mono (hT i σ' H' p).1).get hx
  exact hs i d x σ' H' hd' p rd
/-- .. over the list that a name holds -/
theorem sq_forV {g : TG} {tb : TS} {k : Nat} {a : Addr} {xs : List V} (hσ : σ[k]? = some (some (.ref a))) (ha : H a = some (.lst xs)) (rx : TpA H xs ds) (Pv : Nat → L2.St → Hp → Prop) (h0 : Pv 0 σ H) (hT : ∀ i σ' H', Pv i σ' H' → TLe H H' ∧ H' a = some (.lst xs))
      (hs : ∀ i d v σ' H', ds[i]? = some d → Pv i σ' H' → Tp H' v d → g v σ' H' fun σ2 H2 => tb { D with nx := Pv (i + 1), ct := Pv (i + 1), bk := r D } σ2 H2) (hd : ∀ σ' H', Pv ds.length σ' H' → r D σ' H') :
    tSeq (tFor (iList K (tVar k)) g tb) r D σ H := by
  refine ⟨_, hσ, a, rfl, ⟨xs, SqL.of ha⟩, ?_⟩
  refine for_list (K := K) (a := a) (xs := xs) (D := { D with nx := r D }) Pv h0 (fun i σ' H' _ p => SqL.of (hT i σ' H' p).2) (fun i x σ' H' hx p => ?_) (fun σ' H' p => hd σ' H' (by rw [← rx.length]; exact p))
  obtain ⟨d, hd', rd⟩ := (rx.mono (hT i σ' H' p).1).get hx
  exact hs i d x σ' H' hd' p rd
/-- x.extend(e), x.append(e) -/
theorem st_extend {i : Nat} {p : Addr} {xs : List V} {es : List PyData} (hσ : σ[i]? = some (some (.ref p))) (hp : H p = some (.lst xs)) (hx : TpA H xs ds) (he : EL te σ H es) (hz : ds.length + es.length ≤ 16000000)
    (q : ∀ xs' H', Same H H' → H' p = some (.lst xs) → TpA (upd H' p (.lst xs')) xs' (ds ++ es) → D.nx σ (upd H' p (.lst xs'))) : tDrop (tBM K "list" rExtend (tVar i) (tCons te tNil)) D σ H := by
  refine ⟨_, hσ, .inl ⟨rfl, _, SqL.of hp⟩, ?_⟩
  refine he.use fun v H' s ⟨b, zs, e, hb, rz⟩ => ?_
  subst e
  have hp' := s _ _ hp
  refine ⟨p, b, xs, zs, rfl, rfl, hp', hb, sz_ok (by rw [hx.length, rz.length]; exact hz), ?_⟩
  have tl4 : TLe H' (upd H' p (.lst (xs ++ zs))) := tle_lst hp'
  exact q (xs ++ zs) H' s hp' (((hx.mono (tle s)).mono tl4).append (rz.mono tl4))
theorem st_append {i : Nat} {p : Addr} {xs : List V} (hσ : σ[i]? = some (some (.ref p))) (hp : H p = some (.lst xs)) (hx : TpA H xs ds) (he : ET te σ H d) (hz : ds.length < 16000000)
    (q : ∀ xs' H', Same H H' → H' p = some (.lst xs) → TpA (upd H' p (.lst xs')) xs' (ds ++ [d]) → D.nx σ (upd H' p (.lst xs'))) : tDrop (tBM K "list" rAppend (tVar i) (tCons te tNil)) D σ H := by
  refine ⟨_, hσ, .inl ⟨rfl, _, SqL.of hp⟩, ?_⟩
  refine he.use fun v H' s rv => ?_
  have hp' := s _ _ hp
  refine ⟨p, xs, v, rfl, rfl, hp', sz_lt (by rw [hx.length]; exact hz), ?_⟩
  have tl4 : TLe H' (upd H' p (.lst (xs ++ [v]))) := tle_lst hp'
  exact q (xs ++ [v]) H' s hp' (((hx.mono (tle s)).mono tl4).append (.cons (rv.mono tl4) .nil))
end
end

section
/-! the mirror: patterns, frames, stops -/
inductive Pat where
  | none
  | empty
  | one (z : Str)
  | row (ps : List Pat)
  | any (ps : List Pat)
  | again (p : Pat) (lo : Nat) (hi : Option Nat) (many : Bool)
  | group (p : Pat) (g : Option Nat)

def encHi : Option Nat → PyData
  | .none => .none
  | some h => .int (h : Nat)
def encWay (m : Bool) : PyData := .str (if m = true then "many" else "few")
mutual
def enc : Pat → PyData
  | .none => .tuple [.str "none"]
  | .empty => .tuple [.str "empty"]
  | .one z => .tuple [.str "one", .str z]
  | .row ps => .tuple (.str "row" :: encs ps)
  | .any ps => .tuple (.str "any" :: encs ps)
  | .again p lo hi m => .tuple [.str "again", enc p, .int (lo : Nat), encHi hi, encWay m]
  | .group p .none => .tuple [.str "group", enc p]
  | .group p (some g) => .tuple [.str "group", enc p, .int (g : Nat)]
def encs : List Pat → List PyData
  | [] => []
  | p :: ps => enc p :: encs ps
end
theorem encs_map : ∀ ps : List Pat, encs ps = ps.map enc
  | [] => by rw [encs]; rfl
  | p :: ps => by rw [encs, encs_map ps]; rfl

inductive Frame where
  | pat (p : Pat)
  | turn (p : Pat) (lo : Nat) (hi : Option Nat) (many : Bool) (done : Nat) (new : Bool)
  | close (g : Nat)
def encF : Frame → PyData
  | .pat p => enc p
  | .turn p lo hi m d n => .tuple [.str "turn", enc (.again p lo hi m), .int (d : Nat), .bool n]
  | .close g => .tuple [.str "close", .int (g : Nat)]
def encR (R : List Frame) : PyData := .tuple (R.map encF)
/-- marks: for each group, where it was begun, and the pair -/
abbrev Mk := List (PyData × PyData)
def encM (M : Mk) : PyData := .tuple (M.map fun x => .tuple [x.1, x.2])
abbrev Stop := List Frame × Mk
def encS (s : Stop) : PyData := .tuple [encR s.1, encM s.2]

/-- a frame behind a letter -/
def aged : Frame → Frame
  | .turn p lo .none m d _ => .turn p lo .none m (min d lo) false
  | .turn p lo (some h) m d _ => .turn p lo (some h) m d false
  | f => f
def goOn (hi : Option Nat) (d : Nat) : Bool := match hi with
  | .none => true
  | some h => decide (d < h)
/-- one list behind another, if all are there -/
def catO {α β : Type} (f : α → Option (List β)) : List α → Option (List β)
  | [] => some []
  | a :: as => (f a).bind fun x => (catO f as).bind fun y => some (x ++ y)
/-- the stops of a rest, by at most n steps, one in another -/
def stopsF : Nat → List Frame → Mk → Nat → Option (List Stop)
  | 0, _, _, _ => .none
  | n + 1, R, M, p => if 500 < R.length then .none else match R with
    | [] => some [([], M)]
    | .pat .none :: _ => some []
    | .pat .empty :: S => stopsF n S M p
    | .pat (.one z) :: S => some [(.pat (.one z) :: S.map aged, M)]
    | .pat (.row ps) :: S => stopsF n (ps.map .pat ++ S) M p
    | .pat (.any ps) :: S => catO (fun q => stopsF n (.pat q :: S) M p) ps
    | .pat (.group _ .none) :: _ => .none
    | .pat (.group q (some g)) :: S => (M[g]?).bind fun x => stopsF n (.pat q :: .close g :: S) (M.set g (.int (p : Nat), x.2)) p
    | .close g :: S => (M[g]?).bind fun x => stopsF n S (M.set g (x.1, .tuple [x.1, .int (p : Nat)])) p
    | .pat (.again q lo hi m) :: S => stopsF n (.turn q lo hi m 0 false :: S) M p
    | .turn q lo hi m d new :: S => if (new && decide (lo < d)) = true then some [] else
      (if goOn hi d = true then stopsF n (.pat q :: .turn q lo hi m (d + 1) true :: S) M p else some []).bind fun a =>
      (if lo ≤ d then stopsF n S M p else some []).bind fun b => some (if m = true then a ++ b else b ++ a)
end

section
/-! what can be compared: texts in order, not too deep -/
def shp (k : Nat) (d : PyData) : Prop := d.canLay0 = true ∧ d.depth ≤ k
def shpA (k : Nat) (ds : List PyData) : Prop := PyData.canLayAll0 ds = true ∧ PyData.depthAll ds ≤ k
theorem shp.mono {j k : Nat} {d : PyData} (h : shp j d) (e : j ≤ k) : shp k d := ⟨h.1, Nat.le_trans h.2 e⟩
theorem shp.shaped {k : Nat} {d : PyData} (h : shp k d) (e : k ≤ 64 := by decide) : SeqAt.shaped d = true := by
  unfold SeqAt.shaped
  rw [h.1, Bool.true_and]
  exact decide_eq_true (Nat.le_trans h.2 e)
theorem shpA.nil {k : Nat} : shpA k [] := ⟨by rw [PyData.canLayAll0], by rw [PyData.depthAll]; exact Nat.zero_le _⟩
theorem shpA.cons {k : Nat} {d : PyData} {ds : List PyData} (h : shp k d) (t : shpA k ds) : shpA k (d :: ds) :=
  ⟨by rw [PyData.canLayAll0, h.1, t.1]; rfl, by rw [PyData.depthAll]; exact Nat.max_le.mpr ⟨h.2, t.2⟩⟩
theorem shpA.of {k : Nat} : ∀ {ds : List PyData}, (∀ d ∈ ds, shp k d) → shpA k ds
  | [], _ => .nil
  | _ :: _, h => .cons (h _ List.mem_cons_self) (shpA.of fun d hd => h d (List.mem_cons_of_mem _ hd))
theorem shp.tup {k : Nat} {ds : List PyData} (h : shpA k ds) : shp (k + 1) (.tuple ds) :=
  ⟨by rw [PyData.canLay0]; exact h.1, by rw [PyData.depth]; exact Nat.succ_le_succ h.2⟩
theorem shp.lst {k : Nat} {ds : List PyData} (h : shpA k ds) : shp (k + 1) (.list ds) :=
  ⟨by rw [PyData.canLay0]; exact h.1, by rw [PyData.depth]; exact Nat.succ_le_succ h.2⟩
theorem shp.int {k : Nat} {i : Int} : shp k (.int i) := ⟨by rw [PyData.canLay0], by rw [PyData.depth]; exact Nat.zero_le _⟩
theorem shp.bl {k : Nat} {b : Bool} : shp k (.bool b) := ⟨by rw [PyData.canLay0], by rw [PyData.depth]; exact Nat.zero_le _⟩
theorem shp.non {k : Nat} : shp k .none := ⟨by rw [PyData.canLay0], by rw [PyData.depth]; exact Nat.zero_le _⟩
theorem shp.str {k : Nat} {z : Str} (h : PyData.canLay0 (.str z) = true) : shp k (.str z) := ⟨h, by rw [PyData.depth]; exact Nat.zero_le _⟩

/-- a pattern of at most so many floors, its letters in order -/
def okP : Nat → Pat → Bool
  | 0, _ => false
  | _ + 1, .none => true
  | _ + 1, .empty => true
  | _ + 1, .one z => PyData.canLay0 (.str z)
  | k + 1, .row ps => decide (ps.length ≤ 4) && ps.all (okP k)
  | k + 1, .any ps => decide (ps.length ≤ 4) && ps.all (okP k)
  | k + 1, .again p _ _ _ => okP k p
  | k + 1, .group p _ => okP k p
theorem okP_mono : ∀ (k : Nat) (p : Pat), okP k p = true → okP (k + 1) p = true
  | 0, _, h => by simp [okP] at h
  | k + 1, p, h => by
    cases p with
    | none => rfl
    | empty => rfl
    | one z => exact h
    | row ps =>
      simp only [okP, Bool.and_eq_true, List.all_eq_true] at h ⊢
      exact ⟨h.1, fun q hq => okP_mono k q (h.2 q hq)⟩
    | any ps =>
      simp only [okP, Bool.and_eq_true, List.all_eq_true] at h ⊢
      exact ⟨h.1, fun q hq => okP_mono k q (h.2 q hq)⟩
    | again p lo hi m => exact okP_mono k p h
    | group p g => exact okP_mono k p h
theorem okP_le {j k : Nat} {p : Pat} (h : okP j p = true) (e : j ≤ k) : okP k p = true := by
  induction k with
  | zero =>
    have : j = 0 := by omega
    subst this; exact h
  | succ k ih =>
    by_cases c : j ≤ k
    · exact okP_mono k p (ih c)
    · have : j = k + 1 := by omega
      subst this; exact h
theorem okP_shp : ∀ (k : Nat) (p : Pat), okP k p = true → shp k (enc p)
  | 0, _, h => by simp [okP] at h
  | k + 1, p, h => by
    cases p with
    | none => rw [enc]; exact .tup (.cons (.str (by decide +kernel)) .nil)
    | empty => rw [enc]; exact .tup (.cons (.str (by decide +kernel)) .nil)
    | one z => rw [enc]; exact .tup (.cons (.str (by decide +kernel)) (.cons (.str h) .nil))
    | row ps =>
      simp only [okP, Bool.and_eq_true, List.all_eq_true] at h
      rw [enc, encs_map]
      refine .tup (.cons (.str (by decide +kernel)) (.of fun d hd => ?_))
      obtain ⟨q, hq, rfl⟩ := List.mem_map.mp hd
      exact okP_shp k q (h.2 q hq)
    | any ps =>
      simp only [okP, Bool.and_eq_true, List.all_eq_true] at h
      rw [enc, encs_map]
      refine .tup (.cons (.str (by decide +kernel)) (.of fun d hd => ?_))
      obtain ⟨q, hq, rfl⟩ := List.mem_map.mp hd
      exact okP_shp k q (h.2 q hq)
    | again p lo hi m =>
      rw [enc]
      refine .tup (.cons (.str (by decide +kernel)) (.cons (okP_shp k p h) (.cons .int (.cons ?_ (.cons ?_ .nil)))))
      · cases hi
        · exact .non
        · exact .int
      · cases m
        · exact .str (by decide +kernel)
        · exact .str (by decide +kernel)
    | group p g =>
      cases g with
      | none => rw [enc]; exact .tup (.cons (.str (by decide +kernel)) (.cons (okP_shp k p h) .nil))
      | some g => rw [enc]; exact .tup (.cons (.str (by decide +kernel)) (.cons (okP_shp k p h) (.cons .int .nil)))
def okF : Frame → Bool
  | .pat p => okP 20 p
  | .turn p _ _ _ _ _ => okP 19 p
  | .close _ => true
def okR (R : List Frame) : Prop := ∀ f ∈ R, okF f = true
theorem okF_shp {f : Frame} (h : okF f = true) : shp 21 (encF f) := by
  cases f with
  | pat p => exact (okP_shp 20 p h).mono (by decide)
  | turn p lo hi m d n =>
    have h2 : shp 20 (enc (.again p lo hi m)) := okP_shp 20 (.again p lo hi m) h
    exact .tup (.cons (.str (by decide +kernel)) (.cons h2 (.cons .int (.cons .bl .nil))))
  | close g => exact .tup (.cons (.str (by decide +kernel)) (.cons .int .nil))
theorem okR_shp {R : List Frame} (h : okR R) : shp 22 (encR R) := .tup (.of fun d hd => by
  obtain ⟨f, hf, rfl⟩ := List.mem_map.mp hd
  exact okF_shp (h f hf))
theorem okR.tail {f : Frame} {R : List Frame} (h : okR (f :: R)) : okR R := fun g hg => h g (List.mem_cons_of_mem _ hg)
theorem okR.cons {f : Frame} {R : List Frame} (hf : okF f = true) (h : okR R) : okR (f :: R) := fun g hg => by
  rcases List.mem_cons.mp hg with rfl | hg
  · exact hf
  · exact h g hg
theorem okR.app {R S : List Frame} (h : okR R) (k : okR S) : okR (R ++ S) := fun g hg => (List.mem_append.mp hg).elim (h g) (k g)
theorem okF_row {ps : List Pat} (h : okF (.pat (.row ps)) = true) : okR (ps.map .pat) := fun f hf => by
  obtain ⟨q, hq, rfl⟩ := List.mem_map.mp hf
  simp only [okF, okP, Bool.and_eq_true, List.all_eq_true] at h
  exact okP_mono 19 q (h.2 q hq)
theorem okF_any {ps : List Pat} (h : okF (.pat (.any ps)) = true) : ∀ q ∈ ps, okF (.pat q) = true := fun q hq => by
  simp only [okF, okP, Bool.and_eq_true, List.all_eq_true] at h
  exact okP_mono 19 q (h.2 q hq)
theorem okF_aged {f : Frame} (h : okF f = true) : okF (aged f) = true := by
  cases f with
  | pat p => exact h
  | turn p lo hi m d n => cases hi <;> exact h
  | close g => rfl
/-- marks that can be compared -/
def okM (M : Mk) : Prop := M.length ≤ 1000 ∧ ∀ x ∈ M, shp 0 x.1 ∧ shp 1 x.2
def okS (s : Stop) : Prop := okR s.1 ∧ okM s.2
theorem okM.set {M : Mk} {g : Nat} {x : PyData × PyData} (h : okM M) (h1 : shp 0 x.1) (h2 : shp 1 x.2) : okM (M.set g x) :=
  ⟨by rw [List.length_set]; exact h.1, fun y hy => by
    rcases List.mem_or_eq_of_mem_set hy with hy | rfl
    · exact h.2 y hy
    · exact ⟨h1, h2⟩⟩
theorem okM_shp {M : Mk} (h : okM M) : shp 3 (encM M) := .tup (.of fun d hd => by
  obtain ⟨x, hx, rfl⟩ := List.mem_map.mp hd
  exact .tup (.cons ((h.2 x hx).1.mono (by decide)) (.cons (h.2 x hx).2 .nil)))
theorem spans_shp {M : Mk} (h : okM M) : shp 2 (.tuple (M.map (·.2))) := .tup (.of fun d hd => by
  obtain ⟨x, hx, rfl⟩ := List.mem_map.mp hd
  exact (h.2 x hx).2)
theorem okS_shp {s : Stop} (h : okS s) : shp 23 (encS s) := .tup (.cons (okR_shp h.1) (.cons ((okM_shp h.2).mono (by decide)) .nil))
theorem catO_mem {α β : Type} {f : α → Option (List β)} : ∀ {xs : List α} {L : List β} {b : β}, catO f xs = some L → b ∈ L → ∃ x ∈ xs, ∃ l, f x = some l ∧ b ∈ l
  | [], L, b, h, hb => by cases h; cases hb
  | x :: xs, L, b, h, hb => by
    unfold catO at h
    obtain ⟨u, hu, h⟩ := Option.bind_eq_some_iff.mp h
    obtain ⟨r, hr, h⟩ := Option.bind_eq_some_iff.mp h
    cases h
    rcases List.mem_append.mp hb with hb | hb
    · exact ⟨x, List.mem_cons_self, u, hu, hb⟩
    · obtain ⟨y, hy, l, hl, hm⟩ := catO_mem hr hb
      exact ⟨y, List.mem_cons_of_mem _ hy, l, hl, hm⟩
/-- stops of what can be compared can be compared; as many marks -/
theorem stopsF_ok : ∀ (n : Nat) {R : List Frame} {M : Mk} {p : Nat} {L : List Stop}, stopsF n R M p = some L → okR R → okM M → ∀ s ∈ L, okS s ∧ s.2.length = M.length
  | 0, R, M, p, L, h, _, _, _, _ => by cases h
  | n + 1, R, M, p, L, h, hR, hM, s, hs => by
    unfold stopsF at h
    by_cases c : 500 < R.length
    · rw [if_pos c] at h; cases h
    rw [if_neg c] at h
    cases R with
    | nil => cases h; cases List.mem_singleton.mp hs; exact ⟨⟨hR, hM⟩, rfl⟩
    | cons fr S =>
      cases fr with
      | close g =>
        obtain ⟨x, hx, h⟩ := Option.bind_eq_some_iff.mp h
        have hxm := hM.2 x (List.mem_of_getElem? hx)
        have r := stopsF_ok n h hR.tail (hM.set (x := (x.1, .tuple [x.1, .int (p : Nat)])) hxm.1 (.tup (.cons hxm.1 (.cons .int .nil)))) s hs
        rw [List.length_set] at r
        exact r
      | turn q lo hi m d new =>
        have h' : (if (new && decide (lo < d)) = true then some [] else
          (if goOn hi d = true then stopsF n (.pat q :: .turn q lo hi m (d + 1) true :: S) M p else some []).bind fun a =>
          (if lo ≤ d then stopsF n S M p else some []).bind fun b => some (if m = true then a ++ b else b ++ a)) = some L := h
        by_cases c1 : (new && decide (lo < d)) = true
        · rw [if_pos c1] at h'; cases h'; cases hs
        rw [if_neg c1] at h'
        obtain ⟨a, ha, h'⟩ := Option.bind_eq_some_iff.mp h'
        obtain ⟨b, hb, h'⟩ := Option.bind_eq_some_iff.mp h'
        cases h'
        have h9 : okP 19 q = true := hR _ List.mem_cons_self
        have hA : s ∈ a → okS s ∧ s.2.length = M.length := fun hsa => by
          by_cases c2 : goOn hi d = true
          · rw [if_pos c2] at ha
            exact stopsF_ok n ha (.cons (okP_mono 19 q h9) (.cons h9 hR.tail)) hM s hsa
          · rw [if_neg c2] at ha; cases ha; cases hsa
        have hB : s ∈ b → okS s ∧ s.2.length = M.length := fun hsb => by
          by_cases c2 : lo ≤ d
          · rw [if_pos c2] at hb
            exact stopsF_ok n hb hR.tail hM s hsb
          · rw [if_neg c2] at hb; cases hb; cases hsb
        by_cases c3 : m = true
        · rw [if_pos c3] at hs
          exact (List.mem_append.mp hs).elim hA hB
        · rw [if_neg c3] at hs
          exact (List.mem_append.mp hs).elim hB hA
      | pat q =>
        cases q with
        | none => cases h; cases hs
        | empty => exact stopsF_ok n h hR.tail hM s hs
        | one z =>
          cases h
          cases List.mem_singleton.mp hs
          refine ⟨⟨.cons (hR _ List.mem_cons_self) fun f hf => ?_, hM⟩, rfl⟩
          obtain ⟨g, hg, rfl⟩ := List.mem_map.mp hf
          exact okF_aged (hR g (List.mem_cons_of_mem _ hg))
        | row ps => exact stopsF_ok n h ((okF_row (hR _ List.mem_cons_self)).app hR.tail) hM s hs
        | any ps =>
          have h' : catO (fun q => stopsF n (.pat q :: S) M p) ps = some L := h
          obtain ⟨q, hq, l, hl, hm⟩ := catO_mem h' hs
          exact stopsF_ok n hl (.cons (okF_any (hR _ List.mem_cons_self) q hq) hR.tail) hM s hm
        | again q lo hi m => exact stopsF_ok n h (.cons (show okP 19 q = true from hR (.pat (.again q lo hi m)) List.mem_cons_self) hR.tail) hM s hs
        | group q g =>
          cases g with
          | none => cases h
          | some g =>
            obtain ⟨x, hx, h⟩ := Option.bind_eq_some_iff.mp h
            have hxm := hM.2 x (List.mem_of_getElem? hx)
            have r := stopsF_ok n h (.cons (okP_mono 19 q (hR (.pat (.group q (some g))) List.mem_cons_self)) (.cons rfl hR.tail)) (hM.set (x := (.int (p : Nat), x.2)) .int hxm.2) s hs
            rw [List.length_set] at r
            exact r
end

section

def topS (i : Nat) : Stmt := PySem.Challenge.pw_patternways_k36_whole_ways.main.body.getD i (.Pass ⟨0, 0, 0, 0⟩)
/-- a def of the module under its name, its parameters bound one by one -/
structure Df (K : PySem.W.Frag) (mg : Str → Option Value) (x : Str) (st : Stmt) (ps : List Str) : Prop where
  ex : ∃ (f : Addr) (fd : FuncData), C8.Def K mg x st f fd ∧ Binds K fd ps []
theorem df_mk {K : PySem.W.Frag} {mg : Str → Option Value} {x : Str} {st : Stmt} {ps N : List Str} {P : Program} {w : World} {base : Heap} {k : Nat} {sp : Sp} (D : Df K mg x st ps) (S : FnScope N ps (C8.fnScope st)) (len : ∀ vs H Q E, sp vs H Q E → vs.length = ps.length)
    (hbody : ∀ (f : Addr) (cdv : Value) (A : Around) (outer : List Env) (s : Shared) (H : Hp) (vs : List V) (Q : VK) (E : XK), Room k (A.deeper (PyProof.Rows.envOfC x (C8.fnScope st) s.heap.objs.size f cdv)) → sp vs H Q E →
      ∃ t, PSs (cxOf C8.CX0 P w K mg base N x (C8.fnScope st) f cdv A outer s H E).nox (C8.fnBody st) t ∧ t { nx := fun _ H' => Q .non H', rt := Q } (start N vs) H) : C8.Cal P w K mg base (k + 1) x sp [] := by
  obtain ⟨f, fd, d, b⟩ := D.ex
  exact C8.cal0 d b .nil S len (hbody f)

/-- facts of the module's names -/
structure Tx (mg : Str → Option Value) : Prop where
  m_min : mg "min" = none
  m_max : mg "max" = none
  m_len : mg "len" = none
  m_isinstance : mg "isinstance" = none
  m_int : mg "int" = none
  m_bool : mg "bool" = none
  m_str : mg "str" = none
  m_tuple : mg "tuple" = none
  m_list : mg "list" = none
  m_all : mg "all" = none
  m_sum : mg "sum" = none
  m_zip : mg "zip" = none
  m_range : mg "range" = none
  m_enumerate : mg "enumerate" = none
  g_LETTERS : ∃ u, mg "LETTERS" = some u ∧ RelV (.str "abc") u
  g_MOST_PARTS : ∃ u, mg "MOST_PARTS" = some u ∧ RelV (.int 12) u
  g_MOST_WEIGHT : ∃ u, mg "MOST_WEIGHT" = some u ∧ RelV (.int 8) u
  g_MOST_TIMES : ∃ u, mg "MOST_TIMES" = some u ∧ RelV (.int 3) u
  g_MOST_STOPS : ∃ u, mg "MOST_STOPS" = some u ∧ RelV (.int 300) u

abbrev s_marked : Stmt := topS 31
theorem sc_marked : FnScope ["marks", "group", "pair"] ["marks", "group", "pair"] (C8.fnScope s_marked) := C8.fnScope_by (by decide +kernel)
def F_marked (ds : List PyData) (d : PyData) : Prop := ∃ (M : List PyData) (g : Nat) (x : PyData), ds = [.tuple M, .int g, x] ∧ g < M.length ∧ M.length ≤ 1000 ∧ d = .tuple (M.set g x)
theorem cutD_to (ds : List PyData) (g : Nat) : cutD ds none (some (g : Int)) = ds.take g := by
  unfold cutD
  rw [HT.sIx_none, HT.sIx_nat]
  simp
theorem cutD_from (ds : List PyData) (g : Nat) : cutD ds (some (g : Int)) none = ds.drop g := by
  unfold cutD
  rw [HT.sIx_none, HT.sIx_nat]
  by_cases h : g ≤ ds.length
  · rw [Nat.min_eq_left h, List.take_of_length_le]
    rw [List.length_drop]; exact Nat.le_refl _
  · rw [Nat.min_eq_right (by omega), List.drop_eq_nil_of_le (Nat.le_refl _), List.drop_eq_nil_of_le (by omega)]
    simp
theorem set_cut (ds : List PyData) (g : Nat) (x : PyData) (h : g < ds.length) : ds.take g ++ (x :: (ds.drop (g + 1) ++ [])) = ds.set g x := by
  rw [List.append_nil, List.set_eq_take_append_cons_drop, if_pos h]
section
variable {P : Program} {w : World} {K : PySem.W.Frag} {mg : Str → Option Value} {base : Heap}
theorem c_marked (D : Df K mg "marked" s_marked ["marks", "group", "pair"]) : C8.Cal P w K mg base 1 "marked" (spT 3 F_marked) [] := by
  refine df_mk D sc_marked spT.len fun f cdv A outer s H vs Q E hr h => ?_
  obtain ⟨ds, d, hn, hv, ⟨M, g, x, rfl, hg, hz, rfl⟩, q⟩ := h
  obtain _ | ⟨h0, _ | ⟨h1, _ | ⟨h2, _⟩⟩⟩ := hv
  refine ⟨_, pss_one (ps_ret (pe_tup (StX.pa_star (pe_slice sl_tupA (pv 0) po_none (po_some (pv 1))) (pa_cons (pv 2) (StX.pa_star (pe_slice sl_tupA (pv 0) (po_some (pe_op op_add (pv 1) pe_int)) po_none) pa_nil))))), ?_⟩
  refine st_ret (et_tup (ea_star (et_sl (et_var rfl h0) eo_none (eo_some (et_var rfl h1))) (ea_cons (et_var rfl h2) (ea_star (et_sl (et_var rfl h0) (eo_some (et_add (et_var rfl h1) et_int)) eo_none) ea_nil))) ?_) fun v H' e r => ?_
  · rw [cutD_to, show ((g : Int) + 1) = ((g + 1 : Nat) : Int) by omega, cutD_from, set_cut _ _ _ hg, List.length_set]; omega
  · rw [cutD_to, show ((g : Int) + 1) = ((g + 1 : Nat) : Int) by omega, cutD_from, set_cut _ _ _ hg] at r
    exact q v H' e r
end
end

local macro_rules | `(tactic| walk_at "tp") => `(tactic| first
  | assumption
  | exact Tp.int _ | exact Tp.bl _ | exact Tp.str _ | exact Tp.non
  | ((refine' Tp.mono (tle ?s) ?r); (case s => assumption); (case r => walk_at "tp")))
local macro_rules | `(tactic| walk_at "lp") => `(tactic| first
  | assumption
  | ((refine' Lp.mono ?s ?r); (case s => assumption); (case r => walk_at "lp")))
local macro_rules | `(tactic| walk_at "sz") => `(tactic| first
  | (simp only [List.length_cons, List.length_append, List.length_nil, List.length_map, List.length_set] <;> omega)
  | omega)
local macro_rules | `(tactic| walk_at "et") => `(tactic| first
  | with_reducible exact et_int
  | with_reducible exact et_str
  | with_reducible exact et_bl
  | with_reducible exact et_non
  | ((with_reducible refine' et_var ?h ?r); (case h => rfl); (case r => walk_at "tp"))
  | ((with_reducible refine' et_ix ?ha ?hb ?e); (case ha => walk_at "et"); (case hb => walk_at "et"); (case e => first | exact atI_0 | exact atI_1 | assumption | rfl))
  | ((with_reducible refine' et_sl ?ha ?hl ?hh); (case ha => walk_at "et"); (case hl => walk_at "eo"); (case hh => walk_at "eo"))
  | ((with_reducible refine' et_tup ?h ?hz); (case h => walk_at "ea"); (case hz => walk_at "sz"))
  | ((with_reducible refine' et_add ?ha ?hb); (case ha => walk_at "et"); (case hb => walk_at "et"))
  | ((with_reducible refine' et_sub ?ha ?hb); (case ha => walk_at "et"); (case hb => walk_at "et"))
  | ((with_reducible refine' et_lt ?ha ?hb); (case ha => walk_at "et"); (case hb => walk_at "et"))
  | ((with_reducible refine' et_le ?ha ?hb); (case ha => walk_at "et"); (case hb => walk_at "et"))
  | ((with_reducible refine' et_gt ?ha ?hb); (case ha => walk_at "et"); (case hb => walk_at "et"))
  | ((with_reducible refine' et_ge ?ha ?hb); (case ha => walk_at "et"); (case hb => walk_at "et"))
  | ((with_reducible refine' et_eqS ?ha ?hb); (case ha => walk_at "et"); (case hb => walk_at "et"))
  | ((with_reducible refine' et_neS ?ha ?hb); (case ha => walk_at "et"); (case hb => walk_at "et"))
  | ((with_reducible refine' et_eqI ?ha ?hb); (case ha => walk_at "et"); (case hb => walk_at "et"))
  | ((with_reducible refine' et_neI ?ha ?hb); (case ha => walk_at "et"); (case hb => walk_at "et"))
  | ((with_reducible refine' et_in2 ?ha ?hb); (case ha => walk_at "et"); (case hb => walk_at "et"))
  | ((with_reducible refine' et_isN ?ha ?hb); (case ha => walk_at "et"); (case hb => walk_at "et"))
  | ((with_reducible refine' et_notN ?ha ?hb); (case ha => walk_at "et"); (case hb => walk_at "et"))
  | ((with_reducible refine' et_min2 ?ha); (case ha => walk_at "ea"))
  | ((with_reducible refine' et_max2 ?ha); (case ha => walk_at "ea"))
  | ((with_reducible refine' et_lenT ?ha); (case ha => walk_at "et"))
  | ((with_reducible refine' et_ifT ?hc ?hb ?ha); (case hc => walk_at "eb"); (case hb => first | decide | rfl); (case ha => walk_at "et"))
  | ((with_reducible refine' et_ifF ?hc ?hb ?ha); (case hc => walk_at "eb"); (case hb => first | decide | rfl); (case ha => walk_at "et")))
local macro_rules | `(tactic| walk_at "el") => `(tactic| first
  | ((with_reducible refine' el_var ?h ?r); (case h => rfl); (case r => walk_at "lp"))
  | ((with_reducible refine' EN.el (en_lst ?h ?hz)); (case h => walk_at "ea"); (case hz => walk_at "sz"))
  | ((with_reducible refine' el_ifT ?hc ?hb ?ha); (case hc => walk_at "eb"); (case hb => first | decide | rfl); (case ha => walk_at "el"))
  | ((with_reducible refine' el_ifF ?hc ?hb ?ha); (case hc => walk_at "eb"); (case hb => first | decide | rfl); (case ha => walk_at "el")))
local macro_rules | `(tactic| walk_at "eo") => `(tactic| first
  | with_reducible exact eo_none
  | ((with_reducible refine' eo_some ?h); (case h => walk_at "et")))
local macro_rules | `(tactic| walk_at "ea") => `(tactic| first
  | with_reducible exact ea_nil
  | ((with_reducible refine' ea_cons ?ha ?hr); (case ha => walk_at "et"); (case hr => walk_at "ea"))
  | ((with_reducible refine' ea_star ?ha ?hr); (case ha => walk_at "et"); (case hr => walk_at "ea"))
  | ((with_reducible refine' ea_starL ?ha ?hr); (case ha => walk_at "el"); (case hr => walk_at "ea")))
local macro_rules | `(tactic| walk_at "eb") => `(tactic| first
  | ((with_reducible refine' eb_test ?h); (case h => walk_at "et"))
  | ((with_reducible refine' eb_val ?h); (case h => walk_at "et"))
  | ((with_reducible refine' eb_not ?ha); (case ha => walk_at "eb"))
  | ((with_reducible refine' eb_and ?ha ?hb); (case ha => walk_at "eb"); (case hb => intro _; walk_at "eb"))
  | ((with_reducible refine' eb_or ?ha ?hb); (case ha => walk_at "eb"); (case hb => intro _; walk_at "eb")))
local macro_rules | `(tactic| walk_at "sm") => `(tactic| first
  | assumption
  | exact Same.refl _
  | ((refine' Same.trans ?a ?b); (case b => assumption); (case a => walk_at "sm")))
section

abbrev s_aged : Stmt := topS 32
theorem sc_aged : FnScope ["frame", "word", "part", "done", "is_new"] ["frame"] (C8.fnScope s_aged) := C8.fnScope_by (by decide +kernel)
def F_aged (ds : List PyData) (d : PyData) : Prop := ∃ f : Frame, ds = [encF f] ∧ d = encF (aged f)
section
variable {P : Program} {w : World} {K : PySem.W.Frag} {mg : Str → Option Value} {base : Heap}
theorem c_aged (T : Tx mg) (D : Df K mg "aged" s_aged ["frame"]) : C8.Cal P w K mg base 1 "aged" (spT 1 F_aged) [] := by
  refine df_mk D sc_aged spT.len fun f cdv A outer s H vs Q E hr h => ?_
  obtain ⟨ds, d, hn, hv, ⟨fr, rfl, rfl⟩, q⟩ := h
  obtain _ | ⟨h0, _ | _⟩ := hv
  refine ⟨_, (pss_cons (ps_if (pt_cmpR op_ne (pe_ix ix_tup (pv 0) pe_int (fun _ _ => rfl)) pe_str (nomark _)) (pss_one (ps_ret (pv 0))) pss_nil)
    (pss_cons (ps_asg (pv 0) (pg_tup (n := 4) rfl (pgs_cons (pg_name (i := 1) sc_aged.nd rfl (Or.inl rfl)) (pgs_cons (pg_name (i := 2) sc_aged.nd rfl (Or.inl rfl)) (pgs_cons (pg_name (i := 3) sc_aged.nd rfl (Or.inl rfl)) (pgs_cons (pg_name (i := 4) sc_aged.nd rfl (Or.inl rfl)) pgs_nil))))))
    (pss_one (ps_ret (pe_tup (pa_cons (pv 1) (pa_cons (pv 2) (pa_cons (pe_ifExp (pt_cmpR op_notN (pe_ix ix_tup (pv 2) pe_int (fun _ _ => rfl)) pe_non (nomark _)) (pv 3) (pe_callB (call_min2 rfl) rfl T.m_min (by decide +kernel) (pa_cons (pv 3) (pa_cons (pe_ix ix_tup (pv 2) pe_int (fun _ _ => rfl)) pa_nil)))) (pa_cons pe_bl pa_nil))))))))), ?_⟩
  cases fr with
  | close g =>
    simp only [encF] at h0
    refine sq_yes (by walk_at "eb") (by decide) fun H1 s1 => ?_
    exact st_ret (by walk_at "et") fun v H' s r => q v H' (s1.trans s) r
  | pat p =>
    rcases p with _ | _ | _ | _ | _ | _ | ⟨p, _ | g⟩ <;>
    (simp only [encF, enc] at h0
     refine sq_yes (by walk_at "eb") (by decide) fun H1 s1 => ?_
     exact st_ret (by walk_at "et") fun v H' s r => q v H' (s1.trans s) r)
  | turn p lo hi m d n =>
    simp only [encF] at h0
    refine sq_no (by walk_at "eb") (by decide) fun H1 s1 => ?_
    refine sq_unp4 (by walk_at "et") fun v1 v2 v3 v4 H2 s2 r1 r2 r3 r4 => ?_
    simp only [enc] at r2
    cases hi with
    | none =>
      simp only [encHi] at r2
      refine st_ret (by walk_at "et") fun v H' s r => q v H' ((s1.trans s2).trans s) ?_
      have e : ((min d lo : Nat) : Int) = if (lo : Int) < (d : Int) then (lo : Int) else (d : Int) := by
        by_cases c : lo < d
        · rw [if_pos (by omega), Nat.min_eq_right (by omega)]
        · rw [if_neg (by omega), Nat.min_eq_left (by omega)]
      simp only [aged, encF, enc, encHi, e]
      exact r
    | some h =>
      simp only [encHi] at r2
      refine st_ret (by walk_at "et") fun v H' s r => q v H' ((s1.trans s2).trans s) ?_
      simp only [aged, encF, enc, encHi]
      exact r
end
end

section

abbrev s_turn_stops : Stmt := topS 33
theorem sc_turn_stops : FnScope ["frame", "left", "marks", "place", "word", "part", "done", "is_new", "going", "staying"] ["frame", "left", "marks", "place"] (C8.fnScope s_turn_stops) := C8.fnScope_by (by decide +kernel)
abbrev s_stops_of : Stmt := topS 34
theorem sc_stops_of : FnScope ["rest", "marks", "place", "frame", "left", "word", "found", "part", "late", "begun", "one"] ["rest", "marks", "place"] (C8.fnScope s_stops_of) := C8.fnScope_by (by decide +kernel)
/-- the turn's own part of stopsF -/
def turnF (n : Nat) (q : Pat) (lo : Nat) (hi : Option Nat) (m : Bool) (d : Nat) (new : Bool) (S : List Frame) (M : Mk) (p : Nat) : Option (List Stop) :=
  if (new && decide (lo < d)) = true then some [] else
    (if goOn hi d = true then stopsF n (.pat q :: .turn q lo hi m (d + 1) true :: S) M p else some []).bind fun a =>
    (if lo ≤ d then stopsF n S M p else some []).bind fun b => some (if m = true then a ++ b else b ++ a)
def F_stops (n : Nat) (ds es : List PyData) : Prop := ∃ (R : List Frame) (M : Mk) (p : Nat) (L : List Stop), ds = [encR R, encM M, .int (p : Nat)] ∧ okR R ∧ M.length ≤ 1000 ∧ stopsF n R M p = some L ∧ L.length ≤ 10000000 ∧ es = L.map encS
def F_turn (n : Nat) (ds es : List PyData) : Prop := ∃ (q : Pat) (lo : Nat) (hi : Option Nat) (m : Bool) (d : Nat) (new : Bool) (S : List Frame) (M : Mk) (p : Nat) (L : List Stop),
  ds = [encF (.turn q lo hi m d new), encR S, encM M, .int (p : Nat)] ∧ okR (.turn q lo hi m d new :: S) ∧ S.length ≤ 499 ∧ M.length ≤ 1000 ∧ turnF n q lo hi m d new S M p = some L ∧ L.length ≤ 10000000 ∧ es = L.map encS
section
variable {P : Program} {w : World} {K : PySem.W.Frag} {mg : Str → Option Value} {base : Heap}
theorem c_turn_stops_of (T : Tx mg) (D : Df K mg "turn_stops" s_turn_stops ["frame", "left", "marks", "place"]) {n k : Nat} (c_stops_of : C8.Cal P w K mg base k "stops_of" (spL 3 (F_stops n)) []) : C8.Cal P w K mg base (k + 1) "turn_stops" (spL 4 (F_turn n)) [] := by
  refine df_mk D sc_turn_stops spL.len fun f cdv A outer s H vs Q E hr h => ?_
  obtain ⟨ds, es, hn, hv, ⟨q, lo, hi, m, d, new, S, M, p, L, rfl, hok, hS, hM, hL, hz, rfl⟩, qq⟩ := h
  obtain _ | @⟨x0, _, _, _, h0, _ | @⟨x1, _, _, _, h1, _ | @⟨x2, _, _, _, h2, _ | @⟨x3, _, _, _, h3, _ | _⟩⟩⟩⟩ := hv
  refine ⟨_, (pss_cons (ps_asg (pv 0) (pg_tup (n := 4) rfl (pgs_cons (pg_name (i := 4) sc_turn_stops.nd rfl (Or.inl rfl)) (pgs_cons (pg_name (i := 5) sc_turn_stops.nd rfl (Or.inl rfl)) (pgs_cons (pg_name (i := 6) sc_turn_stops.nd rfl (Or.inl rfl)) (pgs_cons (pg_name (i := 7) sc_turn_stops.nd rfl (Or.inl rfl)) pgs_nil))))))
    (pss_cons (ps_if (PW.pt (pw_and (pt_val (pv 7)) (pw_and1 (pt_cmpR op_gt (pv 6) (pe_ix ix_tup (pv 5) pe_int (fun _ _ => rfl)) (nomark _))))) (pss_one (ps_ret (pe_lst pa_nil))) pss_nil)
    (pss_cons (ps_par (i := 8) (j := 9) rfl sc_turn_stops.nd rfl rfl (by decide) rfl rfl (pa_cons (pe_lst pa_nil) (pa_cons (pe_lst pa_nil) pa_nil)) rfl)
    (pss_cons (ps_if (PW.pt (pw_or (pt_cmpR op_isN (pe_ix ix_tup (pv 5) pe_int (fun _ _ => rfl)) pe_non (nomark _)) (pw_or1 (pt_cmpR op_lt (pv 6) (pe_ix ix_tup (pv 5) pe_int (fun _ _ => rfl)) (nomark _))))) (pss_one (ps_set (i := 8) sc_turn_stops.nd rfl (Or.inl rfl) (C8.pe_c c_stops_of hr (by omega) rfl (pa_cons (pe_tup (pa_cons (pe_ix ix_tup (pv 5) pe_int (fun _ _ => rfl)) (pa_cons (pe_tup (pa_cons pe_str (pa_cons (pv 5) (pa_cons (pe_op op_add (pv 6) pe_int) (pa_cons pe_bl pa_nil))))) (StX.pa_star (pv 1) pa_nil)))) (pa_cons (pv 2) (pa_cons (pv 3) pa_nil)))))) pss_nil)
    (pss_cons (ps_if (pt_cmpR op_ge (pv 6) (pe_ix ix_tup (pv 5) pe_int (fun _ _ => rfl)) (nomark _)) (pss_one (ps_set (i := 9) sc_turn_stops.nd rfl (Or.inl rfl) (C8.pe_c c_stops_of hr (by omega) rfl (pa_cons (pv 1) (pa_cons (pv 2) (pa_cons (pv 3) pa_nil)))))) pss_nil)
    (pss_one (ps_ret (pe_ifExp (pt_cmpR op_eq (pe_ix ix_tup (pv 5) pe_int (fun _ _ => rfl)) pe_str (nomark _)) (pe_lst (StX.pa_star (pv 8) (StX.pa_star (pv 9) pa_nil))) (pe_lst (StX.pa_star (pv 9) (StX.pa_star (pv 8) pa_nil))))))))))), ?_⟩
  simp only [encF] at h0
  unfold encR at h1
  refine sq_unp4 (by walk_at "et") fun v1 v2 v3 v4 H1 s1 r1 r2 r3 r4 => ?_
  simp only [enc] at r2
  refine sq_if (by walk_at "eb") (fun e H2 s2 => ?_) (fun e H2 s2 => ?_)
  · have e' : (new && decide (lo < d)) = true := by simpa using e
    unfold turnF at hL
    rw [if_pos e'] at hL
    cases hL
    refine st_retL (by walk_at "el") fun v H' s l => qq v H' (by walk_at "sm") ?_
    exact l
  · have e' : ¬ (new && decide (lo < d)) = true := by simpa using e
    unfold turnF at hL
    rw [if_neg e'] at hL
    obtain ⟨a, ha, hL⟩ := Option.bind_eq_some_iff.mp hL
    obtain ⟨b, hb, hL⟩ := Option.bind_eq_some_iff.mp hL
    cases hL
    have za : a.length ≤ 10000000 ∧ b.length ≤ 10000000 ∧ a.length + b.length ≤ 10000000 := by
      cases m <;> simp at hz <;> omega
    refine sq_parN fun p1 p2 H3 s3 l1 l2 => ?_
    refine sq_ifsetL (b := goOn hi d) ?c1 (a.map encS) (.ref p1) (fun e2 => ?_) rfl (fun e2 => ?_) fun v8 H4 s4 l8 => ?_
    · cases hi with
      | none =>
        simp only [encHi] at r2
        exact eb_orT (by walk_at "eb") (by decide)
      | some h =>
        simp only [encHi] at r2
        refine EB.to (eb_orF (by walk_at "eb") (by rfl) (by walk_at "eb")) ?_
        simp [goOn]
    · rw [if_pos e2] at ha
      refine el_call (by walk_at "ea") rfl ⟨.pat q :: .turn q lo hi m (d + 1) true :: S, M, p, a, ?_, ?_, hM, ha, za.1, rfl⟩
      · simp [encR, encF, enc]
      · have h9 : okP 19 q = true := hok _ List.mem_cons_self
        exact .cons (okP_mono 19 q h9) (.cons h9 hok.tail)
    · rw [if_neg (by rw [e2]; exact Bool.false_ne_true)] at ha
      cases ha
      exact l1
    refine sq_ifsetL (by walk_at "eb") (b.map encS) (.ref p2) (fun e2 => ?_) rfl (fun e2 => ?_) fun v9 H5 s5 l9 => ?_
    · rw [if_pos (by simpa using e2)] at hb
      refine el_call (by walk_at "ea") rfl ⟨S, M, p, b, rfl, hok.tail, hM, hb, za.2.1, rfl⟩
    · rw [if_neg (by simpa using e2)] at hb
      cases hb
      exact l2.mono s4
    cases m with
    | true =>
      simp only [encWay, if_true] at r2
      refine st_retL (by walk_at "el") fun v H' s l => qq v H' (by walk_at "sm") ?_
      simpa using l
    | false =>
      simp only [encWay, if_false] at r2
      refine st_retL (by walk_at "el") fun v H' s l => qq v H' (by walk_at "sm") ?_
      simpa using l
end
end

section

theorem catO_app {α β : Type} (f : α → Option (List β)) : ∀ (xs ys : List α) (L : List β), catO f (xs ++ ys) = some L → ∃ a b, catO f xs = some a ∧ catO f ys = some b ∧ L = a ++ b
  | [], ys, L, h => ⟨[], L, rfl, h, rfl⟩
  | x :: xs, ys, L, h => by
    rw [List.cons_append] at h
    unfold catO at h
    obtain ⟨u, hu, h⟩ := Option.bind_eq_some_iff.mp h
    obtain ⟨r, hr, h⟩ := Option.bind_eq_some_iff.mp h
    cases h
    obtain ⟨a, b, ha, hb, rfl⟩ := catO_app f xs ys r hr
    refine ⟨u ++ a, b, ?_, hb, by rw [List.append_assoc]⟩
    unfold catO
    rw [hu, Option.bind_some, ha, Option.bind_some]
theorem catO_one {α β : Type} {f : α → Option (List β)} {x : α} {a : List β} (h : catO f [x] = some a) : f x = some a := by
  unfold catO at h
  obtain ⟨u, hu, h⟩ := Option.bind_eq_some_iff.mp h
  simp only [catO, Option.bind_some, List.append_nil, Option.some.injEq] at h
  rw [← h]; exact hu
/-- the first i, the i-th, the others -/
theorem catO_at {α β : Type} {f : α → Option (List β)} {xs : List α} {L : List β} (h : catO f xs = some L) {i : Nat} {x : α} (hx : xs[i]? = some x) : ∃ a b c, catO f (xs.take i) = some a ∧ f x = some b ∧ catO f (xs.take (i + 1)) = some (a ++ b) ∧ L = a ++ b ++ c := by
  have e : xs = xs.take (i + 1) ++ xs.drop (i + 1) := (List.take_append_drop _ _).symm
  rw [e] at h
  obtain ⟨u, c, hu, hc, rfl⟩ := catO_app f _ _ _ h
  have hu' := hu
  rw [take_succ hx] at hu'
  obtain ⟨a, b, ha, hb, rfl⟩ := catO_app f _ _ _ hu'
  exact ⟨a, b, c, ha, catO_one hb, hu, rfl⟩
theorem stopsF_len {n : Nat} {R : List Frame} {M : Mk} {p : Nat} {L : List Stop} (h : stopsF n R M p = some L) : R.length ≤ 500 := by
  cases n with
  | zero => cases h
  | succ n =>
    unfold stopsF at h
    by_cases c : 500 < R.length
    · rw [if_pos c] at h; cases h
    · omega
section
variable {P : Program} {w : World} {K : PySem.W.Frag} {mg : Str → Option Value} {base : Heap}
theorem encs_get {ps : List Pat} {i : Nat} {d : PyData} (h : (encs ps)[i]? = some d) : ∃ q, ps[i]? = some q ∧ d = enc q := by
  rw [encs_map, List.getElem?_map] at h
  cases e : ps[i]? with
  | none => rw [e] at h; cases h
  | some q =>
    rw [e] at h
    exact ⟨q, rfl, (Option.some.inj h).symm⟩
theorem c_stops_of_step (T : Tx mg) (D : Df K mg "stops_of" s_stops_of ["rest", "marks", "place"]) {n k : Nat} (hk : 1 ≤ k) (c_stops_of : C8.Cal P w K mg base k "stops_of" (spL 3 (F_stops n)) [])
    (c_turn_stops : C8.Cal P w K mg base (k + 1) "turn_stops" (spL 4 (F_turn n)) []) (c_marked : C8.Cal P w K mg base 1 "marked" (spT 3 F_marked) []) (c_aged : C8.Cal P w K mg base 1 "aged" (spT 1 F_aged) []) :
    C8.Cal P w K mg base (k + 2) "stops_of" (spL 3 (F_stops (n + 1))) [] := by
  refine df_mk D sc_stops_of spL.len fun f cdv A outer s H vs Q E hr h => ?_
  obtain ⟨ds, es, hn, hv, ⟨R, M, p, L, rfl, hok, hM, hL, hz, rfl⟩, qq⟩ := h
  obtain _ | @⟨x0, _, _, _, h0, _ | @⟨x1, _, _, _, h1, _ | @⟨x2, _, _, _, h2, _ | _⟩⟩⟩ := hv
  refine ⟨_, (pss_cons (ps_if (pt_cmpR (op_eqD hr.units) (pv 0) (pe_tup pa_nil) (nomark _)) (pss_one (ps_ret (pe_lst (pa_cons (pe_tup (pa_cons (pv 0) (pa_cons (pv 1) pa_nil))) pa_nil)))) pss_nil)
    (pss_cons (ps_par (i := 3) (j := 4) rfl sc_stops_of.nd rfl rfl (by decide) rfl rfl (pa_cons (pe_ix ix_tup (pv 0) pe_int (fun _ _ => rfl)) (pa_cons (pe_slice sl_tupA (pv 0) (po_some pe_int) po_none) pa_nil)) rfl)
    (pss_cons (ps_set (i := 5) sc_stops_of.nd rfl (Or.inl rfl) (pe_ix ix_tup (pv 3) pe_int (fun _ _ => rfl)))
    (pss_cons (ps_if (pt_cmpR op_eq (pv 5) pe_str (nomark _)) (pss_one (ps_ret (pe_lst (pa_cons (pe_tup (pa_cons (pe_tup (pa_cons (pv 3) (StX.pa_star (pe_lc (own := [("one", 10)]) rfl sc_stops_of.nd (pi_tup (pv 4)) (blkOk_by (N := ["rest", "marks", "place", "frame", "left", "word", "found", "part", "late", "begun", "one"]) (sc := C8.fnScope s_stops_of) (by decide +kernel)) (fun _ _ _ _ _ => pg_name (i := 10) sc_stops_of.nd rfl (Or.inl rfl)) (fun _ _ _ _ _ => pts_nil) (fun _ _ _ _ _ => (C8.pe_c c_aged hr (by omega) rfl (pa_cons (pv 10) pa_nil)))) pa_nil))) (pa_cons (pv 1) pa_nil))) pa_nil)))) pss_nil)
    (pss_cons (ps_if (pt_cmpR op_eq (pv 5) pe_str (nomark _)) (pss_one (ps_ret (pe_lst pa_nil))) pss_nil)
    (pss_cons (ps_if (pt_cmpR op_eq (pv 5) pe_str (nomark _)) (pss_one (ps_ret (C8.pe_c c_stops_of hr (by omega) rfl (pa_cons (pv 4) (pa_cons (pv 1) (pa_cons (pv 2) pa_nil)))))) pss_nil)
    (pss_cons (ps_if (pt_cmpR op_eq (pv 5) pe_str (nomark _)) (pss_one (ps_ret (C8.pe_c c_stops_of hr (by omega) rfl (pa_cons (pe_tup (StX.pa_star (pe_slice sl_tupA (pv 3) (po_some pe_int) po_none) (StX.pa_star (pv 4) pa_nil))) (pa_cons (pv 1) (pa_cons (pv 2) pa_nil)))))) pss_nil)
    (pss_cons (ps_if (pt_cmpR op_eq (pv 5) pe_str (nomark _)) (pss_cons (ps_set (i := 6) sc_stops_of.nd rfl (Or.inl rfl) (pe_lst pa_nil))
    (pss_cons (ps_for PassesOwn.never rfl (pi_tup (pe_slice sl_tupA (pv 3) (po_some pe_int) po_none)) (pg_name (i := 7) sc_stops_of.nd rfl (Or.inl rfl)) (pss_one (ps_expr (pe_bm PySem.F.plainAttrs_list PySem.F.slot_list_extend PySem.F.type_list_extend mt_extend (pv 6) (pa_cons (C8.pe_c c_stops_of hr (by omega) rfl (pa_cons (pe_tup (pa_cons (pv 7) (StX.pa_star (pv 4) pa_nil))) (pa_cons (pv 1) (pa_cons (pv 2) pa_nil)))) pa_nil)))))
    (pss_one (ps_ret (pv 6))))) pss_nil)
    (pss_cons (ps_if (pt_cmpR op_eq (pv 5) pe_str (nomark _)) (pss_cons (ps_set (i := 8) sc_stops_of.nd rfl (Or.inl rfl) (C8.pe_c c_marked hr (by omega) rfl (pa_cons (pv 1) (pa_cons (pe_ix ix_tup (pv 3) pe_int (fun _ _ => rfl)) (pa_cons (pe_tup (pa_cons (pv 2) (pa_cons (pe_ix ix_tup (pe_ix ix_tup (pv 1) (pe_ix ix_tup (pv 3) pe_int (fun _ _ => rfl)) (fun _ _ => rfl)) pe_int (fun _ _ => rfl)) pa_nil))) pa_nil)))))
    (pss_one (ps_ret (C8.pe_c c_stops_of hr (by omega) rfl (pa_cons (pe_tup (pa_cons (pe_ix ix_tup (pv 3) pe_int (fun _ _ => rfl)) (pa_cons (pe_tup (pa_cons pe_str (pa_cons (pe_ix ix_tup (pv 3) pe_int (fun _ _ => rfl)) pa_nil))) (StX.pa_star (pv 4) pa_nil)))) (pa_cons (pv 8) (pa_cons (pv 2) pa_nil))))))) pss_nil)
    (pss_cons (ps_if (pt_cmpR op_eq (pv 5) pe_str (nomark _)) (pss_cons (ps_set (i := 9) sc_stops_of.nd rfl (Or.inl rfl) (pe_ix ix_tup (pe_ix ix_tup (pv 1) (pe_ix ix_tup (pv 3) pe_int (fun _ _ => rfl)) (fun _ _ => rfl)) pe_int (fun _ _ => rfl)))
    (pss_one (ps_ret (C8.pe_c c_stops_of hr (by omega) rfl (pa_cons (pv 4) (pa_cons (C8.pe_c c_marked hr (by omega) rfl (pa_cons (pv 1) (pa_cons (pe_ix ix_tup (pv 3) pe_int (fun _ _ => rfl)) (pa_cons (pe_tup (pa_cons (pv 9) (pa_cons (pe_tup (pa_cons (pv 9) (pa_cons (pv 2) pa_nil))) pa_nil))) pa_nil)))) (pa_cons (pv 2) pa_nil))))))) pss_nil)
    (pss_cons (ps_if (pt_cmpR op_eq (pv 5) pe_str (nomark _)) (pss_one (ps_ret (C8.pe_c c_stops_of hr (by omega) rfl (pa_cons (pe_tup (pa_cons (pe_tup (pa_cons pe_str (pa_cons (pv 3) (pa_cons pe_int (pa_cons pe_bl pa_nil))))) (StX.pa_star (pv 4) pa_nil))) (pa_cons (pv 1) (pa_cons (pv 2) pa_nil)))))) pss_nil)
    (pss_one (ps_ret (C8.pe_c c_turn_stops hr (by omega) rfl (pa_cons (pv 3) (pa_cons (pv 4) (pa_cons (pv 1) (pa_cons (pv 2) pa_nil)))))))))))))))))), ?_⟩
  have hsh := (okR_shp hok).shaped
  unfold encR at h0 hsh
  unfold stopsF at hL
  by_cases hlen : 500 < R.length
  · rw [if_pos hlen] at hL; cases hL
  rw [if_neg hlen] at hL
  cases R with
  | nil =>
    cases hL
    refine sq_yes (eb_test (et_eqNil (by walk_at "et") hsh)) rfl fun H1 s1 => ?_
    refine st_retL (by walk_at "el") fun v H' s l => qq v H' (by walk_at "sm") ?_
    exact l
  | cons fr S =>
    simp only [List.map_cons] at h0 hsh
    refine sq_no (eb_test (et_eqNil (by walk_at "et") hsh)) rfl fun H1 s1 => ?_
    refine sq_par (EA.to (es := [encF fr, .tuple (S.map encF)]) (by walk_at "ea") (by rw [cut1])) fun v3 v4 H2 s2 r3 r4 => ?_
    have hS : S.length ≤ 499 := by simp at hlen; omega
    unfold encM at h1
    have hmk : ∀ {g : Nat} {x : PyData × PyData}, M[g]? = some x → atI (M.map fun x => PyData.tuple [x.1, x.2]) (g : Int) = some (.tuple [x.1, x.2]) := fun {g x} e => atI_nat (by rw [List.getElem?_map, e]; rfl)
    cases fr with
    | close g =>
      obtain ⟨x, hx, hL⟩ := Option.bind_eq_some_iff.mp hL
      have hg : g < M.length := (List.getElem?_eq_some_iff.mp hx).1
      have hmx := hmk hx
      simp only [encF] at r3
      refine sq_set (by walk_at "et") fun v5 H3 s3 r5 => ?_
      iterate 6 (refine sq_no (by walk_at "eb") (by decide) fun _ _ => ?_)
      refine sq_yes (by walk_at "eb") (by decide) fun H4 s4 => ?_
      refine sq_set (by walk_at "et") fun v9 H5 s5 r9 => ?_
      refine st_retL (el_call (ea_cons (by walk_at "et") (ea_cons (et_call (by walk_at "ea") rfl ⟨M.map fun x => .tuple [x.1, x.2], g, .tuple [x.1, .tuple [x.1, .int (p : Nat)]], rfl, by rw [List.length_map]; exact hg, by rw [List.length_map]; exact hM, rfl⟩) (ea_cons (by walk_at "et") ea_nil))) rfl
        ⟨S, M.set g (x.1, .tuple [x.1, .int (p : Nat)]), p, L, by simp [encR, encM, List.map_set], hok.tail, by rw [List.length_set]; exact hM, hL, hz, rfl⟩) fun v H' s l => qq v H' (by walk_at "sm") l
    | turn q lo hi m d new =>
      simp only [encF, enc] at r3
      refine sq_set (by walk_at "et") fun v5 H3 s3 r5 => ?_
      iterate 8 (refine sq_no (by walk_at "eb") (by decide) fun _ _ => ?_)
      refine st_retL (el_call (by walk_at "ea") rfl ⟨q, lo, hi, m, d, new, S, M, p, L, by simp [encR, encM, encF, enc], hok, hS, hM, hL, hz, rfl⟩) fun v H' s l => qq v H' (by walk_at "sm") l
    | pat p' =>
      cases p' with
      | none =>
        cases hL
        simp only [encF, enc] at r3
        refine sq_set (by walk_at "et") fun v5 H3 s3 r5 => ?_
        refine sq_no (by walk_at "eb") (by decide) fun _ _ => ?_
        refine sq_yes (by walk_at "eb") (by decide) fun H4 s4 => ?_
        refine st_retL (by walk_at "el") fun v H' s l => qq v H' (by walk_at "sm") ?_
        exact l
      | empty =>
        simp only [encF, enc] at r3
        refine sq_set (by walk_at "et") fun v5 H3 s3 r5 => ?_
        iterate 2 (refine sq_no (by walk_at "eb") (by decide) fun _ _ => ?_)
        refine sq_yes (by walk_at "eb") (by decide) fun H4 s4 => ?_
        refine st_retL (el_call (by walk_at "ea") rfl ⟨S, M, p, L, rfl, hok.tail, hM, hL, hz, rfl⟩) fun v H' s l => qq v H' (by walk_at "sm") l
      | one z =>
        cases hL
        simp only [encF, enc] at r3
        refine sq_set (by walk_at "et") fun v5 H3 s3 r5 => ?_
        refine sq_yes (by walk_at "eb") (by decide) fun H4 s4 => ?_
        refine st_retL (EN.el (en_lst (ea_cons (et_tup (ea_cons (et_tup (ea_cons (by walk_at "et") (ea_starL (es := S.map fun fr => encF (aged fr)) ?c1 ea_nil)) ?c2) (ea_cons (by walk_at "et") ea_nil)) (by walk_at "sz")) ea_nil) (by walk_at "sz"))) fun v H' s l => qq v H' (by walk_at "sm") ?c3
        case c1 =>
          refine EN.el (en_lcT1 S encF (fun fr => encF (aged fr)) (by walk_at "et") (by omega) fun fr hfr v H6 s6 r6 => ?_)
          exact et_call (by walk_at "ea") rfl ⟨fr, rfl, rfl⟩
        case c2 => walk_at "sz"
        case c3 => simpa [encS, encR, encM, encF, enc, Function.comp_def] using l
      | row ps =>
        simp only [encF, enc] at r3
        refine sq_set (by walk_at "et") fun v5 H3 s3 r5 => ?_
        iterate 3 (refine sq_no (by walk_at "eb") (by decide) fun _ _ => ?_)
        refine sq_yes (by walk_at "eb") (by decide) fun H4 s4 => ?_
        have hps : ps.length ≤ 500 := by
          have c := stopsF_len hL
          simp at c; omega
        refine st_retL (el_call (ea_cons (et_tup (ea_star (es := encs ps) (ET.to (by walk_at "et") (by rw [cut1])) (ea_star (by walk_at "et") ea_nil)) ?c2) (by walk_at "ea")) rfl
          ⟨ps.map .pat ++ S, M, p, L, by simp [encR, encM, encF, enc, encs_map, Function.comp_def], (okF_row (hok _ List.mem_cons_self)).app hok.tail, hM, hL, hz, rfl⟩) fun v H' s l => qq v H' (by walk_at "sm") l
        case c2 => simp [encs_map]; omega
      | any ps =>
        simp only [encF, enc] at r3
        refine sq_set (by walk_at "et") fun v5 H3 s3 r5 => ?_
        iterate 4 (refine sq_no (by walk_at "eb") (by decide) fun _ _ => ?_)
        refine sq_yes (by walk_at "eb") (by decide) fun H4 s4 => ?_
        have h1' : Tp H4 x1 (encM M) := by unfold encM; walk_at "tp"
        have h2' : Tp H4 x2 (.int (p : Nat)) := by walk_at "tp"
        have r4' : Tp H4 v4 (.tuple (S.map encF)) := by walk_at "tp"
        have sm : Same H H4 ∧ True := ⟨by walk_at "sm", trivial⟩
        replace hL : catO (fun q => stopsF n (.pat q :: S) M p) ps = some L := hL
        clear h0 h1 h2
        refine sq_setN (en_lst ea_nil (Nat.zero_le _)) fun pl xs H5 hpl s5 hl5 t5 => ?_
        refine sq_forT (ds := encs ps) (ET.to (by walk_at "et") (by rw [cut1])) fun H6 s6 => ⟨fun i σ' H' => Same H4 H' ∧ TLe H6 H' ∧ (∃ (acc : List Stop) (ys : List V), catO (fun q => stopsF n (.pat q :: S) M p) (ps.take i) = some acc ∧ H' pl = some (.lst ys) ∧ TpA H' ys (acc.map encS)) ∧
          ∃ v7, σ' = [some x0, some x1, some x2, some v3, some v4, some v5, some (.ref pl), v7, none, none, none], ⟨s5.trans s6, TLe.refl _, ⟨[], xs, rfl, s6 _ _ hl5, t5.mono (tle s6)⟩, none, rfl⟩, fun i σ' H' h => h.2.1, fun i d v σ' H' hd ⟨i1, i2, ⟨acc, ys, ha, hy, ty⟩, v7, e7⟩ rv => ?_, fun σ' H' ⟨i1, i2, ⟨acc, ys, ha, hy, ty⟩, v7, e7⟩ => ?_⟩
        · subst e7
          obtain ⟨q, hq, rfl⟩ := encs_get hd
          obtain ⟨a, b, c, ha', hb, hab, rfl⟩ := catO_at hL hq
          rw [ha] at ha'
          cases ha'
          have hz' : acc.length + b.length ≤ 10000000 := by simp at hz; omega
          have g1 := h1'.mono (tle i1)
          have g2 := h2'.mono (tle i1)
          have g4 := r4'.mono (tle i1)
          refine st_extend (es := b.map encS) rfl hy ty (el_call (by walk_at "ea") rfl ⟨.pat q :: S, M, p, b, by simp [encR, encF], .cons (okF_any (hok _ List.mem_cons_self) q (List.mem_of_getElem? hq)) hok.tail, hM, hb, by omega, rfl⟩) (by simp; omega) fun xs' H7 s7 hp7 t7 => ?_
          refine ⟨same_mut (i1.trans s7) hpl, (i2.trans (tle s7)).trans (tle_lst hp7), ⟨acc ++ b, xs', hab, upd_same, by rw [List.map_append]; exact t7⟩, some v, rfl⟩
        · subst e7
          have e : (encs ps).length = ps.length := by rw [encs_map, List.length_map]
          rw [e, List.take_length, hL] at ha
          cases ha
          exact ⟨_, rfl, qq _ _ (sm.1.trans i1) ⟨pl, ys, rfl, hy, ty⟩⟩
      | again q lo hi m =>
        simp only [encF] at r3
        have r3' := r3
        simp only [enc] at r3'
        refine sq_set (ET.to (d := .str "again") (et_ix (et_var rfl r3') et_int atI_0) rfl) fun v5 H3 s3 r5 => ?_
        clear r3'
        iterate 7 (refine sq_no (by walk_at "eb") (by decide) fun _ _ => ?_)
        refine sq_yes (by walk_at "eb") (by decide) fun H4 s4 => ?_
        refine st_retL (el_call (by walk_at "ea") rfl ⟨.turn q lo hi m 0 false :: S, M, p, L, by simp [encR, encM, encF], .cons (show okP 19 q = true from hok (.pat (.again q lo hi m)) List.mem_cons_self) hok.tail, hM, hL, hz, rfl⟩) fun v H' s l => qq v H' (by walk_at "sm") l
      | group q g =>
        cases g with
        | none => cases hL
        | some g =>
          obtain ⟨x, hx, hL⟩ := Option.bind_eq_some_iff.mp hL
          have hg : g < M.length := (List.getElem?_eq_some_iff.mp hx).1
          have hmx := hmk hx
          simp only [encF, enc] at r3
          refine sq_set (by walk_at "et") fun v5 H3 s3 r5 => ?_
          iterate 5 (refine sq_no (by walk_at "eb") (by decide) fun _ _ => ?_)
          refine sq_yes (by walk_at "eb") (by decide) fun H4 s4 => ?_
          refine sq_set (et_call (by walk_at "ea") rfl ⟨M.map fun x => .tuple [x.1, x.2], g, .tuple [.int (p : Nat), x.2], rfl, by rw [List.length_map]; exact hg, by rw [List.length_map]; exact hM, rfl⟩) fun v8 H5 s5 r8 => ?_
          refine st_retL (el_call (by walk_at "ea") rfl ⟨.pat q :: .close g :: S, M.set g (.int (p : Nat), x.2), p, L, by simp [encR, encM, encF, List.map_set], .cons (okP_mono 19 q (hok _ List.mem_cons_self)) (.cons rfl hok.tail), by rw [List.length_set]; exact hM, hL, hz, rfl⟩) fun v H' s l => qq v H' (by walk_at "sm") l
end
end

section

/-! Counter: numbers groups in the order in which they begin -/
mutual
def num : Pat → Nat → Pat × Nat
  | .none, c => (.none, c)
  | .empty, c => (.empty, c)
  | .one z, c => (.one z, c)
  | .row ps, c => (.row (nums ps c).1, (nums ps c).2)
  | .any ps, c => (.any (nums ps c).1, (nums ps c).2)
  | .again p lo hi m, c => (.again (num p c).1 lo hi m, (num p c).2)
  | .group p _, c => (.group (num p (c + 1)).1 (some c), (num p (c + 1)).2)
def nums : List Pat → Nat → List Pat × Nat
  | [], c => ([], c)
  | p :: ps, c => ((num p c).1 :: (nums ps (num p c).2).1, (nums ps (num p c).2).2)
end
theorem nums_len : ∀ (ps : List Pat) (c : Nat), (nums ps c).1.length = ps.length
  | [], c => by rw [nums]
  | p :: ps, c => by rw [nums, List.length_cons, List.length_cons, nums_len ps]
theorem nums_app : ∀ (ps qs : List Pat) (c : Nat), nums (ps ++ qs) c = ((nums ps c).1 ++ (nums qs (nums ps c).2).1, (nums qs (nums ps c).2).2)
  | [], qs, c => by simp [nums]
  | p :: ps, qs, c => by
    rw [List.cons_append, nums, nums_app ps qs, nums]
    simp
/-- all but a stays -/
def SmB (a : Addr) (H H' : Hp) : Prop := ∀ b o, b ≠ a → H b = some o → H' b = some o
theorem SmB.refl (a : Addr) (H : Hp) : SmB a H H := fun _ _ _ h => h
theorem SmB.trans {a : Addr} {H H1 H2 : Hp} (x : SmB a H H1) (y : SmB a H1 H2) : SmB a H H2 := fun b o n h => y b o n (x b o n h)
theorem smb {a : Addr} {H H' : Hp} (s : Same H H') : SmB a H H' := fun b o _ h => s b o h
theorem SmB.t {a : Addr} {H H' : Hp} (s : SmB a H H') (n : ∀ xs, H a ≠ some (.tup xs)) : TLe H H' := fun b xs h => s b _ (fun e => n xs (e ▸ h)) h
theorem smb_upd (a : Addr) (H : Hp) (o : HO) : SmB a H (upd H a o) := fun b u n h => by rw [upd_ne n]; exact h
structure CC (K : PySem.W.Frag) (C : Addr) : Prop where
  cl : Cls K C
  nm : NoAttr K C "many"
structure DfM (K : PySem.W.Frag) (C : Addr) (m qual : Str) (st : Stmt) (ps : List Str) : Prop where
  ex : ∃ (f : Addr) (fd : FuncData), Meth K C m f ∧ C8.Fun K m qual st f fd ∧ Binds K fd ps []
theorem dfm_mk {K : PySem.W.Frag} {C : Addr} {m qual : Str} {st : Stmt} {ps N : List Str} {P : Program} {w : World} {mg : Str → Option Value} {base : Heap} {k : Nat} {sp : Sp} (T : CC K C) (D : DfM K C m qual st ps) (S : FnScope N ps (C8.fnScope st)) (len : ∀ vs H Q E, sp vs H Q E → vs.length = ps.length)
    (hbody : ∀ (f : Addr) (cdv : Value) (A : Around) (outer : List Env) (s : Shared) (H : Hp) (vs : List V) (Q : VK) (E : XK), Room k (A.deeper (PyProof.Rows.envOfC qual (C8.fnScope st) s.heap.objs.size f cdv)) → sp vs H Q E →
      ∃ t, PSs (cxOf C8.CX0 P w K mg base N qual (C8.fnScope st) f cdv A outer s H E).nox (C8.fnBody st) t ∧ t { nx := fun _ H' => Q .non H', rt := Q } (start N vs) H) : C8.Met P w K mg base (k + 1) C m sp [] := by
  obtain ⟨f, fd, me, F, b⟩ := D.ex
  exact C8.met0 T.cl me F b S len (hbody f)
theorem met_none {K : PySem.W.Frag} {C : Addr} {m qual : Str} {st : Stmt} {ps : List Str} {P : Program} {w : World} {mg : Str → Option Value} {base : Heap} {k : Nat} {sp : Sp} (T : CC K C) (D : DfM K C m qual st ps) (no : ∀ vs H Q E, ¬ sp vs H Q E) : C8.Met P w K mg base k C m sp [] := by
  obtain ⟨f, fd, me, F, b⟩ := D.ex
  exact ⟨f, fd, ps, [], T.cl, me, ⟨fun vs H Q E h => absurd h (no vs H Q E), fun A outer s H args us vs Q E _ _ _ _ h => absurd h (no vs H Q E)⟩, b, .nil⟩
theorem cal_none {K : PySem.W.Frag} {x : Str} {st : Stmt} {ps : List Str} {P : Program} {w : World} {mg : Str → Option Value} {base : Heap} {k : Nat} {sp : Sp} (D : Df K mg x st ps) (no : ∀ vs H Q E, ¬ sp vs H Q E) : C8.Cal P w K mg base k x sp [] := by
  obtain ⟨f, fd, d, b⟩ := D.ex
  exact ⟨f, fd, ps, [], ⟨fun vs H Q E h => absurd h (no vs H Q E), fun A outer s H args us vs Q E _ _ _ _ h => absurd h (no vs H Q E)⟩, d.mgf, d.kp, b, .nil⟩
def Cnt (C dx : Addr) (c : Nat) : HO := .ins C dx [("many", .int (c : Nat))]
def sp_num (C : Addr) (k : Nat) : Sp := fun vs H Q _ => ∃ (a dx : Addr) (v : V) (c : Nat) (p : Pat), vs = [.ref a, v] ∧ H a = some (Cnt C dx c) ∧ Tp H v (enc p) ∧ okP k p = true ∧
  ∀ v' H', SmB a H H' → H' a = some (Cnt C dx (num p c).2) → Tp H' v' (enc (num p c).1) → Q v' H'
abbrev s_numbered : Stmt := inClass (topS 27) 1
theorem sc_numbered : FnScope ["self", "pattern", "number", "part"] ["self", "pattern"] (C8.fnScope s_numbered) := C8.fnScope_by (by decide +kernel)
section
variable {P : Program} {w : World} {K : PySem.W.Frag} {mg : Str → Option Value} {base : Heap} {C : Addr}
theorem m_numbered_step (T : Tx mg) (TC : CC K C) (D : DfM K C "numbered" "Counter.numbered" s_numbered ["self", "pattern"]) {k j : Nat} (M_numbered : C8.Met P w K mg base j C "numbered" (sp_num C k) []) : C8.Met P w K mg base (j + 1) C "numbered" (sp_num C (k + 1)) [] := by
  refine dfm_mk TC D sc_numbered (fun vs H Q E h => by obtain ⟨a, dx, v, c, p, rfl, _⟩ := h; rfl) fun f cdv A outer s H vs Q E hr h => ?_
  obtain ⟨a, dx, v, c, p, rfl, ha, hv, hok, qq⟩ := h
  refine ⟨_, (pss_cons (ps_if (pt_cmpR op_eq (pe_ix ix_tup (pv 1) pe_int (fun _ _ => rfl)) pe_str (nomark _)) (pss_cons (ps_fldaug (pv 0) pe_int in_add)
    (pss_cons (ps_set (i := 2) sc_numbered.nd rfl (Or.inl rfl) (pe_op op_sub (pe_fld (pv 0) rfl) pe_int))
    (pss_one (ps_ret (pe_tup (pa_cons pe_str (pa_cons (C8.pe_mt M_numbered hr (by omega) (pv 0) (pa_cons (pe_ix ix_tup (pv 1) pe_int (fun _ _ => rfl)) pa_nil)) (pa_cons (pv 2) pa_nil)))))))) pss_nil)
    (pss_cons (ps_if (pt_cmpR op_eq (pe_ix ix_tup (pv 1) pe_int (fun _ _ => rfl)) pe_str (nomark _)) (pss_one (ps_ret (pe_tup (pa_cons pe_str (pa_cons (C8.pe_mt M_numbered hr (by omega) (pv 0) (pa_cons (pe_ix ix_tup (pv 1) pe_int (fun _ _ => rfl)) pa_nil)) (StX.pa_star (pe_slice sl_tupA (pv 1) (po_some pe_int) po_none) pa_nil)))))) pss_nil)
    (pss_cons (ps_if (pt_cmpR op_in_seq (pe_ix ix_tup (pv 1) pe_int (fun _ _ => rfl)) (pe_tup (pa_cons pe_str (pa_cons pe_str pa_nil))) rfl) (pss_one (ps_ret (pe_tup (pa_cons (pe_ix ix_tup (pv 1) pe_int (fun _ _ => rfl)) (StX.pa_star (pe_lc (own := [("part", 3)]) rfl sc_numbered.nd (pi_tup (pe_slice sl_tupA (pv 1) (po_some pe_int) po_none)) (blkOk_by (N := ["self", "pattern", "number", "part"]) (sc := C8.fnScope s_numbered) (by decide +kernel)) (fun _ _ _ _ _ => pg_name (i := 3) sc_numbered.nd rfl (Or.inl rfl)) (fun _ _ _ _ _ => pts_nil) (fun _ _ _ _ _ => (C8.pe_mt M_numbered hr (by omega) (pv 0) (pa_cons (pv 3) pa_nil)))) pa_nil))))) pss_nil)
    (pss_one (ps_ret (pv 1)))))), ?_⟩
  cases p with
  | group p g =>
    have hv' : ∃ r, Tp H v (.tuple (.str "group" :: enc p :: r)) := by
      cases g
      · exact ⟨_, by simpa [enc] using hv⟩
      · exact ⟨_, by simpa [enc] using hv⟩
    clear hv
    obtain ⟨r, hv⟩ := hv'
    refine sq_yes (by walk_at "eb") (by decide) fun H1 s1 => ?_
    have ha1 := s1 _ _ ha
    refine ⟨_, rfl, a, C, dx, _, _, rfl, ha1, TC.cl, TC.nm, rfl, (c : Int), 1, rfl, rfl, dx, _, ha1, (by show 1 < 1000; decide), ?_⟩
    have e1 : HO.ins C dx (putF "many" (.int ((c : Int) + 1)) [("many", .int (c : Nat))]) = Cnt C dx (c + 1) := rfl
    rw [e1]
    have hb1 : upd H1 a (Cnt C dx (c + 1)) a = some (Cnt C dx (c + 1)) := upd_same
    have sb1 : SmB a H (upd H1 a (Cnt C dx (c + 1))) := (smb s1).trans (smb_upd a H1 _)
    have hv1 := hv.mono (sb1.t fun xs q => by rw [ha] at q; cases q)
    revert hb1 sb1 hv1
    generalize upd H1 a (Cnt C dx (c + 1)) = H2
    intro hb1 sb1 hv1
    clear hv
    refine ⟨_, rfl, a, C, dx, _, _, rfl, hb1, TC.cl, TC.nm, rfl, ((c + 1 : Nat) : Int), 1, rfl, rfl, ?_⟩
    have e2 : ((c + 1 : Nat) : Int) - 1 = (c : Nat) := by omega
    have ti : ∀ H, Tp H (.int (((c + 1 : Nat) : Int) - 1)) (.int (c : Nat)) := fun H => by rw [e2]; exact .int _
    refine ⟨_, rfl, a, dx, _, rfl, hb1, rfl, ?_⟩
    refine EA.use (ea_cons (et_ix (et_var rfl hv1) et_int atI_1) ea_nil) fun vs H3 s3 r3 => ?_
    obtain _ | ⟨q1, _ | _⟩ := r3
    refine ⟨a, dx, _, c + 1, p, rfl, s3 _ _ hb1, q1, hok, fun v' H4 s4 h4 r4 => ⟨_, rfl, (by show 3 ≤ sizeLine; decide), fun z hz => ?_⟩⟩
    refine qq (.ref z) _ ((sb1.trans (smb s3)).trans (s4.trans (smb (same_new hz _)))) ?_ ?_
    · rw [upd_ne (ne_of_none h4 hz)]
      simp only [num]; exact h4
    · simp only [num, enc]
      exact .tup upd_same (.cons (.str _) (.cons (r4.mono (tle (same_new hz _))) (.cons (ti _) .nil)))
  | again p lo hi m =>
    simp only [enc] at hv
    refine sq_no (by walk_at "eb") (by decide) fun H1 s1 => ?_
    refine sq_yes (by walk_at "eb") (by decide) fun H2 s2 => ?_
    have hb1 := s2 _ _ (s1 _ _ ha)
    have hv1 := hv.mono (tle (s1.trans s2))
    refine ⟨_, rfl, a, dx, _, rfl, hb1, rfl, ?_⟩
    refine EA.use (ea_cons (et_ix (et_var rfl hv1) et_int atI_1) ea_nil) fun vs H3 s3 r3 => ?_
    obtain _ | ⟨q1, _ | _⟩ := r3
    refine ⟨a, dx, _, c, p, rfl, s3 _ _ hb1, q1, hok, fun v' H4 s4 h4 r4 => ?_⟩
    have hv4 := (hv1.mono (tle s3)).mono (s4.t fun xs q => by rw [s3 _ _ hb1] at q; cases q)
    refine EA.use (ea_star (ET.to (e := .tuple [.int (lo : Nat), encHi hi, encWay m]) (et_sl (et_var rfl hv4) (eo_some et_int) eo_none) (by rw [cut2])) ea_nil) fun vs H5 s5 r5 => ⟨(by rw [List.length_cons, List.length_cons, r5.length]; exact sz_ok (by simp)), fun z hz => ?_⟩
    refine qq (.ref z) _ ((smb ((s1.trans s2).trans s3)).trans (s4.trans (smb (s5.trans (same_new hz _))))) ?_ ?_
    · rw [upd_ne (ne_of_none (s5 _ _ h4) hz)]
      simp only [num]; exact s5 _ _ h4
    · simp only [num, enc]
      exact .tup upd_same (.cons (.str _) (.cons (r4.mono (tle (s5.trans (same_new hz _)))) (r5.mono (tle (same_new hz _)))))
  | row ps =>
    simp only [enc] at hv
    iterate 2 (refine sq_no (by walk_at "eb") (by decide) fun _ _ => ?_)
    refine sq_yes (by walk_at "eb") (by decide) fun H2 s2 => ?_
    have sm : Same H H2 ∧ True := ⟨by walk_at "sm", trivial⟩
    have hv1 := hv.mono (tle sm.1)
    have ha1 := sm.1 _ _ ha
    refine ET.use (et_ix (et_var rfl hv1) et_int atI_0) fun v0 H3 s3 r3 => ?_
    refine ET.use (ET.to (e := .tuple (encs ps)) (et_sl (et_var rfl (hv1.mono (tle s3))) (eo_some et_int) eo_none) (by rw [cut1])) fun v1 H4 s4 r4 => ?_
    obtain ⟨pt, xs, rfl, hpt, rxs⟩ := r4.tuple_inv
    refine ⟨pt, rfl, ⟨xs, SqT.of hpt⟩, fun D hD => ?_⟩
    have ha4 : H4 a = some (Cnt C dx c) := s4 _ _ (s3 _ _ ha1)
    have nta : ∀ ys, H4 a ≠ some (.tup ys) := fun ys e => by rw [ha4] at e; cases e
    have naD : a ≠ D := ne_of_none ha4 hD
    have elen : (encs ps).length = ps.length := by rw [encs_map, List.length_map]
    simp only [okP, Bool.and_eq_true, List.all_eq_true, decide_eq_true_eq] at hok
    have hlen := hok.1
    replace hok := hok.2
    refine lc_tup (K := K) (a := pt) (xs := xs) (fun i Hc => SmB a H4 Hc ∧ Hc a = some (Cnt C dx (nums (ps.take i) c).2) ∧ ∃ acc, Hc D = some (.lst acc) ∧ TpA Hc acc (encs (nums (ps.take i) c).1))
      ⟨smb (same_new hD _), by rw [upd_ne naD, List.take_zero, nums]; exact ha4, [], upd_same, by rw [List.take_zero, nums, encs]; exact .nil⟩ (fun i Hc _ h => SqT.of (h.1.t nta _ _ hpt)) (fun i x Hc hx ⟨i1, i2, acc, hacc, ra⟩ => ?_) (fun Hc ⟨i1, i2, acc, hacc, ra⟩ => ?_)
    · obtain ⟨d, hd, rd⟩ := (rxs.mono (i1.t nta)).get hx
      obtain ⟨q, hq, rfl⟩ := encs_get hd
      refine ⟨rfl, _, rfl, a, dx, _, rfl, i2, rfl, _, rfl, a, dx, x, _, q, rfl, i2, rd, hok q (List.mem_of_getElem? hq), fun v' H5 s5 h5 r5 => ?_⟩
      have hD5 : H5 D = some (.lst acc) := s5 D _ naD.symm hacc
      have nta5 : ∀ ys, Hc a ≠ some (.tup ys) := fun ys e => by rw [i2] at e; cases e
      have e1 : nums (ps.take (i + 1)) c = ((nums (ps.take i) c).1 ++ [(num q (nums (ps.take i) c).2).1], (num q (nums (ps.take i) c).2).2) := by
        rw [take_succ hq, nums_app, nums, nums]
      refine ⟨acc, hD5, sz_lt ?_, fun b o n h => by rw [upd_ne (ne_of_none h hD)]; exact s5 b o n (i1 b o n h), ?_, acc ++ [v'], upd_same, ?_⟩
      · rw [ra.length, encs_map, List.length_map, nums_len, List.length_take]
        omega
      · rw [upd_ne naD, e1]; exact h5
      · rw [e1, encs_map, List.map_append, ← encs_map]
        exact ((ra.mono (s5.t nta5)).mono (tle_lst hD5)).append (.cons (r5.mono (tle_lst hD5)) .nil)
    · rw [rxs.length, elen, List.take_length] at i2 ra
      refine ⟨D, acc, rfl, .inr (SqL.of hacc), (by rw [List.length_cons, List.length_append, ra.length, encs_map, List.length_map, nums_len]; exact sz_ok (by simp; omega)), fun z hz => ?_⟩
      refine qq (.ref z) _ ((smb ((sm.1.trans s3).trans s4)).trans (i1.trans (smb (same_new hz _)))) ?_ ?_
      · rw [upd_ne (ne_of_none i2 hz)]
        simp only [num]; exact i2
      · simp only [num, enc]
        have tz : TLe Hc (upd Hc z (.tup (v0 :: (acc ++ [])))) := tle (same_new hz _)
        refine .tup upd_same (.cons (((r3.mono (tle s4)).mono (i1.t nta)).mono tz) ?_)
        rw [List.append_nil]
        rw [List.append_nil] at tz
        exact ra.mono tz
  | any ps =>
    simp only [enc] at hv
    iterate 2 (refine sq_no (by walk_at "eb") (by decide) fun _ _ => ?_)
    refine sq_yes (by walk_at "eb") (by decide) fun H2 s2 => ?_
    have sm : Same H H2 ∧ True := ⟨by walk_at "sm", trivial⟩
    have hv1 := hv.mono (tle sm.1)
    have ha1 := sm.1 _ _ ha
    refine ET.use (et_ix (et_var rfl hv1) et_int atI_0) fun v0 H3 s3 r3 => ?_
    refine ET.use (ET.to (e := .tuple (encs ps)) (et_sl (et_var rfl (hv1.mono (tle s3))) (eo_some et_int) eo_none) (by rw [cut1])) fun v1 H4 s4 r4 => ?_
    obtain ⟨pt, xs, rfl, hpt, rxs⟩ := r4.tuple_inv
    refine ⟨pt, rfl, ⟨xs, SqT.of hpt⟩, fun D hD => ?_⟩
    have ha4 : H4 a = some (Cnt C dx c) := s4 _ _ (s3 _ _ ha1)
    have nta : ∀ ys, H4 a ≠ some (.tup ys) := fun ys e => by rw [ha4] at e; cases e
    have naD : a ≠ D := ne_of_none ha4 hD
    have elen : (encs ps).length = ps.length := by rw [encs_map, List.length_map]
    simp only [okP, Bool.and_eq_true, List.all_eq_true, decide_eq_true_eq] at hok
    have hlen := hok.1
    replace hok := hok.2
    refine lc_tup (K := K) (a := pt) (xs := xs) (fun i Hc => SmB a H4 Hc ∧ Hc a = some (Cnt C dx (nums (ps.take i) c).2) ∧ ∃ acc, Hc D = some (.lst acc) ∧ TpA Hc acc (encs (nums (ps.take i) c).1))
      ⟨smb (same_new hD _), by rw [upd_ne naD, List.take_zero, nums]; exact ha4, [], upd_same, by rw [List.take_zero, nums, encs]; exact .nil⟩ (fun i Hc _ h => SqT.of (h.1.t nta _ _ hpt)) (fun i x Hc hx ⟨i1, i2, acc, hacc, ra⟩ => ?_) (fun Hc ⟨i1, i2, acc, hacc, ra⟩ => ?_)
    · obtain ⟨d, hd, rd⟩ := (rxs.mono (i1.t nta)).get hx
      obtain ⟨q, hq, rfl⟩ := encs_get hd
      refine ⟨rfl, _, rfl, a, dx, _, rfl, i2, rfl, _, rfl, a, dx, x, _, q, rfl, i2, rd, hok q (List.mem_of_getElem? hq), fun v' H5 s5 h5 r5 => ?_⟩
      have hD5 : H5 D = some (.lst acc) := s5 D _ naD.symm hacc
      have nta5 : ∀ ys, Hc a ≠ some (.tup ys) := fun ys e => by rw [i2] at e; cases e
      have e1 : nums (ps.take (i + 1)) c = ((nums (ps.take i) c).1 ++ [(num q (nums (ps.take i) c).2).1], (num q (nums (ps.take i) c).2).2) := by
        rw [take_succ hq, nums_app, nums, nums]
      refine ⟨acc, hD5, sz_lt ?_, fun b o n h => by rw [upd_ne (ne_of_none h hD)]; exact s5 b o n (i1 b o n h), ?_, acc ++ [v'], upd_same, ?_⟩
      · rw [ra.length, encs_map, List.length_map, nums_len, List.length_take]
        omega
      · rw [upd_ne naD, e1]; exact h5
      · rw [e1, encs_map, List.map_append, ← encs_map]
        exact ((ra.mono (s5.t nta5)).mono (tle_lst hD5)).append (.cons (r5.mono (tle_lst hD5)) .nil)
    · rw [rxs.length, elen, List.take_length] at i2 ra
      refine ⟨D, acc, rfl, .inr (SqL.of hacc), (by rw [List.length_cons, List.length_append, ra.length, encs_map, List.length_map, nums_len]; exact sz_ok (by simp; omega)), fun z hz => ?_⟩
      refine qq (.ref z) _ ((smb ((sm.1.trans s3).trans s4)).trans (i1.trans (smb (same_new hz _)))) ?_ ?_
      · rw [upd_ne (ne_of_none i2 hz)]
        simp only [num]; exact i2
      · simp only [num, enc]
        have tz : TLe Hc (upd Hc z (.tup (v0 :: (acc ++ [])))) := tle (same_new hz _)
        refine .tup upd_same (.cons (((r3.mono (tle s4)).mono (i1.t nta)).mono tz) ?_)
        rw [List.append_nil]
        rw [List.append_nil] at tz
        exact ra.mono tz
  | none =>
    simp only [enc] at hv
    iterate 3 (refine sq_no (by walk_at "eb") (by decide) fun _ _ => ?_)
    refine st_ret (by walk_at "et") fun v H' s r => qq v H' (smb (by walk_at "sm")) ?_ r
    exact (by walk_at "sm" : Same H H') _ _ ha
  | empty =>
    simp only [enc] at hv
    iterate 3 (refine sq_no (by walk_at "eb") (by decide) fun _ _ => ?_)
    refine st_ret (by walk_at "et") fun v H' s r => qq v H' (smb (by walk_at "sm")) ?_ r
    exact (by walk_at "sm" : Same H H') _ _ ha
  | one z =>
    simp only [enc] at hv
    iterate 3 (refine sq_no (by walk_at "eb") (by decide) fun _ _ => ?_)
    refine st_ret (by walk_at "et") fun v H' s r => qq v H' (smb (by walk_at "sm")) ?_ r
    exact (by walk_at "sm" : Same H H') _ _ ha
end
theorem okP_zero {p : Pat} : okP 0 p ≠ true := by simp [okP]
theorem m_numbered_all {P : Program} {w : World} {K : PySem.W.Frag} {mg : Str → Option Value} {base : Heap} {C : Addr} (T : Tx mg) (TC : CC K C) (D : DfM K C "numbered" "Counter.numbered" s_numbered ["self", "pattern"]) : ∀ k, C8.Met P w K mg base k C "numbered" (sp_num C k) []
  | 0 => met_none TC D fun vs H Q E h => by
    obtain ⟨a, dx, v, c, p, _, _, _, hok, _⟩ := h
    exact okP_zero hok
  | k + 1 => m_numbered_step T TC D (m_numbered_all T TC D k)
end

section
open PySem.Spec PyProof.Rows
set_option maxHeartbeats 0
/-! the head: what the top leaves -/
def hn0 : List PySem.Str := ["WayError", "BadSize", "BadPattern", "BadText", "TooMany", "LETTERS", "MOST_PARTS", "MOST_WEIGHT", "MOST_TIMES", "is_number", "is_size", "check_size", "is_text", "check_text", "is_word_of", "is_letters", "is_again", "is_form", "inner_of", "parts_of"]
def hn1 : List PySem.Str := ["weight_of", "is_pattern", "check_pattern", "MOST_STOPS", "Counter", "groups_of", "first_rest", "no_marks", "marked", "aged", "turn_stops", "stops_of", "stops_behind", "first_stops", "without_later", "next_stops", "spans_of", "check_for", "few", "all_stops"]
def hn2 : List PySem.Str := ["stops", "first_of", "first_way", "ways", "_law_cell_at", "_law_draw", "_law_number", "_law_next", "_law_pick", "_law_letters", "_law_many", "_law_grown", "_law_inner", "_law_parts", "_law_weight", "_law_pattern", "_law_text", "_law_numbered", "_law_groups", "_law_settled"]
def hn3 : List PySem.Str := ["_law_with", "_law_stops_of", "_law_first_stops", "_law_next_stops", "_law_all_stops", "_law_gone", "_law_gone_all", "_law_gone_again", "_law_all_ways", "_law_many_told", "_law_just_right"]
def hNames : List PySem.Str := hn0 ++ hn1 ++ hn2 ++ hn3
def dfd (x : PySem.Str) (i : Nat) : He.DefD := ⟨(x, none), x, x, C8.fnArgs (topS i), C8.fnBody (topS i), C8.fnScope (topS i), [], []⟩
def dfm (m q : PySem.Str) (j : Nat) : He.DefD := ⟨("Counter", some m), m, q, C8.fnArgs (inClass (topS 27) j), C8.fnBody (inClass (topS 27) j), C8.fnScope (inClass (topS 27) j), [], []⟩
def hd0 : List He.DefD := [dfd "is_number" 11, dfd "is_size" 12, dfd "check_size" 13, dfd "is_text" 14, dfd "check_text" 15, dfd "is_word_of" 16, dfd "is_letters" 17, dfd "is_again" 18, dfd "is_form" 19, dfd "inner_of" 20, dfd "parts_of" 21, dfd "weight_of" 22, dfd "is_pattern" 23, dfd "check_pattern" 24, dfd "groups_of" 28, dfd "first_rest" 29, dfd "no_marks" 30, dfd "marked" 31, dfd "aged" 32, dfd "turn_stops" 33]
def hd1 : List He.DefD := [dfd "stops_of" 34, dfd "stops_behind" 35, dfd "first_stops" 36, dfd "without_later" 37, dfd "next_stops" 38, dfd "spans_of" 39, dfd "check_for" 40, dfd "few" 41, dfd "all_stops" 42, dfd "stops" 43, dfd "first_of" 44, dfd "first_way" 45, dfd "ways" 46, dfd "_law_cell_at" 48, dfd "_law_draw" 49, dfd "_law_number" 50, dfd "_law_next" 51, dfd "_law_pick" 52, dfd "_law_letters" 53, dfd "_law_many" 54]
def hd2 : List He.DefD := [dfd "_law_grown" 55, dfd "_law_inner" 56, dfd "_law_parts" 57, dfd "_law_weight" 58, dfd "_law_pattern" 59, dfd "_law_text" 60, dfd "_law_numbered" 61, dfd "_law_groups" 62, dfd "_law_settled" 63, dfd "_law_with" 64, dfd "_law_stops_of" 65, dfd "_law_first_stops" 66, dfd "_law_next_stops" 67, dfd "_law_all_stops" 68, dfd "_law_gone" 69, dfd "_law_gone_all" 70, dfd "_law_gone_again" 71, dfd "_law_all_ways" 72, dfd "_law_many_told" 73, dfd "_law_just_right" 74]
def hd3 : List He.DefD := [dfd "law" 75]
def hDefs : List He.DefD := hd0 ++ hd1 ++ hd2 ++ hd3 ++ [dfm "__init__" "Counter.__init__" 0, dfm "numbered" "Counter.numbered" 1]
def hf0 : List He.Fa := [.free "min", .free "max", .free "len", .free "isinstance", .free "int", .free "bool", .free "str", .free "tuple", .free "list", .free "all", .free "sum", .free "zip", .free "range", .free "enumerate", .str "LETTERS" "abc", .int "MOST_PARTS" 12, .int "MOST_WEIGHT" 8, .int "MOST_TIMES" 3, .int "MOST_STOPS" 300, .glo "Counter", .cls "Counter", .noat "Counter" "many", .meth "Counter" "numbered", .mkr "Counter", .glo "TooMany", .exc "TooMany", .exm "TooMany" "TooMany" true]
def hg0 : List He.Fa := [.glo "is_number", .glo "is_size", .glo "check_size", .glo "is_text", .glo "check_text", .glo "is_word_of", .glo "is_letters", .glo "is_again", .glo "is_form", .glo "inner_of", .glo "parts_of", .glo "weight_of", .glo "is_pattern", .glo "check_pattern", .glo "groups_of", .glo "first_rest", .glo "no_marks", .glo "marked", .glo "aged", .glo "turn_stops"]
def hg1 : List He.Fa := [.glo "stops_of", .glo "stops_behind", .glo "first_stops", .glo "without_later", .glo "next_stops", .glo "spans_of", .glo "check_for", .glo "few", .glo "all_stops", .glo "stops", .glo "first_of", .glo "first_way", .glo "ways", .glo "_law_cell_at", .glo "_law_draw", .glo "_law_number", .glo "_law_next", .glo "_law_pick", .glo "_law_letters", .glo "_law_many"]
def hg2 : List He.Fa := [.glo "_law_grown", .glo "_law_inner", .glo "_law_parts", .glo "_law_weight", .glo "_law_pattern", .glo "_law_text", .glo "_law_numbered", .glo "_law_groups", .glo "_law_settled", .glo "_law_with", .glo "_law_stops_of", .glo "_law_first_stops", .glo "_law_next_stops", .glo "_law_all_stops", .glo "_law_gone", .glo "_law_gone_all", .glo "_law_gone_again", .glo "_law_all_ways", .glo "_law_many_told", .glo "_law_just_right"]
def hg3 : List He.Fa := [.glo "law"]
def hFacts : List He.Fa := hf0 ++ hg0 ++ hg1 ++ hg2 ++ hg3
def hEx (K : PySem.W.Frag) : Bool := decide ((He.cT K ("law", none)).2 ≠ (He.cT K ("_law_just_right", none)).2)
def hTabs : List He.Defn := [("_law_just_right", none), ("law", none)]
abbrev HR : PySem.W.OpenRow := PySem.W.OpenLaw.row PySem.Challenge.rw_patternways_k36_whole_ways
abbrev hView : Program := PySem.W.view HR.prog [75]
abbrev hHook : PySem.W.Hook := He.hookX 4 hFacts hDefs [] hTabs hEx
def hOb (s : PySem.W.SharedT) : hHook.α := He.obsX 4 hFacts hDefs [] hTabs hEx (HandSHeadRun.getT s)
theorem hOb_eq (s : PySem.W.SharedT) : hOb s = hHook.obs s.abs := He.obsX_eq (HandSHeadRun.getT_eq s)
theorem hRun (w : World) : HandSHeadRun.RunEq HR hView hHook hOb 20000 hNames w := by
  intro os
  kernel_rfl
section
open PySem.W PySem.Calls
abbrev hLaw : OpenLaw := PySem.Challenge.rw_patternways_k36_whole_ways
abbrev hDef : DefRec := HandSHeadRun.topDef HR.prog 75
theorem h_said : hLaw.wellSaid = true := by kernel_rfl
theorem h_row : HR.wellSaid = true := by
  have h := h_said
  unfold OpenLaw.wellSaid at h
  simp only [Bool.and_eq_true] at h
  obtain ⟨⟨⟨⟨⟨⟨⟨⟨⟨⟨⟨⟨⟨⟨⟨⟨⟨⟨h, _⟩, _⟩, _⟩, _⟩, _⟩, _⟩, _⟩, _⟩, _⟩, _⟩, _⟩, _⟩, _⟩, _⟩, _⟩, _⟩, _⟩, _⟩ := h
  exact h
theorem h_bare : HR.prog.bare := ⟨rfl, rfl, rfl, rfl, rfl, by decide +kernel⟩
theorem h_open : opening HR.prog = plainProg HR.prog.main.scope.names := by kernel_rfl
theorem h_fence : ∀ s, fenceModules? HR.prog s = some s := fun s => by kernel_rfl
theorem h_def : defOf hView HR.name = some (hDef, []) := by kernel_rfl
theorem h_the : HR.prog.theDef HR.name = some (hDef.params, hDef.body, hDef.scope) := by kernel_rfl
theorem h_kw : kwWritten? hDef.params.kwonlyargs hDef.params.kw_defaults = some [] := by kernel_rfl
theorem h_ok : (chainsOk hView && opensWell HR.prog && (frees HR.toRowW && HR.within.isEmpty)) = true := by decide +kernel
theorem h_prom : HR.toRowW.promised := by w_witness2
theorem h_name : hDef.name = ("law" : PySem.Str) := by kernel_rfl
theorem h_dfl : hDef.params.defaults = [] := by kernel_rfl
end
end

section
open PySem.Spec PyProof.Rows
/-! more rules of the layer: tuple * int of any number of turns, text * int, enumerate and zip over texts -/
theorem tuple_mul0 (l : Addr) (items : Array Value) (n : Nat) (dd : Option Addr) (sl : Array (Option Value)) (u : Tok) (c1 : (items.isEmpty || ((0 : Int) == 1)) = false) :
    Meets (Builtin.«tuple.__mul__» ⟨[.ref l, .int 0 u], []⟩) (fun _ R s => s.heap.get? l = some { cls := .type "tuple", dict := dd, data := .seq items n, slots := sl } ∧
      R (.ok (.ret (Value.ref s.heap.objs.size))) { s with heap := s.heap.push { cls := Value.type "tuple", data := Data.seq #[] }, toks := s.toks }) :=
  .of_wp fun prog w A R s h => by
    obtain ⟨hp, g, d, tk, os⟩ := s
    obtain ⟨hl, h⟩ := h
    have f1 := AutoSeq1.idx_int
    wp_walk using wpAny_loadPart' hl
    repeat (first
      | (refine wpAny_ite_false (decide_eq_false (by rw [c1]; exact Bool.false_ne_true)) ?_; wp_walk using wpAny_loadPart' hl)
      | (refine wpAny_ite_true (decide_eq_true (by rfl)) ?_; wp_walk using wpAny_loadPart' hl))
    exact ⟨_, rfl, h⟩
theorem tuple_mul1 (l : Addr) (items : Array Value) (n : Nat) (sl : Array (Option Value)) (dd : Option Addr) (u : Tok) :
    Meets (Builtin.«tuple.__mul__» ⟨[.ref l, .int 1 u], []⟩) (fun _ R s => s.heap.get? l = some { cls := .type "tuple", dict := dd, data := .seq items n, slots := sl } ∧
      R (.ok (.ret (Value.ref l))) s) :=
  .of_wp fun prog w A R s h => by
    obtain ⟨hp, g, d, tk, os⟩ := s
    obtain ⟨hl, h⟩ := h
    have f1 := AutoSeq1.idx_int
    wp_walk using wpAny_loadPart' hl
    repeat (first
      | (refine wpAny_ite_true (decide_eq_true (by simp)) ?_; wp_walk using wpAny_loadPart' hl))
    exact ⟨_, rfl, h⟩
/-- t * n, n from 0 on -/
def rRepA (K : PySem.W.Frag) : R2 := fun x y H Q => ∃ (l : Addr) (k : Nat) (xs : List V), x = .ref l ∧ y = .int (k : Nat) ∧ SqT K H l xs ∧ xs ≠ [] ∧ k ≤ 1000 ∧ xs.length ≤ 1000 ∧ (k = 1 → Q (.ref l) H) ∧ (k ≠ 1 → ∀ p, H p = none → Q (.ref p) (upd H p (.tup (List.replicate k xs).flatten)))
section
variable {X : Cx}
theorem op_repA : OpR X (binaryOp .Mult) (rRepA X.K) := by
  intro pins s σ H x y v u Q I rx ry h
  obtain ⟨l, k, xs, rfl, rfl, hT, hne, h2, hz, q1, q⟩ := h
  by_cases k2 : 2 ≤ k
  · exact op_repT pins s σ H (.ref l) (.int (k : Nat)) v u Q I rx ry ⟨l, (k : Nat), xs, rfl, rfl, hT, hne, by omega, by omega, hz, by rw [Int.toNat_natCast]; exact q (by omega)⟩
  cases rx
  obtain ⟨t, rfl⟩ := ry
  obtain ⟨its, r, ⟨⟨cls, dd, data, sl⟩, ho, hc, n, hd⟩, hs⟩ := I.tuple hT
  simp only at hc hd
  subst hc hd
  by_cases k1 : k = 1
  · subst k1
    exact wpAny_binaryOp_repeat_ref (T := "tuple") (U := "int") (by decide) ⟨_, ho, rfl⟩ (fun s' => typeIs_int s' 1 t) noFill_tuple_mul F.fills_int_mul F.slot_int_rmul repeat_tuple F.slot_int_index.lookup
      (call_meets F.slot_int_rmul (typeIs_int s 1 t) F.entry_int_rmul (F.args_int_rmul_2 _ _) (int_rmul_tuple 1 t l its.toArray n dd sl)
        ⟨ho, rfl, ⟨_, ho, rfl⟩, call_meets F.slot_tuple_mul ⟨_, ho, rfl⟩ F.entry_tuple_mul (F.args_tuple_mul_2 _ _) (tuple_mul1 l its.toArray n sl dd t) ⟨ho, ⟨.ref l, H, I, rfl, q1 rfl⟩⟩⟩)
  · have k0 : k = 0 := by omega
    subst k0
    have hle : its.length = xs.length := r.length.symm
    have hn : its ≠ [] := fun e => hne (by
      rw [e] at hle
      exact List.eq_nil_of_length_eq_zero hle.symm)
    have hi : (its.toArray.isEmpty || ((0 : Int) == 1)) = false := by
      cases its with
      | nil => exact absurd rfl hn
      | cons a b => rfl
    refine wpAny_binaryOp_repeat_ref (T := "tuple") (U := "int") (by decide) ⟨_, ho, rfl⟩ (fun s' => typeIs_int s' 0 t) noFill_tuple_mul F.fills_int_mul F.slot_int_rmul repeat_tuple F.slot_int_index.lookup
      (call_meets F.slot_int_rmul (typeIs_int s 0 t) F.entry_int_rmul (F.args_int_rmul_2 _ _) (int_rmul_tuple 0 t l its.toArray n dd sl)
        ⟨ho, rfl, ⟨_, ho, rfl⟩, call_meets F.slot_tuple_mul ⟨_, ho, rfl⟩ F.entry_tuple_mul (F.args_tuple_mul_2 _ _) (tuple_mul0 l its.toArray n dd sl t hi) ⟨ho, ?_⟩⟩)
    refine ⟨.ref s.heap.objs.size, _, I.laid (t' := s.toks) (o := .tup []) (fun b ob q => Heap.get?_push_of_some _ q) (Nat.le_refl _) ?_, rfl, q (by decide) _ (I.hok.fresh (Nat.le_refl _))⟩
    exact ⟨Nat.zero_le _, [], .nil, IsTup.new _ _⟩
end
theorem rep_flat {v : V} {d : PyData} {H : Hp} (m : Nat) (h : Tp H v d) : TpA H (List.replicate m [v]).flatten (List.replicate m d) := by
  induction m with
  | zero => exact .nil
  | succ m ih => exact .cons h ih
theorem et_rep {K : PySem.W.Frag} {σ : L2.St} {H : Hp} {ta tb : TE} {d : PyData} {k : Nat} (ha : ET ta σ H (.tuple [d])) (hb : ET tb σ H (.int (k : Nat))) (hk : k ≤ 1000) : ET (tOp (rRepA K) ta tb) σ H (.tuple (List.replicate k d)) := fun H1 a Q q =>
  ha H1 a _ fun v H2 s2 r2 => hb H2 (a.trans s2) _ fun w H3 s3 r3 => by
    obtain ⟨p, xs, rfl, hp, r⟩ := r2.tuple_inv
    cases r3.int_inv
    obtain _ | ⟨r0, _ | _⟩ := r
    refine ⟨p, k, _, rfl, rfl, SqT.of (s3 _ _ hp), by simp, hk, by simp, fun e => ?_, fun e z hz => ?_⟩
    · subst e
      exact q _ H3 (s2.trans s3) (.tup (s3 _ _ hp) (.cons (r0.mono (tle s3)) .nil))
    · refine q _ _ ((s2.trans s3).trans (same_new hz _)) (.tup upd_same ?_)
      exact rep_flat k ((r0.mono (tle s3)).mono (tle (same_new hz _)))
/-! ### text * int -/
section
variable {X : Cx}
def rMulS : R2 := fun x y H Q => ∃ (z : Str) (n : Int), x = .str z ∧ y = .int n ∧ MulOk z n ∧ Q (.str (Txt.mul z n)) H
theorem op_mulS : OpR X (binaryOp .Mult) rMulS := by
  intro pins s σ H x y v u Q I rx ry h
  obtain ⟨z, n, rfl, rfl, ok, q⟩ := h
  obtain ⟨t, rfl⟩ := rx
  obtain ⟨t', rfl⟩ := ry
  exact SB.mul ok fun t2 k => ⟨.str _, H, I.tok k, ⟨_, rfl⟩, q⟩
/-! ### enumerate(text) -/
def IteS (x : Str) : It := ⟨fun i _ => i < x.cps.size, fun i H v H' => ∃ T c, v = .ref T ∧ H T = none ∧ H' = upd H T (.tup [.int (i : Nat), .str ⟨#[c]⟩]) ∧ x.cps[i]? = some c, fun i _ => i = x.cps.size⟩
theorem turn_enumS {P : Program} {w : World} {K : PySem.W.Frag} {elts : List Expr} {kk : Nat} {tpos : Pos} (x : Str) (t : Tok) (ty : String) (hty : ty = "str_ascii_iterator" ∨ ty = "str_iterator") (e it : Addr) :
    Turn P w K (.Tuple elts kk tpos) (IteS x) [e, it] e (fun i h => (∃ old, IsEnum h e it ((i : Nat) : Int) old) ∧ h.IsStrIter it ty x t i ∧ e ≠ it) where
  mem := by simp
  obj := fun i h st b hb => by
    obtain ⟨⟨old, he⟩, ⟨o, ho, hc, hd⟩, _⟩ := st
    have e' : b = e ∨ b = it := by simpa using hb
    rcases e' with z | z
    · rw [z]; exact ⟨_, he, fun v q => nomatch q⟩
    · rw [z]; exact ⟨o, ho, fun v q => by rw [hd] at q; cases q⟩
  keep := fun i h h' st k => let ⟨⟨old, he⟩, ⟨o, ho, r⟩, hne⟩ := st; ⟨⟨old, k e (by simp) _ he⟩, ⟨o, k it (by simp) o ho, r⟩, hne⟩
  item := by
    intro X hP hw hK hc i pins s σ H E I hf st hg
    subst hP hw hK
    obtain ⟨⟨old, he⟩, hit, hne⟩ := st
    have D : Draws X.prog X.w X.A.in1 it [it] x.cps.size (fun i v => ∃ c u, x.cps[i]? = some c ∧ v = .str ⟨#[c]⟩ u) (fun i h => h.IsStrIter it ty x t i) := by
      rcases hty with e | e
      · rw [e]; exact Draws.strAscii (A := X.A.in1) (show X.A.in1.handled = none from I.ok.hd hc) it x t
      · rw [e]; exact Draws.strWide (A := X.A.in1) (show X.A.in1.handled = none from I.ok.hd hc) it x t
    have hel : e < s.heap.objs.size := Heap.lt_size he
    have hil : it < s.heap.objs.size := by obtain ⟨_, q, _⟩ := hit; exact Heap.lt_size q
    refine wpAny_pyNext_enum_itemD D he hit hg hne (by simpa using hne) fun v h' tk hv ho hit' hT hsz hk => ?_
    obtain ⟨c, u, hcx, rfl⟩ := hv
    refine ⟨_, rfl, wpAny_letOwnedTupleGo_enum (s := { s with heap := h', toks := tk + 1 }) ho fun h'' he' sb => ?_⟩
    have hT2 : h''.get? s.heap.objs.size = some { cls := .type "tuple", data := .seq #[.int i tk, .str ⟨#[c]⟩ u] } := (sb.2 _ (Nat.ne_of_gt hel)).trans hT
    have new : ObjOk X.prog X.w (upd H s.heap.objs.size (.tup [.int (i : Nat), .str ⟨#[c]⟩])) h'' s.heap.objs.size (.tup [.int (i : Nat), .str ⟨#[c]⟩]) :=
      ⟨by show 2 ≤ sizeLine; decide, [.int i tk, .str ⟨#[c]⟩ u], .cons ⟨_, rfl⟩ (.cons ⟨_, rfl⟩ .nil), ⟨_, hT2, rfl, _, rfl⟩⟩
    have I1 : Inv X pins σ (upd H s.heap.objs.size (.tup [.int (i : Nat), .str ⟨#[c]⟩])) { s with heap := h'', toks := tk + 1 } :=
      I.turnedNew (ch := [e, it]) (fun b ob hb q => (sb.2 b (fun z => hb (by simp [z]))).trans (hk b ob (fun z => hb (by simp [z])) (fun z => hb (by simp [z])) q)) hf (Nat.le_refl _) new
    refine ⟨.ref s.heap.objs.size, _, I1, rfl, ⟨_, c, rfl, I.hok.fresh (Nat.le_refl _), rfl, hcx⟩, ⟨⟨.str ⟨#[c]⟩ u, ?_⟩, ?_, hne⟩, fun b hb => ?_⟩
    · have e1 : ((i + 1 : Nat) : Int) = (i : Int) + 1 := by omega
      rw [e1]; exact he'
    · obtain ⟨o, ho', r⟩ := hit'
      exact ⟨o, (sb.2 it (Ne.symm hne)).trans ho', r⟩
    · have hb' : b < s.heap.objs.size := by
        have e' : b = e ∨ b = it := by simpa using hb
        rcases e' with z | z
        · rw [z]; exact hel
        · rw [z]; exact hil
      rw [upd_ne (Nat.ne_of_lt hb')]
      exact (hf b hb).1
  done := by
    intro X hP hw hK hc i pins s σ H E I hf st hg
    subst hP hw hK
    obtain ⟨⟨old, he⟩, hit, hne⟩ := st
    have D : Draws X.prog X.w X.A.in1 it [it] x.cps.size (fun i v => ∃ c u, x.cps[i]? = some c ∧ v = .str ⟨#[c]⟩ u) (fun i h => h.IsStrIter it ty x t i) := by
      rcases hty with e | e
      · rw [e]; exact Draws.strAscii (A := X.A.in1) (show X.A.in1.handled = none from I.ok.hd hc) it x t
      · rw [e]; exact Draws.strWide (A := X.A.in1) (show X.A.in1.handled = none from I.ok.hd hc) it x t
    obtain ⟨f0, f1, f2, f3, f4, f5⟩ := hf it (by simp)
    have hg' : i = x.cps.size := hg
    subst hg'
    exact wpAny_pyNext_enum_endD D he hit fun h' eb => ⟨rfl, I.turned (t' := s.toks) (fun b o hb q => eb b o hb q) f0 f1 f3 f4 f5⟩
  self := fun A i s Q E st h => let ⟨⟨_, he⟩, _⟩ := st; wpAny_pyIter_enum he h
def iEnumS (ta : TA) : TI := fun σ H R => ta σ H fun vs H1 => ∃ x, vs = [.str x] ∧ R (IteS x) H1
theorem pi_enumS {e : Expr} {ta : TA} {p pos tpos : Pos} {elts : List Expr} {kk : Nat} (hg : Gl X "enumerate") (hm : X.mg "enumerate" = none) (ha : PA X [e] ta) (hs : starEach [e] X.env = [(false, eval e X.env)] := by rfl) :
    PI X (.Tuple elts kk tpos) (.Call (.Name "enumerate" p) [e] [] pos) (iEnumS ta) := by
  refine ⟨fun pins s σ H R I h => ?_⟩
  refine Call_ (ld_blt I hg hm boot_enumerate (PyProof.Rows.callWith_type1 (thn (ha.run pos pins s σ H _ I h) fun us s1 ⟨vs, H1, I1, r1, q1⟩ => ?_) hs rfl))
  obtain ⟨x, ex, q⟩ := q1
  subst ex
  cases r1 with
  | cons r rr =>
    cases rr
    obtain ⟨t, rfl⟩ := r
    refine call_enumerate_str fun h' he hit hsz hk => wpAny_pyIter_enum he ?_
    have I2 : Inv X pins σ H1 { s1 with heap := h' } := I1.kept (t' := s1.toks) hk
    have hty : strIterType x = "str_ascii_iterator" ∨ strIterType x = "str_iterator" := by
      unfold strIterType
      split
      · exact .inl rfl
      · exact .inr rfl
    refine ⟨s1.heap.objs.size + 1, [s1.heap.objs.size + 1, s1.heap.objs.size], _, _, H1, rfl, I2, turn_enumS x t (strIterType x) hty (s1.heap.objs.size + 1) s1.heap.objs.size, ⟨⟨.none, he⟩, hit, Nat.succ_ne_self _⟩, fun b hb => ?_, q⟩
    have e' : b = s1.heap.objs.size + 1 ∨ b = s1.heap.objs.size := by simpa using hb
    have hle : s1.heap.objs.size ≤ b := by
      rcases e' with z | z
      · rw [z]; exact Nat.le_add_right _ _
      · rw [z]; exact Nat.le_refl _
    exact I1.fpOk hle (I1.hok.fresh hle)
theorem walk_enumS {x : Str} : Walk (IteS x) x.cps.size (fun _ => True) (fun i H v H' => ∃ T c, v = .ref T ∧ H T = none ∧ H' = upd H T (.tup [.int (i : Nat), .str ⟨#[c]⟩]) ∧ x.cps[i]? = some c) :=
  ⟨fun i H hi _ => hi, fun _ _ => rfl, fun i H v H' _ _ y => y⟩
end
end

section

structure MkC (P : Program) (w : World) (K : PySem.W.Frag) (mg : Str → Option Value) (base : Heap) (k : Nat) (C : Addr) (sp : Sp) : Prop where
  ex : C8.Mak P w K mg base k "Counter" C sp []
/-- C() -/
theorem pe_mk0 {X : Cx} {k j : Nat} {C : Addr} {x : Str} {sp : Sp} {dvs : List V} {p pos : Pos} (c : C8.Mak X.prog X.w X.K X.mg X.base k x C sp dvs) (hr : Room j X.A) (hk : k + 1 ≤ j) (hg : Gl X x) (hdb : (x == ("__debug__" : Str)) = false := by decide) :
    PE X (.Call (.Name x p) [] [] pos) (tMake C sp dvs C8.E0 tNil) := by
  obtain ⟨f, fd, ps, ds, M, F, hm, b, d⟩ := c.ex
  exact pe_make0 M F (hr.mono hk) hg hm b d C8.pass0 hdb
def sp_init (C : Addr) : Sp := fun vs H Q _ => ∃ a dx, vs = [.ref a] ∧ H a = some (.ins C dx []) ∧ Q .non (upd H a (Cnt C dx 0))
abbrev s___init__ : Stmt := inClass (topS 27) 0
theorem sc___init__ : FnScope ["self"] ["self"] (C8.fnScope s___init__) := C8.fnScope_by (by decide +kernel)
abbrev s_groups_of : Stmt := topS 28
theorem sc_groups_of : FnScope ["pattern", "counter"] ["pattern"] (C8.fnScope s_groups_of) := C8.fnScope_by (by decide +kernel)
abbrev s_first_rest : Stmt := topS 29
theorem sc_first_rest : FnScope ["pattern"] ["pattern"] (C8.fnScope s_first_rest) := C8.fnScope_by (by decide +kernel)
abbrev s_no_marks : Stmt := topS 30
theorem sc_no_marks : FnScope ["pattern"] ["pattern"] (C8.fnScope s_no_marks) := C8.fnScope_by (by decide +kernel)
abbrev s_first_stops : Stmt := topS 36
theorem sc_first_stops : FnScope ["pattern"] ["pattern"] (C8.fnScope s_first_stops) := C8.fnScope_by (by decide +kernel)
/-- the class: its making -/
structure DfI (K : PySem.W.Frag) (mg : Str → Option Value) (C : Addr) : Prop where
  ex : ∃ (f : Addr) (fd : FuncData), L2.Mk K C f ∧ mg "Counter" = some (.ref C) ∧ C8.Fun K "__init__" "Counter.__init__" s___init__ f fd ∧ Binds K fd ["self"] []
def groups (p : Pat) : Nat := (num p 0).2
def F_groups_of (ds : List PyData) (d : PyData) : Prop := ∃ p : Pat, ds = [enc p] ∧ okP 19 p = true ∧ d = .int (groups p : Nat)
def F_first_rest (ds : List PyData) (d : PyData) : Prop := ∃ p : Pat, ds = [enc p] ∧ okP 19 p = true ∧ d = .tuple [enc (num p 0).1]
def noM (k : Nat) : Mk := List.replicate k (.none, .none)
def F_no_marks (ds : List PyData) (d : PyData) : Prop := ∃ p : Pat, ds = [enc p] ∧ okP 19 p = true ∧ groups p ≤ 1000 ∧ d = encM (noM (groups p))
section
variable {P : Program} {w : World} {K : PySem.W.Frag} {mg : Str → Option Value} {base : Heap} {C : Addr}
theorem mk_counter (TC : CC K C) (D : DfI K mg C) : C8.Mak P w K mg base 1 "Counter" C (sp_init C) [] := by
  obtain ⟨f, fd, M, hm, F, b⟩ := D.ex
  refine C8.mak0 M hm F b .nil sc___init__ (fun vs H Q E h => by obtain ⟨a, dx, rfl, _⟩ := h; rfl) fun cdv A outer s H vs Q E hr h => ?_
  obtain ⟨a, dx, rfl, ha, q⟩ := h
  refine ⟨_, (pss_one (ps_fld (pv 0) pe_int rfl)), ?_⟩
  exact ⟨_, rfl, a, C, dx, [], rfl, ha, TC.cl, TC.nm, (by show 0 < 1000; decide), q⟩
/-- a counter just made -/
theorem made_counter {H H1 : Hp} {x dx : Addr} (s : Same H H1) (hx : H1 x = none) (hdx : H1 dx = none) (ne : dx ≠ x) {o o' : HO} {H2 : Hp} (h : SmB x (upd (upd (upd H1 dx (.own x)) x o) x o') H2) : Same H H2 := fun b u e => by
  have e1 := s b u e
  have nb : b ≠ x := ne_of_none e1 hx
  refine h b u nb ?_
  rw [upd_ne nb, upd_ne nb, upd_ne (ne_of_none e1 hdx)]
  exact e1
theorem c_groups_of (T : Tx mg) (TC : CC K C) (D : Df K mg "groups_of" s_groups_of ["pattern"]) (MK : C8.Mak P w K mg base 1 "Counter" C (sp_init C) []) (M_numbered : C8.Met P w K mg base 19 C "numbered" (sp_num C 19) []) : C8.Cal P w K mg base 20 "groups_of" (spT 1 F_groups_of) [] := by
  refine df_mk D sc_groups_of spT.len fun f cdv A outer s H vs Q E hr h => ?_
  obtain ⟨ds, d, hn, hv, ⟨p, rfl, hok, rfl⟩, qq⟩ := h
  obtain _ | @⟨x0, _, _, _, h0, _ | _⟩ := hv
  refine ⟨_, (pss_cons (ps_set (i := 1) sc_groups_of.nd rfl (Or.inl rfl) (pe_mk0 MK hr (by omega) rfl))
    (pss_cons (ps_expr (C8.pe_mt M_numbered hr (by omega) (pv 1) (pa_cons (pv 0) pa_nil)))
    (pss_one (ps_ret (pe_fld (pv 1) rfl))))), ?_⟩
  refine fun x dx hx hdx ne => ⟨x, dx, rfl, upd_same, rfl, ?_⟩
  have e0 : ∀ H', SmB x (upd (upd (upd H dx (.own x)) x (.ins C dx [])) x (Cnt C dx 0)) H' → Same H H' := fun H' h => made_counter (Same.refl H) hx hdx ne h
  have e1 := e0 _ (SmB.refl _ _)
  have hx1 : upd (upd (upd H dx (.own x)) x (.ins C dx [])) x (Cnt C dx 0) x = some (Cnt C dx 0) := upd_same
  revert hx1 e0 e1
  generalize upd (upd (upd H dx (.own x)) x (.ins C dx [])) x (Cnt C dx 0) = H1
  intro e0 e1 hx1
  refine ⟨_, rfl, x, dx, _, rfl, hx1, rfl, _, rfl, x, dx, x0, 0, p, rfl, hx1, h0.mono (tle e1), hok, fun v' H2 s2 h2 r2 => ?_⟩
  exact ⟨_, rfl, x, C, dx, _, _, rfl, h2, TC.cl, TC.nm, rfl, qq _ _ (e0 H2 s2) (.int _)⟩
theorem c_first_rest (T : Tx mg) (TC : CC K C) (D : Df K mg "first_rest" s_first_rest ["pattern"]) (MK : C8.Mak P w K mg base 1 "Counter" C (sp_init C) []) (M_numbered : C8.Met P w K mg base 19 C "numbered" (sp_num C 19) []) : C8.Cal P w K mg base 20 "first_rest" (spT 1 F_first_rest) [] := by
  refine df_mk D sc_first_rest spT.len fun f cdv A outer s H vs Q E hr h => ?_
  obtain ⟨ds, d, hn, hv, ⟨p, rfl, hok, rfl⟩, qq⟩ := h
  obtain _ | @⟨x0, _, _, _, h0, _ | _⟩ := hv
  refine ⟨_, (pss_one (ps_ret (pe_tup (pa_cons (C8.pe_mt M_numbered hr (by omega) (pe_mk0 MK hr (by omega) rfl) (pa_cons (pv 0) pa_nil) (ht := mcall_of (abase_call (by decide)) fun _ => rfl)) pa_nil)))), ?_⟩
  refine fun x dx hx hdx ne => ⟨x, dx, rfl, upd_same, rfl, ?_⟩
  have e0 : ∀ H', SmB x (upd (upd (upd H dx (.own x)) x (.ins C dx [])) x (Cnt C dx 0)) H' → Same H H' := fun H' h => made_counter (Same.refl H) hx hdx ne h
  have e1 := e0 _ (SmB.refl _ _)
  have hx1 : upd (upd (upd H dx (.own x)) x (.ins C dx [])) x (Cnt C dx 0) x = some (Cnt C dx 0) := upd_same
  revert hx1 e0 e1
  generalize upd (upd (upd H dx (.own x)) x (.ins C dx [])) x (Cnt C dx 0) = H1
  intro e0 e1 hx1
  refine ⟨x, dx, _, rfl, hx1, rfl, _, rfl, x, dx, x0, 0, p, rfl, hx1, h0.mono (tle e1), hok, fun v' H2 s2 h2 r2 => ⟨by show 1 ≤ sizeLine; decide, fun z hz => ?_⟩⟩
  exact qq _ _ ((e0 H2 s2).trans (same_new hz _)) (.tup upd_same (.cons (r2.mono (tle (same_new hz _))) .nil))
theorem c_no_marks (T : Tx mg) (D : Df K mg "no_marks" s_no_marks ["pattern"]) (c_groups_of : C8.Cal P w K mg base 20 "groups_of" (spT 1 F_groups_of) []) : C8.Cal P w K mg base 21 "no_marks" (spT 1 F_no_marks) [] := by
  refine df_mk D sc_no_marks spT.len fun f cdv A outer s H vs Q E hr h => ?_
  obtain ⟨ds, d, hn, hv, ⟨p, rfl, hok, hg, rfl⟩, qq⟩ := h
  obtain _ | @⟨x0, _, _, _, h0, _ | _⟩ := hv
  refine ⟨_, (pss_one (ps_ret (pe_op op_repA (pe_tup (pa_cons (pe_tup (pa_cons pe_non (pa_cons pe_non pa_nil))) pa_nil)) (C8.pe_c c_groups_of hr (by omega) rfl (pa_cons (pv 0) pa_nil))))), ?_⟩
  refine st_ret (et_rep (d := .tuple [.none, .none]) (by walk_at "et") (et_call (by walk_at "ea") rfl ⟨p, rfl, hok, rfl⟩) hg) fun v H' s r => qq v H' s ?_
  simpa [encM, noM] using r
end
end

section

theorem okP_num : ∀ (k : Nat) (p : Pat) (c : Nat), okP k p = true → okP k (num p c).1 = true
  | 0, _, _, h => absurd h okP_zero
  | k + 1, p, c, h => by
    have many : ∀ (ps : List Pat) (c : Nat), (∀ q ∈ ps, okP k q = true) → ∀ q ∈ (nums ps c).1, okP k q = true := by
      intro ps
      induction ps with
      | nil => intro c _ q hq; rw [nums] at hq; exact absurd hq (by simp)
      | cons p ps ih =>
        intro c h q hq
        rw [nums] at hq
        rcases List.mem_cons.mp hq with rfl | hq
        · exact okP_num k p c (h p List.mem_cons_self)
        · exact ih _ (fun q hq => h q (List.mem_cons_of_mem _ hq)) q hq
    cases p with
    | none => rw [num]; exact h
    | empty => rw [num]; exact h
    | one z => rw [num]; exact h
    | row ps =>
      rw [num]
      simp only [okP, Bool.and_eq_true, List.all_eq_true, nums_len] at h ⊢
      exact ⟨h.1, many ps c h.2⟩
    | any ps =>
      rw [num]
      simp only [okP, Bool.and_eq_true, List.all_eq_true, nums_len] at h ⊢
      exact ⟨h.1, many ps c h.2⟩
    | again p lo hi m => rw [num]; exact okP_num k p c h
    | group p g => rw [num]; exact okP_num k p (c + 1) h
/-- the first stops of a pattern -/
def firstF (p : Pat) : Option (List Stop) := stopsF 110 [.pat (num p 0).1] (noM (groups p)) 0
def F_first_stops (ds es : List PyData) : Prop := ∃ (p : Pat) (L : List Stop), ds = [enc p] ∧ okP 19 p = true ∧ groups p ≤ 1000 ∧ firstF p = some L ∧ L.length ≤ 10000000 ∧ es = L.map encS
/-- the stops behind a letter -/
def behindF (s : Stop) (c : Nat) (p : Nat) : Option (List Stop) := match s.1 with
  | [] => some []
  | .pat (.one z) :: R => if c ∈ z.cps.toList then stopsF 110 R s.2 p else some []
  | _ => none
def F_stops_behind (ds es : List PyData) : Prop := ∃ (s : Stop) (c : Nat) (p : Nat) (L : List Stop), ds = [encS s, .str ⟨#[c]⟩, .int (p : Nat)] ∧ okS s ∧ behindF s c p = some L ∧ L.length ≤ 10000000 ∧ es = L.map encS
abbrev s_stops_behind : Stmt := topS 35
theorem sc_stops_behind : FnScope ["stop", "letter", "place", "rest", "marks"] ["stop", "letter", "place"] (C8.fnScope s_stops_behind) := C8.fnScope_by (by decide +kernel)
abbrev s_next_stops : Stmt := topS 38
theorem sc_next_stops : FnScope ["some", "letter", "place", "found", "stop"] ["some", "letter", "place"] (C8.fnScope s_next_stops) := C8.fnScope_by (by decide +kernel)
abbrev s_spans_of : Stmt := topS 39
theorem sc_spans_of : FnScope ["marks", "begun", "closed"] ["marks"] (C8.fnScope s_spans_of) := C8.fnScope_by (by decide +kernel)
abbrev s_first_of : Stmt := topS 44
theorem sc_first_of : FnScope ["some", "ways", "rest", "marks"] ["some"] (C8.fnScope s_first_of) := C8.fnScope_by (by decide +kernel)
/-- a list ahead of n data -/
def spLL (n : Nat) (F : List PyData → List PyData → List PyData → Prop) : Sp := fun vs H Q _ => ∃ (v : V) (vr : List V) (ls ds es : List PyData), vs = v :: vr ∧ Lp H v ls ∧ ds.length = n ∧ TpA H vr ds ∧ F ls ds es ∧ ∀ v H', Same H H' → Lp H' v es → Q v H'
def spLT (n : Nat) (F : List PyData → List PyData → PyData → Prop) : Sp := fun vs H Q _ => ∃ (v : V) (vr : List V) (ls ds : List PyData) (d : PyData), vs = v :: vr ∧ Lp H v ls ∧ ds.length = n ∧ TpA H vr ds ∧ F ls ds d ∧ ∀ v H', Same H H' → Tp H' v d → Q v H'
theorem spLL.len {n : Nat} {F : List PyData → List PyData → List PyData → Prop} : ∀ vs H Q E, spLL n F vs H Q E → vs.length = n + 1 := fun vs H Q E h => by
  obtain ⟨v, vr, ls, ds, es, rfl, _, h1, h2, _⟩ := h
  rw [List.length_cons, h2.length, h1]
theorem spLT.len {n : Nat} {F : List PyData → List PyData → PyData → Prop} : ∀ vs H Q E, spLT n F vs H Q E → vs.length = n + 1 := fun vs H Q E h => by
  obtain ⟨v, vr, ls, ds, es, rfl, _, h1, h2, _⟩ := h
  rw [List.length_cons, h2.length, h1]
section
variable {σ : L2.St} {H : Hp} {te : TE} {t : TA} {d : PyData} {ls ds es : List PyData} {E : XK}
theorem el_callL {n : Nat} {F : List PyData → List PyData → List PyData → Prop} (hl : EL te σ H ls) (ha : EA t σ H ds) (hn : ds.length = n) (hf : F ls ds es) : EL (tCall (spLL n F) [] E (tCons te t)) σ H es := fun H1 a Q q =>
  hl H1 a _ fun v H2 s2 l2 => ha H2 (a.trans s2) _ fun vs H3 s3 r3 => ⟨v, vs, ls, ds, es, by rw [List.append_nil], l2.mono s3, hn, r3, hf, fun v H4 s4 l4 => q v H4 ((s2.trans s3).trans s4) l4⟩
theorem et_callL {n : Nat} {F : List PyData → List PyData → PyData → Prop} (hl : EL te σ H ls) (ha : EA t σ H ds) (hn : ds.length = n) (hf : F ls ds d) : ET (tCall (spLT n F) [] E (tCons te t)) σ H d := fun H1 a Q q =>
  hl H1 a _ fun v H2 s2 l2 => ha H2 (a.trans s2) _ fun vs H3 s3 r3 => ⟨v, vs, ls, ds, d, by rw [List.append_nil], l2.mono s3, hn, r3, hf, fun v H4 s4 r4 => q v H4 ((s2.trans s3).trans s4) r4⟩
theorem sq_unp2 {K : PySem.W.Frag} {D : Ends} {r : TS} {i1 i2 : Nat} {d1 d2 : PyData} (h : ET te σ H (.tuple [d1, d2])) (q : ∀ v1 v2 H', Same H H' → Tp H' v1 d1 → Tp H' v2 d2 → r D ((σ.set i1 (some v1)).set i2 (some v2)) H') :
    tSeq (tAsg te (gTup K 2 (gCons (gName i1) (gCons (gName i2) gNil)))) r D σ H := st_unp (D := { D with nx := r D }) [i1, i2] rfl rfl h rfl fun vs H' s r => by
    obtain _ | ⟨h1, _ | ⟨h2, _ | _⟩⟩ := r
    exact q _ _ H' s h1 h2
/-- a sign not in a text -/
theorem et_notInS {ta tb : TE} {c : Nat} {z : Str} (ha : ET ta σ H (.str ⟨#[c]⟩)) (hb : ET tb σ H (.str z)) : ET (tOp rNotInS ta tb) σ H (.bool (!decide (c ∈ z.cps.toList))) := fun H1 a Q q =>
  ha H1 a _ fun v H2 s2 r2 => hb H2 (a.trans s2) _ fun w H3 s3 r3 => by
    cases r2.str_inv
    cases r3.str_inv
    exact ⟨c, z, rfl, rfl, q _ H3 (s2.trans s3) (.bl _)⟩
theorem et_inSg {ta tb : TE} {c : Nat} {z : Str} (ha : ET ta σ H (.str ⟨#[c]⟩)) (hb : ET tb σ H (.str z)) : ET (tOp rInS ta tb) σ H (.bool (decide (c ∈ z.cps.toList))) := fun H1 a Q q =>
  ha H1 a _ fun v H2 s2 r2 => hb H2 (a.trans s2) _ fun w H3 s3 r3 => by
    cases r2.str_inv
    cases r3.str_inv
    exact ⟨c, z, rfl, rfl, q _ H3 (s2.trans s3) (.bl _)⟩
end
section
variable {P : Program} {w : World} {K : PySem.W.Frag} {mg : Str → Option Value} {base : Heap}
theorem c_stops_of_all (T : Tx mg) (D : Df K mg "stops_of" s_stops_of ["rest", "marks", "place"]) (D2 : Df K mg "turn_stops" s_turn_stops ["frame", "left", "marks", "place"]) (c_marked : C8.Cal P w K mg base 1 "marked" (spT 3 F_marked) []) (c_aged : C8.Cal P w K mg base 1 "aged" (spT 1 F_aged) []) :
    ∀ n, C8.Cal P w K mg base (2 * n + 1) "stops_of" (spL 3 (F_stops n)) []
  | 0 => cal_none D fun vs H Q E h => by
    obtain ⟨ds, es, _, _, ⟨R, M, p, L, _, _, _, hL, _⟩, _⟩ := h
    cases hL
  | n + 1 => by
    have ih := c_stops_of_all T D D2 c_marked c_aged n
    exact c_stops_of_step T D (by omega) ih (c_turn_stops_of T D2 ih) c_marked c_aged
theorem c_first_stops (T : Tx mg) (D : Df K mg "first_stops" s_first_stops ["pattern"]) (c_stops_of : C8.Cal P w K mg base 221 "stops_of" (spL 3 (F_stops 110)) []) (c_first_rest : C8.Cal P w K mg base 20 "first_rest" (spT 1 F_first_rest) []) (c_no_marks : C8.Cal P w K mg base 21 "no_marks" (spT 1 F_no_marks) []) :
    C8.Cal P w K mg base 222 "first_stops" (spL 1 F_first_stops) [] := by
  refine df_mk D sc_first_stops spL.len fun f cdv A outer s H vs Q E hr h => ?_
  obtain ⟨ds, es, hn, hv, ⟨p, L, rfl, hok, hg, hL, hz, rfl⟩, qq⟩ := h
  obtain _ | @⟨x0, _, _, _, h0, _ | _⟩ := hv
  refine ⟨_, (pss_one (ps_ret (C8.pe_c c_stops_of hr (by omega) rfl (pa_cons (C8.pe_c c_first_rest hr (by omega) rfl (pa_cons (pv 0) pa_nil)) (pa_cons (C8.pe_c c_no_marks hr (by omega) rfl (pa_cons (pv 0) pa_nil)) (pa_cons pe_int pa_nil)))))), ?_⟩
  refine st_retL (el_call (ea_cons (et_call (by walk_at "ea") rfl ⟨p, rfl, hok, rfl⟩) (ea_cons (et_call (by walk_at "ea") rfl ⟨p, rfl, hok, hg, rfl⟩) (ea_cons et_int ea_nil))) rfl ⟨[.pat (num p 0).1], noM (groups p), 0, L, rfl, ?_, ?_, hL, hz, rfl⟩) fun v H' s l => qq v H' s l
  · exact .cons (okP_mono 19 _ (okP_num 19 p 0 hok)) fun f hf => absurd hf (by simp)
  · rw [noM, List.length_replicate]; exact hg
theorem c_stops_behind (T : Tx mg) (D : Df K mg "stops_behind" s_stops_behind ["stop", "letter", "place"]) (c_stops_of : C8.Cal P w K mg base 221 "stops_of" (spL 3 (F_stops 110)) []) : C8.Cal P w K mg base 222 "stops_behind" (spL 3 F_stops_behind) [] := by
  refine df_mk D sc_stops_behind spL.len fun f cdv A outer s H vs Q E hr h => ?_
  obtain ⟨ds, es, hn, hv, ⟨⟨R, M⟩, c, p, L, rfl, ⟨hok, hM⟩, hL, hz, rfl⟩, qq⟩ := h
  obtain _ | @⟨x0, _, _, _, h0, _ | @⟨x1, _, _, _, h1, _ | @⟨x2, _, _, _, h2, _ | _⟩⟩⟩ := hv
  refine ⟨_, (pss_cons (ps_asg (pv 0) (pg_tup (n := 2) rfl (pgs_cons (pg_name (i := 3) sc_stops_behind.nd rfl (Or.inl rfl)) (pgs_cons (pg_name (i := 4) sc_stops_behind.nd rfl (Or.inl rfl)) pgs_nil))))
    (pss_cons (ps_if (PW.pt (pw_or (pt_cmpR (op_eqD hr.units) (pv 3) (pe_tup pa_nil) (nomark _)) (pw_or1 (pt_cmpR op_notInS (pv 1) (pe_ix ix_tup (pe_ix ix_tup (pv 3) pe_int (fun _ _ => rfl)) pe_int (fun _ _ => rfl)) rfl)))) (pss_one (ps_ret (pe_lst pa_nil))) pss_nil)
    (pss_one (ps_ret (C8.pe_c c_stops_of hr (by omega) rfl (pa_cons (pe_slice sl_tupA (pv 3) (po_some pe_int) po_none) (pa_cons (pv 4) (pa_cons (pv 2) pa_nil)))))))), ?_⟩
  unfold encS at h0
  refine sq_unp2 (by walk_at "et") fun v3 v4 H1 s1 r3 r4 => ?_
  have hsh := (okR_shp hok).shaped
  unfold encR at r3 hsh
  cases R with
  | nil =>
    cases hL
    refine sq_yes (eb_orT (eb_test (et_eqNil (by walk_at "et") hsh)) rfl) rfl fun H2 s2 => ?_
    refine st_retL (by walk_at "el") fun v H' s l => qq v H' (by walk_at "sm") ?_
    exact l
  | cons fr R =>
    cases fr with
    | turn q lo hi m d new => cases hL
    | close g => cases hL
    | pat q =>
      cases q with
      | one z =>
        simp only [List.map_cons, encF, enc] at r3 hsh
        have e1 : EB _ _ H1 _ := eb_orF (eb_test (et_eqNil (K := K) (ta := tVar 3) (σ := [some x0, some x1, some x2, some v3, some v4]) (by walk_at "et") hsh)) rfl (eb_test (et_notInS (ta := tVar 1) (tb := tOp (rIxT K) (tOp (rIxT K) (tVar 3) (tC (.int 0))) (tC (.int 1))) (by walk_at "et") (by walk_at "et")))
        replace hL : (if c ∈ z.cps.toList then stopsF 110 R M p else some []) = some L := hL
        by_cases hc : c ∈ z.cps.toList
        · rw [if_pos hc] at hL
          refine sq_no e1 (by simp [hc]) fun H2 s2 => ?_
          refine st_retL (el_call (ea_cons (ET.to (by walk_at "et") (by rw [cut1]; rfl)) (by walk_at "ea")) rfl ⟨R, M, p, L, rfl, hok.tail, hM.1, hL, hz, rfl⟩) fun v H' s l => qq v H' (by walk_at "sm") l
        · rw [if_neg hc] at hL
          cases hL
          refine sq_yes e1 (by simp [hc]) fun H2 s2 => ?_
          refine st_retL (by walk_at "el") fun v H' s l => qq v H' (by walk_at "sm") ?_
          exact l
      | _ => cases hL
end
end

section

/-- the stops behind a letter, of all stops -/
def nextF (S : List Stop) (c : Nat) (p : Nat) : Option (List Stop) := catO (fun s => behindF s c p) S
def F_next_stops (ls ds es : List PyData) : Prop := ∃ (S : List Stop) (c p : Nat) (L : List Stop), ls = S.map encS ∧ ds = [.str ⟨#[c]⟩, .int (p : Nat)] ∧ (∀ s ∈ S, okS s) ∧ nextF S c p = some L ∧ L.length ≤ 10000000 ∧ es = L.map encS
def spans (M : Mk) : PyData := .tuple (M.map (·.2))
def F_spans_of (ds : List PyData) (d : PyData) : Prop := ∃ M : Mk, ds = [encM M] ∧ M.length ≤ 1000 ∧ d = spans M
/-- what the ways among stops give -/
def waysL (S : List Stop) : List Mk := (S.filter fun s => s.1.isEmpty).map (·.2)
def F_first_of (ls ds : List PyData) (d : PyData) : Prop := ∃ S : List Stop, ls = S.map encS ∧ ds = [] ∧ (∀ s ∈ S, okS s) ∧ S.length ≤ 10000000 ∧ d = (match waysL S with | [] => .none | M :: _ => spans M)
section
variable {P : Program} {w : World} {K : PySem.W.Frag} {mg : Str → Option Value} {base : Heap}
theorem encS_get {S : List Stop} {i : Nat} {d : PyData} (h : (S.map encS)[i]? = some d) : ∃ s, S[i]? = some s ∧ d = encS s := by
  rw [List.getElem?_map] at h
  cases e : S[i]? with
  | none => rw [e] at h; cases h
  | some q =>
    rw [e] at h
    exact ⟨q, rfl, (Option.some.inj h).symm⟩
theorem c_next_stops (T : Tx mg) (D : Df K mg "next_stops" s_next_stops ["some", "letter", "place"]) (c_stops_behind : C8.Cal P w K mg base 222 "stops_behind" (spL 3 F_stops_behind) []) : C8.Cal P w K mg base 223 "next_stops" (spLL 2 F_next_stops) [] := by
  refine df_mk D sc_next_stops spLL.len fun f cdv A outer s H vs Q E hr h => ?_
  obtain ⟨v, vr, ls, ds, es, rfl, hl, hn, hv, ⟨S, c, p, L, rfl, rfl, hok, hL, hz, rfl⟩, qq⟩ := h
  obtain _ | @⟨x0, _, _, _, h0, _ | @⟨x1, _, _, _, h1, _ | _⟩⟩ := hv
  refine ⟨_, (pss_cons (ps_set (i := 3) sc_next_stops.nd rfl (Or.inl rfl) (pe_lst pa_nil))
    (pss_cons (ps_for PassesOwn.never rfl (pi_listK (K := K) rfl (pv 0)) (pg_name (i := 4) sc_next_stops.nd rfl (Or.inl rfl)) (pss_one (ps_expr (pe_bm PySem.F.plainAttrs_list PySem.F.slot_list_extend PySem.F.type_list_extend mt_extend (pv 3) (pa_cons (C8.pe_c c_stops_behind hr (by omega) rfl (pa_cons (pv 4) (pa_cons (pv 1) (pa_cons (pv 2) pa_nil)))) pa_nil)))))
    (pss_one (ps_ret (pv 3))))), ?_⟩
  refine sq_setN (en_lst ea_nil (Nat.zero_le _)) fun pl xs H5 hpl s5 hl5 t5 => ?_
  obtain ⟨pl2, xs2, rfl, hl6, t6⟩ := hl
  have npl : pl2 ≠ pl := ne_of_none hl6 hpl
  refine sq_forV (ds := S.map encS) rfl (s5 _ _ hl6) (t6.mono (tle s5)) (fun i σ' H' => Same H H' ∧ TLe H5 H' ∧ H' pl2 = some (.lst xs2) ∧ (∃ (acc : List Stop) (ys : List V), nextF (S.take i) c p = some acc ∧ H' pl = some (.lst ys) ∧ TpA H' ys (acc.map encS)) ∧
    ∃ v7, σ' = [some (.ref pl2), some x0, some x1, some (.ref pl), v7]) ⟨s5, TLe.refl _, s5 _ _ hl6, ⟨[], xs, rfl, hl5, t5⟩, none, rfl⟩ (fun i σ' H' h => ⟨h.2.1, h.2.2.1⟩) (fun i d v σ' H' hd ⟨i1, i2, i3, ⟨acc, ys, ha, hy, ty⟩, v7, e7⟩ rv => ?_) (fun σ' H' ⟨i1, i2, i3, ⟨acc, ys, ha, hy, ty⟩, v7, e7⟩ => ?_)
  · subst e7
    obtain ⟨q, hq, rfl⟩ := encS_get hd
    obtain ⟨a, b, c', ha', hb, hab, rfl⟩ := catO_at hL hq
    have ha2 : catO (fun s => behindF s c p) (S.take i) = some acc := ha
    rw [ha2] at ha'
    cases ha'
    have hz' : acc.length + b.length ≤ 10000000 := by simp at hz; omega
    have g0 := h0.mono (tle i1)
    have g1 := h1.mono (tle i1)
    refine st_extend (es := b.map encS) rfl hy ty (el_call (by walk_at "ea") rfl ⟨q, c, p, b, rfl, hok q (List.mem_of_getElem? hq), hb, by omega, rfl⟩) (by simp; omega) fun xs' H7 s7 hp7 t7 => ?_
    exact ⟨same_mut (i1.trans s7) hpl, (i2.trans (tle s7)).trans (tle_lst hp7), by rw [upd_ne npl]; exact s7 _ _ i3, ⟨acc ++ b, xs', hab, upd_same, by rw [List.map_append]; exact t7⟩, some _, rfl⟩
  · subst e7
    rw [List.length_map, List.take_length, hL] at ha
    cases ha
    exact ⟨_, rfl, qq _ _ i1 ⟨pl, ys, rfl, hy, ty⟩⟩
theorem c_spans_of (T : Tx mg) (D : Df K mg "spans_of" s_spans_of ["marks"]) : C8.Cal P w K mg base 1 "spans_of" (spT 1 F_spans_of) [] := by
  refine df_mk D sc_spans_of spT.len fun f cdv A outer s H vs Q E hr h => ?_
  obtain ⟨ds, d, hn, hv, ⟨M, rfl, hM, rfl⟩, qq⟩ := h
  obtain _ | @⟨x0, _, _, _, h0, _ | _⟩ := hv
  refine ⟨_, (pss_one (ps_ret (pe_callTy (call_tuple_ofK (K := K) rfl) rfl T.m_tuple (by decide +kernel) (pa_cons (pe_lc (own := [("begun", 1), ("closed", 2)]) (g := gTup K 2 (gCons (gName 1) (gCons (gName 2) gNil))) rfl sc_spans_of.nd (pi_tupK (K := K) rfl (pv 0)) (blkOk_by (N := ["marks", "begun", "closed"]) (sc := C8.fnScope s_spans_of) (by decide +kernel)) (fun _ _ _ _ _ => (pg_tupK (K := K) (n := 2) rfl rfl (pgs_cons (pg_name (i := 1) sc_spans_of.nd rfl (Or.inl rfl)) (pgs_cons (pg_name (i := 2) sc_spans_of.nd rfl (Or.inl rfl)) pgs_nil)))) (fun _ _ _ _ _ => pts_nil) (fun _ _ _ _ _ => (pv 2))) pa_nil)))), ?_⟩
  unfold encM at h0
  refine st_ret (et_tupL (EN.el (en_lcT M (fun x => .tuple [x.1, x.2]) (fun _ => true) (fun x => x.2) (by walk_at "et") (by omega) fun x hx => lcT2 (by decide) (fun v1 v2 H1 s1 r1 r2 => eb_yes) fun _ v1 v2 H1 s1 r1 r2 => by walk_at "et"))) fun v H' s r => qq v H' s ?_
  rw [filter_yes] at r
  exact r
theorem c_first_of (T : Tx mg) (D : Df K mg "first_of" s_first_of ["some"]) (c_spans_of : C8.Cal P w K mg base 1 "spans_of" (spT 1 F_spans_of) []) : C8.Cal P w K mg base 2 "first_of" (spLT 0 F_first_of) [] := by
  refine df_mk D sc_first_of spLT.len fun f cdv A outer s H vs Q E hr h => ?_
  obtain ⟨v, vr, ls, ds, d, rfl, hl, hn, hv, ⟨S, rfl, rfl, hok, hz, rfl⟩, qq⟩ := h
  obtain _ | _ := hv
  refine ⟨_, (pss_cons (ps_setLc (i := 1) (own := [("rest", 2), ("marks", 3)]) (g := gTup K 2 (gCons (gName 2) (gCons (gName 3) gNil))) rfl sc_first_of.nd rfl rfl (sw_true rfl rfl rfl (by decide +kernel)) (pi_listK (K := K) rfl (pv 0)) (blkOk_by (N := ["some", "ways", "rest", "marks"]) (sc := C8.fnScope s_first_of) (by decide +kernel)) (fun _ _ _ _ _ => (pg_tupK (K := K) (n := 2) rfl rfl (pgs_cons (pg_name (i := 2) sc_first_of.nd rfl (Or.inl rfl)) (pgs_cons (pg_name (i := 3) sc_first_of.nd rfl (Or.inl rfl)) pgs_nil)))) (fun _ _ _ _ _ => (pts_one (pt_cmpR (op_eqK (K := K) rfl hr.units) (pv 2) (pe_tup pa_nil) (nomark _)))) (fun _ _ _ _ _ => (C8.pe_c c_spans_of hr (by omega) rfl (pa_cons (pv 3) pa_nil))))
    (pss_one (ps_ret (pe_ifExp (pt_cmpR (op_neK (K := K) rfl hr.units) (pv 1) (pe_lst pa_nil) (nomark _)) (pe_ix (ix_listK (K := K) rfl) (pv 1) pe_int (fun _ _ => rfl)) pe_non)))), ?_⟩
  obtain ⟨pl2, xs2, rfl, hl6, t6⟩ := hl
  have hl : Lp H (.ref pl2) (S.map encS) := ⟨pl2, xs2, rfl, hl6, t6⟩
  refine sq_setN (en_lcL S encS (fun s => s.1.isEmpty) (fun s => spans s.2) (by walk_at "el") (by omega) fun s hs => lcT2 (by decide) (fun v1 v2 H1 s1 r1 r2 => ?_) fun e v1 v2 H1 s1 r1 r2 => ?_) fun p xs H1 hp s1 hl1 t1 => ?_
  · have hsh := (okR_shp (hok s hs).1).shaped
    unfold encR at r1 hsh
    have e := eb_test (et_eqNil (K := K) (ta := tVar 2) (σ := [some (.ref pl2), none, some v1, some v2]) (by walk_at "et") hsh)
    rw [List.isEmpty_map] at e
    exact e
  · exact et_call (by walk_at "ea") rfl ⟨s.2, rfl, (hok s hs).2.1, rfl⟩
  · have e1 : (S.filter fun s => s.1.isEmpty).map (fun s => spans s.2) = (waysL S).map spans := by rw [waysL, List.map_map]; rfl
    rw [e1] at t1
    have hl2 : Lp H1 (.ref p) ((waysL S).map spans) := ⟨p, xs, rfl, hl1, t1⟩
    have hsh : SeqAt.shaped (.list ((waysL S).map spans)) = true := (shp.lst (k := 2) (.of fun d hd => by
      obtain ⟨M, hM, rfl⟩ := List.mem_map.mp hd
      obtain ⟨s, hs, rfl⟩ := List.mem_map.mp hM
      exact spans_shp (hok s (List.mem_filter.mp hs).1).2)).shaped
    cases e : waysL S with
    | nil =>
      rw [e] at hl2 hsh
      rw [e] at qq
      refine st_ret (et_ifF (eb_test (et_neNilL (by walk_at "el") hsh)) rfl et_non) fun v H' s r => qq v H' (by walk_at "sm") r
    | cons M Ms =>
      rw [e] at hl2 hsh
      rw [e] at qq
      refine st_ret (et_ifT (eb_test (et_neNilL (by walk_at "el") hsh)) rfl (et_ixL (by walk_at "el") et_int atI_0)) fun v H' s r => qq v H' (by walk_at "sm") r
end
end

section

/-! ### defs that let TooMany out -/
/-- the class TooMany -/
structure TM (K : PySem.W.Frag) (mg : Str → Option Value) (C : Addr) : Prop where
  g : mg "TooMany" = some (.ref C)
  xc : PySem.W.excIn K C [.type "ValueError", .type "Exception", .type "BaseException", .type "object"] "ValueError.__new__" = true
  k : PySem.W.keepIn K (.ref C) = true
  b : PySem.W.subIn K (.ref C) (.type "BaseException") = some true
  t : PySem.W.typeIn K (.ref C) = some (.type "type")
structure CalX (P : Program) (w : World) (K : PySem.W.Frag) (mg : Str → Option Value) (base : Heap) (k : Nat) (x : Str) (sp : Sp) : Prop where
  ex : ∃ (f : Addr) (fd : FuncData) (ps : List Str), FnOk P w K mg base (L2.CX P w) k f fd ps sp ∧ mg x = some (.ref f) ∧ PySem.W.keepIn K (.ref f) = true ∧ Binds K fd ps []
theorem pe_cX {X : Cx} {k j : Nat} {x : Str} {sp : Sp} {E : XK} {p pos : Pos} {e : Expr} {es : List Expr} {t : TA} (c : CalX X.prog X.w X.K X.mg X.base k x sp) (hr : Room j X.A) (hk : k ≤ j) (hg : Gl X x) (hx : Passes (L2.CX X.prog X.w) X E) (ha : PA X (e :: es) t)
    (hdb : (x == ("__debug__" : Str)) = false := by decide) (he : starEach (e :: es) X.env = (false, eval e X.env) :: starEach es X.env := by rfl) (hpl : (backTo pos (starEach es X.env)).any (·.1) = false := by rfl) :
    PE X (.Call (.Name x p) (e :: es) [] pos) (tCall sp [] E t) := by
  obtain ⟨f, fd, ps, F, hm, kp, b⟩ := c.ex
  exact pe_call F (hr.mono hk) hg hm kp b .nil hx ha hdb he hpl
theorem df_mkX {K : PySem.W.Frag} {mg : Str → Option Value} {x : Str} {st : Stmt} {ps N : List Str} {P : Program} {w : World} {base : Heap} {k : Nat} {sp : Sp} (D : Df K mg x st ps) (S : FnScope N ps (C8.fnScope st)) (len : ∀ vs H Q E, sp vs H Q E → vs.length = ps.length)
    (hbody : ∀ (f : Addr) (cdv : Value) (A : Around) (outer : List Env) (s : Shared) (H : Hp) (vs : List V) (Q : VK) (E : XK), Room k (A.deeper (PyProof.Rows.envOfC x (C8.fnScope st) s.heap.objs.size f cdv)) → sp vs H Q E →
      ∃ t, PSs (cxOf (L2.CX P w) P w K mg base N x (C8.fnScope st) f cdv A outer s H E) (C8.fnBody st) t ∧ t { nx := fun _ H' => Q .non H', rt := Q } (start N vs) H) : CalX P w K mg base (k + 1) x sp := by
  obtain ⟨f, fd, d, b⟩ := D.ex
  obtain ⟨oc, od, dV, kV, doc, pm, an, cdv, ct, osl, rfl, lk, hcd⟩ := d.fn.ex
  exact ⟨f, _, ps, fn_of lk hcd S len fun A outer s H vs Q E hr hsp => hbody f cdv A outer s H vs Q E hr hsp, d.mgf, d.kp, b⟩
abbrev s_few : Stmt := topS 41
theorem sc_few : FnScope ["some"] ["some"] (C8.fnScope s_few) := C8.fnScope_by (by decide +kernel)
abbrev s_all_stops : Stmt := topS 42
theorem sc_all_stops : FnScope ["pattern", "text", "found", "at", "letter", "late", "stop"] ["pattern", "text"] (C8.fnScope s_all_stops) := C8.fnScope_by (by decide +kernel)
def sp_few (C : Addr) : Sp := fun vs H Q E => ∃ (v : V) (ls : List PyData), vs = [v] ∧ Lp H v ls ∧ (ls.length ≤ 300 → ∀ H', Same H H' → Q v H') ∧ (300 < ls.length → ∀ H', Same H H' → E (.ref C) none H')
/-- from some stops on: none: too many on the way -/
def runF : List Nat → Nat → List Stop → Option (Option (List Stop))
  | [], _, S => some (some S)
  | c :: cs, p, S => (nextF S c (p + 1)).bind fun L => if 10000000 < L.length then none else if 300 < L.length then some none else runF cs (p + 1) L
def allF (p : Pat) (t : Str) : Option (Option (List Stop)) := (firstF p).bind fun L => if 10000000 < L.length then none else if 300 < L.length then some none else runF t.cps.toList 0 L
def sp_all (C : Addr) : Sp := fun vs H Q E => ∃ (p : Pat) (t : Str) (x y : V) (r : Option (List Stop)), vs = [x, y] ∧ Tp H x (enc p) ∧ Tp H y (.str t) ∧ okP 19 p = true ∧ groups p ≤ 1000 ∧ allF p t = some r ∧
  (match r with
   | some S => (∀ s ∈ S, okS s) → S.length ≤ 300 → ∀ v H', Same H H' → Lp H' v (S.map encS) → Q v H'
   | none => ∀ H', Same H H' → E (.ref C) none H')
theorem noM_ok {k : Nat} (h : k ≤ 1000) : okM (noM k) := ⟨by rw [noM, List.length_replicate]; exact h, fun x hx => by
  rw [noM] at hx
  rw [List.eq_of_mem_replicate hx]
  exact ⟨.non, .non⟩⟩
theorem firstF_ok {p : Pat} {L : List Stop} (h : firstF p = some L) (hok : okP 19 p = true) (hg : groups p ≤ 1000) : ∀ s ∈ L, okS s := fun s hs =>
  (stopsF_ok 110 h (.cons (okP_mono 19 _ (okP_num 19 p 0 hok)) fun f hf => absurd hf (by simp)) (noM_ok hg) s hs).1
theorem behindF_ok {s : Stop} {c p : Nat} {L : List Stop} (h : behindF s c p = some L) (hs : okS s) : ∀ u ∈ L, okS u := fun u hu => by
  obtain ⟨R, M⟩ := s
  cases R with
  | nil => cases h; cases hu
  | cons fr R =>
    cases fr with
    | turn q lo hi m d new => cases h
    | close g => cases h
    | pat q =>
      cases q with
      | one z =>
        replace h : (if c ∈ z.cps.toList then stopsF 110 R M p else some []) = some L := h
        by_cases hc : c ∈ z.cps.toList
        · rw [if_pos hc] at h
          exact (stopsF_ok 110 h hs.1.tail hs.2 u hu).1
        · rw [if_neg hc] at h
          cases h; cases hu
      | _ => cases h
theorem nextF_ok {S L : List Stop} {c p : Nat} (h : nextF S c p = some L) (hS : ∀ s ∈ S, okS s) : ∀ s ∈ L, okS s := fun s hs => by
  obtain ⟨x, hx, l, hl, hm⟩ := catO_mem h hs
  exact behindF_ok hl (hS x hx) s hm
section
variable {σ : L2.St} {H : Hp} {D : Ends} {ta : TA} {r : TS}
/-- a for over enumerate(text) -/
theorem sq_forE {g : TG} {tb : TS} {x : Str} (ha : EA ta σ H [.str x]) (h : ∀ H1, Same H H1 → ∃ Pv : Nat → L2.St → Hp → Prop, Pv 0 σ H1 ∧
      (∀ i c T σ' H', x.cps[i]? = some c → Pv i σ' H' → H' T = none → g (.ref T) σ' (upd H' T (.tup [.int (i : Nat), .str ⟨#[c]⟩])) fun σ2 H2 => tb { D with nx := Pv (i + 1), ct := Pv (i + 1), bk := r D } σ2 H2) ∧ ∀ σ' H', Pv x.cps.size σ' H' → r D σ' H') :
    tSeq (tFor (iEnumS ta) g tb) r D σ H := ha.use fun vs H1 s1 r1 => by
  obtain _ | ⟨r0, _ | _⟩ := r1
  cases r0.str_inv
  obtain ⟨Pv, h0, hs, hd⟩ := h H1 s1
  exact ⟨x, rfl, for_it (D := { D with nx := r D }) walk_enumS Pv h0 (fun _ _ _ _ _ => trivial) (fun i v σ' H' H2 hi p ⟨T, c, e1, e2, e3, e4⟩ => by subst e1; subst e3; exact hs i c T σ' H' e4 p e2) hd⟩
end
section
variable {P : Program} {w : World} {K : PySem.W.Frag} {mg : Str → Option Value} {base : Heap} {C : Addr}
theorem st_few {σ : L2.St} {H : Hp} {D : Ends} {E : XK} {te : TE} {ls : List PyData} {i : Nat} (el : EL te σ H ls) (q1 : ls.length ≤ 300 → ∀ v H', Same H H' → Lp H' v ls → D.nx (σ.set i (some v)) H') (q2 : 300 < ls.length → ∀ H', Same H H' → E (.ref C) none H') :
    tAsg (tCall (sp_few C) [] E (tCons te tNil)) (gName i) D σ H := el H (Same.refl _) _ fun v H1 s1 l1 => ⟨v, ls, rfl, l1, fun h H' s => q1 h v H' (s1.trans s) (l1.mono s), fun h H' s => q2 h H' (s1.trans s)⟩
theorem c_few_ok (T : Tx mg) (TM : TM K mg C) (D : Df K mg "few" s_few ["some"]) : CalX P w K mg base 1 "few" (sp_few C) := by
  refine df_mkX D sc_few (fun vs H Q E h => by obtain ⟨v, ls, rfl, _⟩ := h; rfl) fun f cdv A outer s H vs Q E hr h => ?_
  obtain ⟨v, ls, rfl, hl, q1, q2⟩ := h
  refine ⟨_, (pss_cons (ps_if (pt_cmpR op_gt (pe_callB (call_len_seqK (K := K) rfl) rfl T.m_len PySem.boot_len (pa_cons (pv 0) pa_nil)) (C8.pe_gc rfl T.g_MOST_STOPS) (nomark _)) (pss_one (ps_raise rfl (takes_of rfl rfl rfl rfl) (pmk_own PySem.F.excBase_ValueError TM.xc TM.g TM.k (raises_own TM.b TM.t) rfl))) pss_nil)
    (pss_one (ps_ret (pv 0)))), ?_⟩
  refine sq_if (b := decide (300 < (ls.length : Int))) (eb_test (et_gt (et_lenL (by walk_at "el")) et_int)) (fun e H1 s1 => ?_) (fun e H1 s1 => ?_)
  · exact q2 (by simp at e; omega) H1 s1
  · exact ⟨_, rfl, q1 (by simp at e; omega) H1 s1⟩
theorem c_all_stops_ok (T : Tx mg) (D : Df K mg "all_stops" s_all_stops ["pattern", "text"]) (c_few : CalX P w K mg base 1 "few" (sp_few C)) (c_first_stops : C8.Cal P w K mg base 222 "first_stops" (spL 1 F_first_stops) []) (c_stops_behind : C8.Cal P w K mg base 222 "stops_behind" (spL 3 F_stops_behind) []) :
    CalX P w K mg base 223 "all_stops" (sp_all C) := by
  refine df_mkX D sc_all_stops (fun vs H Q E h => by obtain ⟨p, t, x, y, r, rfl, _⟩ := h; rfl) fun f cdv A outer s H vs Q E hr h => ?_
  obtain ⟨p, t, x, y, r, rfl, hx, hy, hok, hg, hr1, q⟩ := h
  refine ⟨_, (pss_cons (ps_set (i := 2) sc_all_stops.nd rfl (Or.inl rfl) (pe_cX c_few hr (by omega) rfl (passes_call (takes_of rfl rfl rfl rfl) fun _ _ _ _ h => h) (pa_cons (C8.pe_c c_first_stops hr (by omega) rfl (pa_cons (pv 0) pa_nil)) pa_nil)))
    (pss_cons (ps_for (passes_of rfl) rfl (pi_enumS rfl T.m_enumerate (pa_cons (pv 1) pa_nil)) (pg_tupK (K := K) (n := 2) rfl rfl (pgs_cons (pg_name (i := 3) sc_all_stops.nd rfl (Or.inl rfl)) (pgs_cons (pg_name (i := 4) sc_all_stops.nd rfl (Or.inl rfl)) pgs_nil))) (pss_cons (ps_set (i := 5) sc_all_stops.nd rfl (Or.inl rfl) (pe_lst pa_nil))
    (pss_cons (ps_for (passes_of rfl) rfl (pi_listK (K := K) rfl (pv 2)) (pg_name (i := 6) sc_all_stops.nd rfl (Or.inl rfl)) (pss_one (ps_set (i := 5) sc_all_stops.nd rfl (Or.inl rfl) (pe_cX c_few hr (by omega) rfl (passes_call (takes_of rfl rfl rfl rfl) fun _ _ _ _ h => h) (pa_cons (pe_lst (pa_starK (K := K) rfl (pv 5) (pa_starK (K := K) rfl (C8.pe_c c_stops_behind hr (by omega) rfl (pa_cons (pv 6) (pa_cons (pv 4) (pa_cons (pe_op op_add (pv 3) pe_int) pa_nil)))) pa_nil))) pa_nil)))))
    (pss_one (ps_set (i := 2) sc_all_stops.nd rfl (Or.inl rfl) (pv 5))))))
    (pss_one (ps_ret (pv 2))))), ?_⟩
  obtain ⟨L0, hL0, hr1⟩ := Option.bind_eq_some_iff.mp hr1
  by_cases hz : 10000000 < L0.length
  · rw [if_pos hz] at hr1; cases hr1
  rw [if_neg hz] at hr1
  have el0 : EL (tCall (spL 1 F_first_stops) [] C8.E0 (tCons (tVar 0) tNil)) [some x, some y, none, none, none, none, none] H (L0.map encS) := el_call (by walk_at "ea") rfl ⟨p, L0, rfl, hok, hg, hL0, by omega, rfl⟩
  refine el0.use fun v0 H0 s0 l0 => ⟨v0, _, rfl, l0, fun hlen H1 s1 => ?_, fun hlen H1 s1 => ?_⟩
  · rw [List.length_map] at hlen
    rw [if_neg (by omega)] at hr1
    have s01 : Same H H1 := s0.trans s1
    have hS0 := firstF_ok hL0 hok hg
    show tSeq (tFor (iEnumS (tCons (tVar 1) tNil)) _ _) _ _ [some x, some y, some v0, none, none, none, none] H1
    refine sq_forE (x := t) (by walk_at "ea") fun H2 s2 => ⟨fun i σ' H' => Same H H' ∧ ∃ (S : List Stop) (vf : V) (v3 v4 v5 v6 : Option V), σ' = [some x, some y, some vf, v3, v4, v5, v6] ∧ Lp H' vf (S.map encS) ∧ (∀ s ∈ S, okS s) ∧ S.length ≤ 300 ∧ runF (t.cps.toList.drop i) i S = some r, ⟨s01.trans s2, L0, v0, none, none, none, none, rfl, (l0.mono s1).mono s2, hS0, by omega, by simpa using hr1⟩, fun i c T σ' H' hc ⟨sm, S, vf, v3, v4, v5, v6, e, lf, hS, hlS, hr⟩ hT => ?_, fun σ' H' ⟨sm, S, vf, v3, v4, v5, v6, e, lf, hS, hlS, hr⟩ => ?_⟩
    · subst e
      have sT : Same H (upd H' T (.tup [.int (i : Nat), .str ⟨#[c]⟩])) := sm.trans (same_new hT _)
      have sT' : Same H' (upd H' T (.tup [.int (i : Nat), .str ⟨#[c]⟩])) := same_new hT _
      refine ⟨T, _, rfl, SqT.of upd_same, rfl, _, _, rfl, _, _, rfl, rfl, ?_⟩
      have hdr : t.cps.toList.drop i = c :: t.cps.toList.drop (i + 1) := by
        have hc' : t.cps.toList[i]? = some c := by simpa using hc
        obtain ⟨hi, rfl⟩ := List.getElem?_eq_some_iff.mp hc'
        exact List.drop_eq_getElem_cons hi
      rw [hdr] at hr
      obtain ⟨L, hL, hr2⟩ := Option.bind_eq_some_iff.mp hr
      by_cases hz2 : 10000000 < L.length
      · rw [if_pos hz2] at hr2; cases hr2
      rw [if_neg hz2] at hr2
      refine sq_setL (EN.el (en_lst ea_nil (Nat.zero_le _))) fun va H5 s5 l5 => ?_
      obtain ⟨pf, xf, rfl, hpf, tf⟩ := lf
      refine sq_forV (ds := S.map encS) rfl (s5 _ _ (sT' _ _ hpf)) (tf.mono ((tle sT').trans (tle s5))) (fun j σ2 H6 => Same H5 H6 ∧ ∃ (acc : List Stop) (va : V) (v6 : Option V), σ2 = [some x, some y, some (.ref pf), some (.int (i : Nat)), some (.str ⟨#[c]⟩), some va, v6] ∧ nextF (S.take j) c (i + 1) = some acc ∧ acc.length ≤ 300 ∧ Lp H6 va (acc.map encS)) ⟨Same.refl _, [], va, v6, rfl, rfl, Nat.zero_le _, l5⟩ (fun j σ2 H6 h => ⟨tle h.1, h.1 _ _ (s5 _ _ (sT' _ _ hpf))⟩) (fun j d v σ2 H6 hd ⟨s6, acc, va, v6, e6, ha, hal, lva⟩ rv => ?_) (fun σ2 H6 ⟨s6, acc, va, v6, e6, ha, hal, lva⟩ => ?_)
      · subst e6
        obtain ⟨s', hs', rfl⟩ := encS_get hd
        obtain ⟨a, b, c', ha', hb, hab, hLe⟩ := catO_at hL hs'
        have ha2 : catO (fun s => behindF s c (i + 1)) (S.take j) = some acc := ha
        rw [ha2] at ha'
        cases ha'
        have hLl : L.length = acc.length + b.length + c'.length := by rw [hLe]; simp; omega
        have eb : EL (tCall (spL 3 F_stops_behind) [] C8.E0 (tCons (tVar 6) (tCons (tVar 4) (tCons (tOp (rI0 fun i j => .int (i + j)) (tVar 3) (tC (.int 1))) tNil)))) [some x, some y, some (.ref pf), some (.int (i : Nat)), some (.str ⟨#[c]⟩), some va, some v] H6 (b.map encS) :=
          el_call (ea_cons (by walk_at "et") (ea_cons (by walk_at "et") (ea_cons (et_add (et_var rfl (.int _)) et_int) ea_nil))) rfl ⟨s', c, i + 1, b, rfl, hS s' (List.mem_of_getElem? hs'), hb, by omega, rfl⟩
        have el7 := EN.el (en_lst (ea_starL (K := K) (ta := tVar 5) (es := acc.map encS) (H := H6) (σ := [some x, some y, some (.ref pf), some (.int (i : Nat)), some (.str ⟨#[c]⟩), some va, some v]) (by walk_at "el") (ea_starL (K := K) eb ea_nil)) (by simp; omega))
        refine st_few (σ := [some x, some y, some (.ref pf), some (.int (i : Nat)), some (.str ⟨#[c]⟩), some va, some v]) (i := 5) el7 (fun hlen v7 H8 s8 l7 => ?_) (fun hlen H8 s8 => ?_)
        · refine ⟨s6.trans s8, acc ++ b, v7, some v, rfl, hab, by simpa using hlen, ?_⟩
          simpa using l7
        · have hgt : 300 < L.length := by simp at hlen; omega
          rw [if_pos hgt] at hr2
          cases hr2
          exact q H8 (((sT.trans s5).trans s6).trans s8)
      · subst e6
        rw [List.length_map, List.take_length, hL] at ha
        cases ha
        rw [if_neg (by omega)] at hr2
        exact ⟨_, rfl, (sT.trans s5).trans s6, L, va, _, _, _, _, rfl, lva, nextF_ok hL hS, hal, hr2⟩
    · subst e
      have e0 : t.cps.toList.drop t.cps.size = [] := by simp
      rw [e0] at hr
      cases hr
      exact ⟨_, rfl, q hS hlS _ _ sm lf⟩
  · rw [List.length_map] at hlen
    rw [if_pos (by omega)] at hr1
    cases hr1
    exact q H1 (s0.trans s1)
end
end

section
open PySem.Spec PyProof.Rows
/-! zip over two texts -/
def ItzS (x y : Str) : It := ⟨fun i _ => i < x.cps.size ∧ i < y.cps.size, fun i H v H' => ∃ T c d, v = .ref T ∧ H T = none ∧ H' = upd H T (.tup [.str ⟨#[c]⟩, .str ⟨#[d]⟩]) ∧ x.cps[i]? = some c ∧ y.cps[i]? = some d, fun i _ => i = min x.cps.size y.cps.size⟩
def StrTy (ty : String) : Prop := ty = "str_ascii_iterator" ∨ ty = "str_iterator"
theorem strTy (x : Str) : StrTy (strIterType x) := by
  unfold strIterType
  split
  · exact .inl rfl
  · exact .inr rfl
theorem draws_str {prog : Program} {w : World} {A : Around} (hh : A.handled = none) (it : Addr) (x : Str) (t : Tok) {ty : String} (hty : StrTy ty) :
    Draws prog w A it [it] x.cps.size (fun i v => ∃ c u, x.cps[i]? = some c ∧ v = .str ⟨#[c]⟩ u) (fun i h => h.IsStrIter it ty x t i) := by
  rcases hty with e | e
  · rw [e]; exact Draws.strAscii hh it x t
  · rw [e]; exact Draws.strWide hh it x t
theorem turn_zipS {P : Program} {w : World} {K : PySem.W.Frag} {elts : List Expr} {kk : Nat} {tpos : Pos} {x y : Str} {t1 t2 : Tok} {ty1 ty2 : String} (k1 : StrTy ty1) (k2 : StrTy ty2) {z TI TO i1 i2 : Addr} (D : ZipSep2 z TI TO i1 i2 [i1] [i2]) :
    Turn P w K (.Tuple elts kk tpos) (ItzS x y) [z, TI, TO, i1, i2] z (fun i h => IsZip h z TI TO .none ∧ IsTupOf2 h TI (.ref i1) (.ref i2) ∧ (∃ a b, IsTupOf2 h TO a b) ∧ h.IsStrIter i1 ty1 x t1 i ∧ h.IsStrIter i2 ty2 y t2 i) where
  mem := by simp
  obj := fun i h st c hc => by
    obtain ⟨hz, hTI, ⟨x, y, hTO⟩, ⟨o1, e1, _, d1⟩, ⟨o2, e2, _, d2⟩⟩ := st
    have e' : c = z ∨ c = TI ∨ c = TO ∨ c = i1 ∨ c = i2 := by simpa using hc
    rcases e' with q | q | q | q | q
    · rw [q]; exact ⟨_, hz, fun v q => nomatch q⟩
    · rw [q]; exact ⟨_, hTI, fun v q => nomatch q⟩
    · rw [q]; exact ⟨_, hTO, fun v q => nomatch q⟩
    · rw [q]; exact ⟨o1, e1, fun v q => by rw [d1] at q; cases q⟩
    · rw [q]; exact ⟨o2, e2, fun v q => by rw [d2] at q; cases q⟩
  keep := fun i h h' st k => by
    obtain ⟨hz, hTI, ⟨x, y, hTO⟩, ⟨o1, e1, r1⟩, ⟨o2, e2, r2⟩⟩ := st
    exact ⟨k z (by simp) _ hz, k TI (by simp) _ hTI, ⟨x, y, k TO (by simp) _ hTO⟩, ⟨o1, k i1 (by simp) _ e1, r1⟩, ⟨o2, k i2 (by simp) _ e2, r2⟩⟩
  item := by
    intro X hP hw hK hc i pins s σ H E I hf st hg
    subst hP hw hK
    obtain ⟨hz, hTI, ⟨x0, y0, hTO⟩, h1, h2⟩ := st
    have D1 := draws_str (prog := X.prog) (w := X.w) (A := X.A.in1) (show X.A.in1.handled = none from I.ok.hd hc) i1 x t1 k1
    have D2 := draws_str (prog := X.prog) (w := X.w) (A := X.A.in1) (show X.A.in1.handled = none from I.ok.hd hc) i2 y t2 k2
    have hzl : z < s.heap.objs.size := Heap.lt_size hz
    refine wpAny_pyNext_zipD2_item D D1 D2 hz hTI hTO h1 h2 hg.1 hg.2 fun u u2 h' tk hu hu2 z' TO' h1' h2' hT hsz hk => ?_
    obtain ⟨c, w1, hcx, rfl⟩ := hu
    obtain ⟨d, w2, hdy, rfl⟩ := hu2
    refine ⟨_, rfl, wpAny_letOwnedTupleGo_zip (s := { s with heap := h', toks := tk }) z' fun h'' z'' sb => ?_⟩
    have hT2 : h''.get? s.heap.objs.size = some { cls := .type "tuple", data := .seq #[.str ⟨#[c]⟩ w1, .str ⟨#[d]⟩ w2] } := (sb.2 _ (Nat.ne_of_gt hzl)).trans hT
    have new : ObjOk X.prog X.w (upd H s.heap.objs.size (.tup [.str ⟨#[c]⟩, .str ⟨#[d]⟩])) h'' s.heap.objs.size (.tup [.str ⟨#[c]⟩, .str ⟨#[d]⟩]) :=
      ⟨by show 2 ≤ sizeLine; decide, [.str ⟨#[c]⟩ w1, .str ⟨#[d]⟩ w2], .cons ⟨_, rfl⟩ (.cons ⟨_, rfl⟩ .nil), ⟨_, hT2, rfl, _, rfl⟩⟩
    have I1 : Inv X pins σ (upd H s.heap.objs.size (.tup [.str ⟨#[c]⟩, .str ⟨#[d]⟩])) { s with heap := h'', toks := tk } :=
      I.turnedNew (t' := tk) (ch := [z, TI, TO, i1, i2]) (fun c o hb q => (sb.2 c (fun q' => hb (by simp [q']))).trans (hk c o (fun q' => hb (by simp [q'])) (fun q' => hb (by simp [q'])) (fun q' => hb (by simp [q'])) (fun q' => hb (by simp [q'])) q)) hf (Nat.le_refl _) new
    refine ⟨.ref s.heap.objs.size, _, I1, rfl, ⟨_, c, d, rfl, I.hok.fresh (Nat.le_refl _), rfl, hcx, hdy⟩, ⟨z'', ?_, ⟨.str ⟨#[c]⟩ w1, .str ⟨#[d]⟩ w2, ?_⟩, ?_, ?_⟩, fun c hcm => ?_⟩
    · exact (sb.2 _ D.TIz).trans (hk _ _ D.TIz D.TITO D.TIi1 D.TIi2 hTI)
    · exact (sb.2 _ D.TOz).trans TO'
    · obtain ⟨o, ho, r⟩ := h1'
      exact ⟨o, (sb.2 _ D.zi1.symm).trans ho, r⟩
    · obtain ⟨o, ho, r⟩ := h2'
      exact ⟨o, (sb.2 _ D.zi2.symm).trans ho, r⟩
    · have hlt : c < s.heap.objs.size := by
        have e' : c = z ∨ c = TI ∨ c = TO ∨ c = i1 ∨ c = i2 := by simpa using hcm
        rcases e' with q | q | q | q | q
        · rw [q]; exact hzl
        · rw [q]; exact Heap.lt_size hTI
        · rw [q]; exact Heap.lt_size hTO
        · rw [q]; obtain ⟨_, e1, _⟩ := h1; exact Heap.lt_size e1
        · rw [q]; obtain ⟨_, e2, _⟩ := h2; exact Heap.lt_size e2
      rw [upd_ne (Nat.ne_of_lt hlt)]
      exact (hf c hcm).1
  done := by
    intro X hP hw hK hc i pins s σ H E I hf st hg
    subst hP hw hK
    obtain ⟨hz, hTI, ⟨x0, y0, hTO⟩, h1, h2⟩ := st
    have D1 := draws_str (prog := X.prog) (w := X.w) (A := X.A.in1) (show X.A.in1.handled = none from I.ok.hd hc) i1 x t1 k1
    have D2 := draws_str (prog := X.prog) (w := X.w) (A := X.A.in1) (show X.A.in1.handled = none from I.ok.hd hc) i2 y t2 k2
    have hg' : i = min x.cps.size y.cps.size := hg
    exact wpAny_pyNext_zipD2_end D D1 D2 hz hTI hTO h1 h2 (by omega) (by omega) (by omega) fun h' tk hk => ⟨rfl, I.turnedL (t' := tk) (ch := [z, TI, TO, i1, i2]) (fun c o hb q =>
      hk c o (fun q' => hb (by simp [q'])) (fun q' => hb (by simp [q'])) (fun q' => hb (by simp [q'])) (fun q' => hb (by simp [q'])) q) hf⟩
  self := fun A i s Q E st h => wpAny_pyIter_zip st.1 h
def iZipS (ta : TA) : TI := fun σ H R => ta σ H fun vs H1 => ∃ x y, vs = [.str x, .str y] ∧ R (ItzS x y) H1
theorem zipsep (n : Nat) : ZipSep2 (n + 4) (n + 2) (n + 3) n (n + 1) [n] [n + 1] where
  TIz := Nat.ne_of_lt (by omega)
  TOz := Nat.ne_of_lt (by omega)
  TITO := Nat.ne_of_lt (by omega)
  TIi1 := Nat.ne_of_gt (by omega)
  mem1 := by simp
  zf1 := by simp
  Tf1 := by simp
  TIi2 := Nat.ne_of_gt (by omega)
  mem2 := by simp
  zf2 := by simp
  Tf2 := by simp
  sep1_2 := by simp
  sep2_1 := by simp
theorem pi_zipS {X : Cx} {e e2 : Expr} {ta : TA} {p pos tpos : Pos} {elts : List Expr} {kk : Nat} (hg : Gl X "zip") (hm : X.mg "zip" = none) (ha : PA X [e, e2] ta)
    (hs : starEach [e, e2] X.env = (false, eval e X.env) :: starEach [e2] X.env := by rfl) (hpl : (backTo pos (starEach [e2] X.env)).any (·.1) = false := by rfl) :
    PI X (.Tuple elts kk tpos) (.Call (.Name "zip" p) [e, e2] [] pos) (iZipS ta) := by
  refine ⟨fun pins s σ H R I h => ?_⟩
  refine Call_ (ld_blt I hg hm PyProof.Rows.boot_zip (PyProof.Rows.callWith_type1 (thn (ha.run pos pins s σ H _ I h) fun us s1 ⟨vs, H1, I1, r1, q1⟩ => ?_) hs hpl))
  obtain ⟨x, y, ex, q⟩ := q1
  subst ex
  cases r1 with
  | cons r rr =>
    cases rr with
    | cons r' rr =>
      cases rr
      obtain ⟨t, rfl⟩ := r
      obtain ⟨t', rfl⟩ := r'
      refine zip_begins2 (begins_text x t) (begins_text y t') trivial trivial fun h' hz hTI hTO h1 h2 hsz hk => wpAny_pyIter_zip hz ?_
      have I2 : Inv X pins σ H1 { s1 with heap := h' } := I1.kept (t' := s1.toks) hk
      refine ⟨s1.heap.objs.size + 4, [s1.heap.objs.size + 4, s1.heap.objs.size + 2, s1.heap.objs.size + 3, s1.heap.objs.size, s1.heap.objs.size + 1], _, _, H1, rfl, I2, turn_zipS (t1 := t) (t2 := t') (strTy x) (strTy y) (zipsep s1.heap.objs.size), ⟨hz, hTI, ⟨_, _, hTO⟩, ⟨_, h1, rfl, rfl⟩, ⟨_, h2, rfl, rfl⟩⟩, fun c hcm => ?_, q⟩
      have e' : c = s1.heap.objs.size + 4 ∨ c = s1.heap.objs.size + 2 ∨ c = s1.heap.objs.size + 3 ∨ c = s1.heap.objs.size ∨ c = s1.heap.objs.size + 1 := by simpa using hcm
      have hle : s1.heap.objs.size ≤ c := by
        rcases e' with z | z | z | z | z
        · rw [z]; exact Nat.le_add_right _ _
        · rw [z]; exact Nat.le_add_right _ _
        · rw [z]; exact Nat.le_add_right _ _
        · rw [z]; exact Nat.le_refl _
        · rw [z]; exact Nat.le_add_right _ _
      exact I1.fpOk hle (I1.hok.fresh hle)
theorem walk_zipS {x y : Str} : Walk (ItzS x y) (min x.cps.size y.cps.size) (fun _ => True) (fun i H v H' => ∃ T c d, v = .ref T ∧ H T = none ∧ H' = upd H T (.tup [.str ⟨#[c]⟩, .str ⟨#[d]⟩]) ∧ x.cps[i]? = some c ∧ y.cps[i]? = some d) :=
  ⟨fun i H hi _ => ⟨by omega, by omega⟩, fun _ _ => rfl, fun i H v H' _ _ y => y⟩
end

section
/-! more readings: isinstance, all, sum, texts, comprehensions over texts and over zip -/
section
variable {K : PySem.W.Frag} {σ : L2.St} {H : Hp} {te ta tb tc : TE} {tt : TT} {t : TA} {d e : PyData} {ds es : List PyData} {i j k : Int} {b c : Bool}
/-- the type of a datum -/
def tyD : PyData → String
  | .none => "NoneType"
  | .bool _ => "bool"
  | .int _ => "int"
  | .str _ => "str"
  | _ => "tuple"
theorem tp_ty {v : V} (r : Tp H v d) (hn : d ≠ .none) : TyX K H v (.type (tyD d)) := by
  cases r with
  | non => exact absurd rfl hn
  | bl b => exact .base (.bl b)
  | int i => exact .base (.int i)
  | str x => exact .base (.str x)
  | tup hp r => exact .base (.tup hp)
theorem et_isi {n : String} (ha : ET ta σ H d) (hn : d ≠ .none) (h : kitB (tyD d) n = some b) : ET (tCB (rIsi K) (tCons ta (tCons (tC (.ty n)) tNil))) σ H (.bool b) := fun H1 a Q q =>
  ha H1 a _ fun v H2 s2 r2 => ⟨v, .ty n, .type (tyD d), .type n, b, rfl, .ty n, tp_ty r2 hn, kit_ty h, q _ H2 s2 (.bl b)⟩
theorem et_leC (ha : ET ta σ H (.int i)) (hb : ET tb σ H (.int j)) (hc : ET tc σ H (.int k)) : ET (tChain (rI0 fun i j => .bl (decide (i ≤ j))) (rI0 fun i j => .bl (decide (i ≤ j))) ta tb tc) σ H (.bool (decide (i ≤ j) && decide (j ≤ k))) := fun H1 a Q q =>
  ha H1 a _ fun v H2 s2 r2 => hb H2 (a.trans s2) _ fun w H3 s3 r3 => by
    cases r2.int_inv
    cases r3.int_inv
    refine ⟨i, j, rfl, rfl, _, rfl, ?_⟩
    by_cases h : i ≤ j
    · rw [if_pos (by simpa using h)]
      refine hc H3 ((a.trans s2).trans s3) _ fun z H4 s4 r4 => ?_
      cases r4.int_inv
      refine ⟨j, k, rfl, rfl, q _ H4 ((s2.trans s3).trans s4) ?_⟩
      have e1 : decide (i ≤ j) = true := by simpa using h
      rw [e1, Bool.true_and]
      exact .bl _
    · have e1 : decide (i ≤ j) = false := by simpa using h
      rw [e1, if_neg Bool.false_ne_true]
      refine q _ H3 (s2.trans s3) ?_
      rw [e1]
      exact .bl _
theorem et_andT {b : Bool} (ha : ET ta σ H (.bool b)) (e : b = true) (hb : ET tb σ H d) : ET (tAndV ta tb) σ H d := et_and ha (fun _ => hb) fun h => by rw [e] at h; cases h
theorem et_mul (ha : ET ta σ H (.int i)) (hb : ET tb σ H (.int j)) (h : CMulW i j) : ET (tOp (rI CMulW fun i j => .int (i * j)) ta tb) σ H (.int (i * j)) := fun H1 a Q q =>
  ha H1 a _ fun v H2 s2 r2 => hb H2 (a.trans s2) _ fun w H3 s3 r3 => by
    cases r2.int_inv
    cases r3.int_inv
    exact ⟨i, j, rfl, rfl, h, q _ H3 (s2.trans s3) (.int _)⟩
theorem et_slS {z : Str} {tl th : TO} {lo hi : Option Int} (ha : ET ta σ H (.str z)) (hl : EO tl σ H lo) (hh : EO th σ H hi) (hz : z.length ≤ 16000000) : ET (tSl rSlS ta tl th) σ H (.str (cutS z lo hi)) := fun H1 a Q q =>
  ha H1 a _ fun v H2 s2 r2 => hl H2 (a.trans s2) _ fun H3 s3 => hh H3 ((a.trans s2).trans s3) _ fun H4 s4 => by
    cases r2.str_inv
    exact ⟨z, rfl, sz_ok hz, q _ H4 ((s2.trans s3).trans s4) (.str _)⟩
theorem et_ixS {z : Str} {c : Nat} (ha : ET ta σ H (.str z)) (hb : ET tb σ H (.int i)) (hz : z.length ≤ 16000000) (e : atI z.cps.toList i = some c) : ET (tOp rIxS ta tb) σ H (.str ⟨#[c]⟩) := fun H1 a Q q =>
  ha H1 a _ fun v H2 s2 r2 => hb H2 (a.trans s2) _ fun w H3 s3 r3 => by
    cases r2.str_inv
    cases r3.int_inv
    exact ⟨z, i, c, rfl, rfl, sz_ok hz, e, q _ H3 (s2.trans s3) (.str _)⟩
theorem et_ltS {x y : Str} (ha : ET ta σ H (.str x)) (hb : ET tb σ H (.str y)) : ET (tOp (fun x y H Q => ∃ i j, x = .str i ∧ y = .str j ∧ Q (.bl (decide (i.cps.toList < j.cps.toList))) H) ta tb) σ H (.bool (decide (x.cps.toList < y.cps.toList))) := fun H1 a Q q =>
  ha H1 a _ fun v H2 s2 r2 => hb H2 (a.trans s2) _ fun w H3 s3 r3 => by
    cases r2.str_inv
    cases r3.str_inv
    exact ⟨x, y, rfl, rfl, q _ H3 (s2.trans s3) (.bl _)⟩
theorem tpa_bls : ∀ {xs : List V} {bs : List Bool}, TpA H xs (bs.map PyData.bool) → xs = bs.map V.bl
  | _, [], .nil => rfl
  | _, b :: bs, .cons h r => by
    cases h.bool_inv
    rw [tpa_bls r]; rfl
theorem tpa_ints : ∀ {xs : List V} {ns : List Int}, TpA H xs (ns.map PyData.int) → xs = ns.map V.int
  | _, [], .nil => rfl
  | _, n :: ns, .cons h r => by
    cases h.int_inv
    rw [tpa_ints r]; rfl
theorem et_all {bs : List Bool} (ha : EL ta σ H (bs.map PyData.bool)) : ET (tCB (rAll K) (tCons ta tNil)) σ H (.bool (bs.all id)) := fun H1 a Q q =>
  ha H1 a _ fun v H2 s2 r2 => by
    obtain ⟨p, xs, rfl, hp, r⟩ := r2
    exact ⟨p, bs, rfl, by rw [← tpa_bls r]; exact SqL.of hp, q _ H2 s2 (.bl _)⟩
theorem et_sum {ns : List Int} (ha : EL ta σ H (ns.map PyData.int)) : ET (tCB (rSum K) (tCons ta tNil)) σ H (.int ns.sum) := fun H1 a Q q =>
  ha H1 a _ fun v H2 s2 r2 => by
    obtain ⟨p, xs, rfl, hp, r⟩ := r2
    exact ⟨p, ns, rfl, by rw [← tpa_ints r]; exact SqL.of hp, q _ H2 s2 (.int _)⟩
/-- a comprehension over any source that is walked -/
theorem en_lcW {α : Type} {ti : TI} {J : It} {n : Nat} {Y : Nat → Hp → V → Hp → Prop} {g : TG} {vs : List Nat} (w : Walk J n (fun _ => True) Y) (as : List α) (dd : α → PyData) (p : α → Bool) (f : α → PyData)
    (hi : ∀ H0, Same H H0 → ∀ R : It → Hp → Prop, (∀ H1, Same H0 H1 → R J H1) → ti σ H0 R) (hn : as.length = n) (hz : as.length ≤ 16000000)
    (hY : ∀ i H v H' a, Y i H v H' → as[i]? = some a → Same H H' ∧ Tp H' v (dd a))
    (hs : ∀ a ∈ as, LcTurn g tt te vs σ H (dd a) (p a) (f a)) : EN (tLc ti g tt te vs) σ H ((as.filter p).map f) := fun H0 a Q q =>
  hi H0 a _ fun H1 s1 D hD => by
    refine lc_it w (fun i Hc => Same H1 Hc ∧ ∃ acc, Hc D = some (.lst acc) ∧ TpA Hc acc (((as.take i).filter p).map f)) ⟨same_new hD _, [], upd_same, by simpa using TpA.nil⟩ (fun _ _ _ _ => trivial) (fun i x Hc0 Hc hin ⟨sc0, acc, hacc0, ra0⟩ y => ?_) (fun Hc ⟨sc, acc, hacc, ra⟩ => ?_)
    · obtain ⟨u, hd⟩ : ∃ u, as[i]? = some u := ⟨as[i]'(by omega), List.getElem?_eq_getElem (by omega)⟩
      obtain ⟨sy, rd⟩ := hY i _ x _ u y hd
      have sc := sc0.trans sy
      have hacc := sy _ _ hacc0
      have ra := ra0.mono (tle sy)
      obtain ⟨σ2, hg, hw, ht, he⟩ := hs u (List.mem_of_getElem? hd) x Hc ((a.trans s1).trans sc) rd
      have hlen : acc.length ≤ i := by
        rw [ra.length, List.length_map]
        refine Nat.le_trans (List.length_filter_le _ _) ?_
        rw [List.length_take]; omega
      refine hg _ ⟨hw, ht Hc (Same.refl Hc) _ fun H3 s3 => ?_⟩
      cases hb : p u with
      | true =>
        refine iteT (he hb H3 s3 _ fun y H4 s4 r4 => ?_)
        have s34 := s3.trans s4
        have hD4 : H4 D = some (.lst acc) := s34 _ _ hacc
        refine ⟨acc, hD4, sz_lt (by omega), same_mut (sc.trans s34) hD, acc ++ [y], upd_same, ?_⟩
        rw [take_succ hd, List.filter_append, List.map_append]
        have tl4 : TLe H4 (upd H4 D (.lst (acc ++ [y]))) := tle_lst hD4
        refine ((ra.mono (tle s34)).mono tl4).append ?_
        simp only [List.filter, hb, List.map]
        exact .cons (r4.mono tl4) .nil
      | false =>
        refine iteF ⟨sc.trans s3, acc, s3 _ _ hacc, ?_⟩
        rw [take_succ hd, List.filter_append, List.map_append]
        simp only [List.filter, hb, List.map, List.append_nil]
        exact ra.mono (tle s3)
    · refine q D acc Hc (s1.free hD) (s1.trans sc) hacc ?_
      rw [← hn, List.take_length] at ra
      exact ra
theorem en_lcS {g : TG} {vs : List Nat} {z : Str} (p : Nat → Bool) (f : Nat → PyData) (hi : ET ta σ H (.str z)) (hz : z.length ≤ 16000000)
    (hs : ∀ a ∈ z.cps.toList, LcTurn g tt te vs σ H (.str ⟨#[a]⟩) (p a) (f a)) : EN (tLc (iStr ta) g tt te vs) σ H ((z.cps.toList.filter p).map f) :=
  en_lcW walk_str z.cps.toList (fun c => .str ⟨#[c]⟩) p f (fun H0 a R q => hi H0 a _ fun v H1 s1 r1 => by
    cases r1.str_inv
    exact ⟨z, rfl, q H1 s1⟩) (by simp) (by show z.cps.toList.length ≤ _; rw [Array.length_toList]; exact hz) (fun i H v H' a y e => by
    obtain ⟨rfl, c, hc, rfl⟩ := y
    have : c = a := by
      rw [Array.getElem?_toList, hc] at e
      exact Option.some.inj e
    subst this
    exact ⟨Same.refl _, .str _⟩) hs
theorem en_lcZ {g : TG} {vs : List Nat} {x y : Str} (p : Nat × Nat → Bool) (f : Nat × Nat → PyData) (hi : EA t σ H [.str x, .str y]) (hz : x.length ≤ 16000000)
    (hs : ∀ a ∈ x.cps.toList.zip y.cps.toList, LcTurn g tt te vs σ H (.tuple [.str ⟨#[a.1]⟩, .str ⟨#[a.2]⟩]) (p a) (f a)) : EN (tLc (iZipS t) g tt te vs) σ H (((x.cps.toList.zip y.cps.toList).filter p).map f) :=
  en_lcW walk_zipS (x.cps.toList.zip y.cps.toList) (fun c => .tuple [.str ⟨#[c.1]⟩, .str ⟨#[c.2]⟩]) p f (fun H0 a R q => hi H0 a _ fun vs H1 s1 r1 => by
    obtain _ | ⟨h0, _ | ⟨h1, _ | _⟩⟩ := r1
    cases h0.str_inv
    cases h1.str_inv
    exact ⟨x, y, rfl, q H1 s1⟩) (by simp) (by
      have : x.cps.size ≤ 16000000 := hz
      simp; omega) (fun i H v H' a w e => by
    obtain ⟨T, c, d, rfl, hT, rfl, hc, hd⟩ := w
    have : a = (c, d) := by
      rw [List.getElem?_zip_eq_some] at e
      simp only [Array.getElem?_toList, hc, hd] at e
      exact Prod.ext (Option.some.inj e.1).symm (Option.some.inj e.2).symm
    subst this
    exact ⟨same_new hT _, .tup upd_same (.cons (.str _) (.cons (.str _) .nil))⟩) hs
theorem all_id {α : Type} (l : List α) (f : α → Bool) : (l.map f).all id = l.all f := by induction l with
  | nil => rfl
  | cons x l ih => simp only [List.map_cons, List.all_cons, ih, id]
theorem map_bl {α : Type} (l : List α) (f : α → Bool) : ((l.filter fun _ => true).map fun a => PyData.bool (f a)) = (l.map f).map PyData.bool := by rw [filter_yes, List.map_map]; rfl
theorem map_in {α : Type} (l : List α) (f : α → Int) : ((l.filter fun _ => true).map fun a => PyData.int (f a)) = (l.map f).map PyData.int := by rw [filter_yes, List.map_map]; rfl
theorem et_allS {g : TG} {vs : List Nat} {z : Str} (f : Nat → Bool) (hi : ET ta σ H (.str z)) (hz : z.length ≤ 16000000) (hs : ∀ a ∈ z.cps.toList, LcTurn g tt te vs σ H (.str ⟨#[a]⟩) true (.bool (f a))) :
    ET (tCB (rAll K) (tCons (tLc (iStr ta) g tt te vs) tNil)) σ H (.bool (z.cps.toList.all f)) :=
  ET.to (et_all (EL.to (EN.el (en_lcS (fun _ => true) (fun a => .bool (f a)) hi hz hs)) (map_bl _ _))) (by rw [all_id])
theorem et_allZ {g : TG} {vs : List Nat} {x y : Str} (f : Nat × Nat → Bool) (hi : EA t σ H [.str x, .str y]) (hz : x.length ≤ 16000000) (hs : ∀ a ∈ x.cps.toList.zip y.cps.toList, LcTurn g tt te vs σ H (.tuple [.str ⟨#[a.1]⟩, .str ⟨#[a.2]⟩]) true (.bool (f a))) :
    ET (tCB (rAll K) (tCons (tLc (iZipS t) g tt te vs) tNil)) σ H (.bool ((x.cps.toList.zip y.cps.toList).all f)) :=
  ET.to (et_all (EL.to (EN.el (en_lcZ (fun _ => true) (fun a => .bool (f a)) hi hz hs)) (map_bl _ _))) (by rw [all_id])
theorem et_allT {α : Type} {g : TG} {vs : List Nat} (as : List α) (dd : α → PyData) (f : α → Bool) (hi : ET ta σ H (.tuple (as.map dd))) (hz : as.length ≤ 16000000) (hs : ∀ a ∈ as, LcTurn g tt te vs σ H (dd a) true (.bool (f a))) :
    ET (tCB (rAll K) (tCons (tLc (iTup K ta) g tt te vs) tNil)) σ H (.bool (as.all f)) :=
  ET.to (et_all (EL.to (EN.el (en_lcT as dd (fun _ => true) (fun a => .bool (f a)) hi hz hs)) (map_bl _ _))) (by rw [all_id])
theorem et_sumL {α : Type} {g : TG} {vs : List Nat} (as : List α) (dd : α → PyData) (f : α → Int) (hi : EL ta σ H (as.map dd)) (hz : as.length ≤ 16000000) (hs : ∀ a ∈ as, LcTurn g tt te vs σ H (dd a) true (.int (f a))) :
    ET (tCB (rSum K) (tCons (tLc (iList K ta) g tt te vs) tNil)) σ H (.int (as.map f).sum) :=
  et_sum (EL.to (EN.el (en_lcL as dd (fun _ => true) (fun a => .int (f a)) hi hz hs)) (map_in _ _))
theorem kb_int : kitB "int" "int" = some true := by decide +kernel
theorem kb_ib : kitB "int" "bool" = some false := by decide +kernel
theorem kb_str : kitB "str" "str" = some true := by decide +kernel
theorem kb_tup : kitB "tuple" "tuple" = some true := by decide +kernel
theorem et_isI {i : Int} (ha : ET ta σ H (.int i)) : ET (tCB (rIsi K) (tCons ta (tCons (tC (.ty "int")) tNil))) σ H (.bool true) := et_isi ha (by simp) kb_int
theorem et_isB {i : Int} (ha : ET ta σ H (.int i)) : ET (tCB (rIsi K) (tCons ta (tCons (tC (.ty "bool")) tNil))) σ H (.bool false) := et_isi ha (by simp) kb_ib
theorem et_isS {z : Str} (ha : ET ta σ H (.str z)) : ET (tCB (rIsi K) (tCons ta (tCons (tC (.ty "str")) tNil))) σ H (.bool true) := et_isi ha (by simp) kb_str
theorem et_isT (ha : ET ta σ H (.tuple ds)) : ET (tCB (rIsi K) (tCons ta (tCons (tC (.ty "tuple")) tNil))) σ H (.bool true) := et_isi ha (by simp) kb_tup
end
end

section

/-! ### the checks: all that is drawn passes them -/
def abcS (s : Nat) : Str := cutS "abc" .none (some (s : Int))
def inAbc (s : Nat) (z : Str) : Bool := z.cps.toList.all fun c => decide (c ∈ (abcS s).cps.toList)
def rises (z : Str) : Bool := (z.cps.toList.zip z.cps.toList.tail).all fun a => decide (a.1 < a.2)
def goodZ (s : Nat) (z : Str) : Bool := inAbc s z && !z.cps.toList.isEmpty && rises z && decide (z.length ≤ 3)
def goodHi (lo : Nat) : Option Nat → Bool
  | .none => true
  | some h => decide (1 ≤ h) && decide (lo ≤ h) && decide (h ≤ 3)
def goodP (s : Nat) : Nat → Pat → Bool
  | 0, _ => false
  | _ + 1, .none => true
  | _ + 1, .empty => true
  | _ + 1, .one z => goodZ s z
  | k + 1, .row ps => decide (2 ≤ ps.length) && decide (ps.length ≤ 4) && ps.all (goodP s k)
  | k + 1, .any ps => decide (2 ≤ ps.length) && decide (ps.length ≤ 4) && ps.all (goodP s k)
  | k + 1, .again p lo hi _ => goodP s k p && decide (lo ≤ 3) && goodHi lo hi
  | k + 1, .group p g => goodP s k p && decide (g = .none)
mutual
def partsF : Pat → Nat
  | .row ps => 1 + partsL ps
  | .any ps => 1 + partsL ps
  | .again p _ _ _ => 1 + partsF p
  | .group p _ => 1 + partsF p
  | .none => 1
  | .empty => 1
  | .one _ => 1
def partsL : List Pat → Nat
  | [] => 0
  | p :: ps => partsF p + partsL ps
end
def timesHi (lo : Nat) : Option Nat → Nat
  | .none => lo + 1
  | some h => h
mutual
def weightF : Pat → Nat
  | .row ps => weightL ps
  | .any ps => weightL ps
  | .again p lo hi _ => weightF p * timesHi lo hi
  | .group p _ => weightF p
  | .none => 0
  | .empty => 1
  | .one _ => 1
def weightL : List Pat → Nat
  | [] => 0
  | p :: ps => weightF p + weightL ps
end
def inner : Pat → List Pat
  | .row ps => ps
  | .any ps => ps
  | .again p _ _ _ => [p]
  | .group p _ => [p]
  | _ => []
theorem partsL_sum : ∀ ps : List Pat, ((partsL ps : Nat) : Int) = (ps.map fun p => ((partsF p : Nat) : Int)).sum
  | [] => rfl
  | p :: ps => by rw [partsL, List.map_cons, List.sum_cons, ← partsL_sum ps]; omega
theorem weightL_sum : ∀ ps : List Pat, ((weightL ps : Nat) : Int) = (ps.map fun p => ((weightF p : Nat) : Int)).sum
  | [] => rfl
  | p :: ps => by rw [weightL, List.map_cons, List.sum_cons, ← weightL_sum ps]; omega
theorem parts_inner (p : Pat) : partsF p = 1 + partsL (inner p) := by
  cases p with
  | row ps => rw [partsF, inner]
  | any ps => rw [partsF, inner]
  | again p lo hi m => rw [partsF, inner, partsL, partsL]; omega
  | group p g => rw [partsF, inner, partsL, partsL]; omega
  | none => rfl
  | empty => rfl
  | one z => rfl
theorem okP_inner {k : Nat} {p : Pat} (h : okP (k + 1) p = true) : ∀ q ∈ inner p, okP k q = true := by
  cases p with
  | row ps => simp only [okP, Bool.and_eq_true, List.all_eq_true] at h; exact h.2
  | any ps => simp only [okP, Bool.and_eq_true, List.all_eq_true] at h; exact h.2
  | again p lo hi m => intro q hq; cases (show q = p by simpa [inner] using hq); exact h
  | group p g => intro q hq; cases (show q = p by simpa [inner] using hq); exact h
  | none => intro q hq; simp [inner] at hq
  | empty => intro q hq; simp [inner] at hq
  | one z => intro q hq; simp [inner] at hq
theorem goodP_inner {s k : Nat} {p : Pat} (h : goodP s (k + 1) p = true) : ∀ q ∈ inner p, goodP s k q = true := by
  cases p with
  | row ps => simp only [goodP, Bool.and_eq_true, List.all_eq_true] at h; exact h.2
  | any ps => simp only [goodP, Bool.and_eq_true, List.all_eq_true] at h; exact h.2
  | again p lo hi m =>
    intro q hq; cases (show q = p by simpa [inner] using hq)
    simp only [goodP, Bool.and_eq_true] at h
    exact h.1.1
  | group p g =>
    intro q hq; cases (show q = p by simpa [inner] using hq)
    simp only [goodP, Bool.and_eq_true] at h
    exact h.1
  | none => intro q hq; simp [inner] at hq
  | empty => intro q hq; simp [inner] at hq
  | one z => intro q hq; simp [inner] at hq
theorem inner_len {s k : Nat} {p : Pat} (h : goodP s (k + 1) p = true) : (inner p).length ≤ 4 := by
  cases p with
  | row ps => simp only [goodP, Bool.and_eq_true, decide_eq_true_eq] at h; exact h.1.2
  | any ps => simp only [goodP, Bool.and_eq_true, decide_eq_true_eq] at h; exact h.1.2
  | _ => simp [inner]
theorem weight_bound {s : Nat} : ∀ (k : Nat) (p : Pat), goodP s k p = true → weightF p < 2 ^ (2 * k) + 1
  | 0, _, h => by simp [goodP] at h
  | k + 1, p, h => by
    have e4 : 2 ^ (2 * (k + 1)) = 4 * 2 ^ (2 * k) := by rw [show 2 * (k + 1) = 2 * k + 2 by omega, Nat.pow_add]; omega
    have h0 : 0 < 2 ^ (2 * k) := Nat.two_pow_pos _
    have ih := fun q hq => weight_bound k q (goodP_inner h q hq)
    have many : ∀ ps : List Pat, (∀ q ∈ ps, weightF q < 2 ^ (2 * k) + 1) → weightL ps ≤ ps.length * 2 ^ (2 * k) := by
      intro ps
      induction ps with
      | nil => intro _; rw [weightL]; exact Nat.zero_le _
      | cons p ps ih2 =>
        intro hq
        have a := hq p List.mem_cons_self
        have b := ih2 fun q hq' => hq q (List.mem_cons_of_mem _ hq')
        rw [weightL, List.length_cons, Nat.add_mul]
        omega
    have hl := inner_len h
    cases p with
    | row ps =>
      have := many ps ih
      have h2 : ps.length * 2 ^ (2 * k) ≤ 4 * 2 ^ (2 * k) := Nat.mul_le_mul_right _ hl
      rw [weightF]; omega
    | any ps =>
      have := many ps ih
      have h2 : ps.length * 2 ^ (2 * k) ≤ 4 * 2 ^ (2 * k) := Nat.mul_le_mul_right _ hl
      rw [weightF]; omega
    | again p lo hi m =>
      have hp := ih p (by simp [inner])
      have ht : timesHi lo hi ≤ 4 := by
        simp only [goodP, Bool.and_eq_true, decide_eq_true_eq] at h
        cases hi with
        | none => have := h.1.2; rw [timesHi]; omega
        | some x =>
          have := h.2
          simp only [goodHi, Bool.and_eq_true, decide_eq_true_eq] at this
          rw [timesHi]; omega
      rw [weightF]
      have := Nat.mul_le_mul (Nat.le_of_lt_succ hp) ht
      omega
    | group p g => rw [weightF]; have := ih p (by simp [inner]); omega
    | none => rw [weightF]; omega
    | empty => rw [weightF]; omega
    | one z => rw [weightF]; omega
def F_is_number (ds : List PyData) (d : PyData) : Prop := ∃ i lo hi : Int, ds = [.int i, .int lo, .int hi] ∧ lo ≤ i ∧ i ≤ hi ∧ d = .bool true
def F_is_size (ds : List PyData) (d : PyData) : Prop := ∃ s : Nat, ds = [.int (s : Int)] ∧ 1 ≤ s ∧ s ≤ 3 ∧ d = .bool true
def F_check_size (ds : List PyData) (d : PyData) : Prop := ∃ s : Nat, ds = [.int (s : Int)] ∧ 1 ≤ s ∧ s ≤ 3 ∧ d = .none
def F_is_text (ds : List PyData) (d : PyData) : Prop := ∃ (s : Nat) (z : Str), ds = [.int (s : Int), .str z] ∧ inAbc s z = true ∧ z.length ≤ 1000000 ∧ d = .bool true
def F_check_text (ds : List PyData) (d : PyData) : Prop := ∃ (s : Nat) (z : Str), ds = [.int (s : Int), .str z] ∧ inAbc s z = true ∧ z.length ≤ 1000000 ∧ d = .none
def F_is_word_of (ds : List PyData) (d : PyData) : Prop := ∃ x y z : Str, ds = [.str x, .tuple [.str y, .str z]] ∧ x ∈ [y, z] ∧ d = .bool true
def F_is_letters (ds : List PyData) (d : PyData) : Prop := ∃ (s : Nat) (z : Str), ds = [.int (s : Int), .str z] ∧ goodZ s z = true ∧ d = .bool true
abbrev s_is_number : Stmt := topS 11
theorem sc_is_number : FnScope ["thing", "low", "high"] ["thing", "low", "high"] (C8.fnScope s_is_number) := C8.fnScope_by (by decide +kernel)
abbrev s_is_size : Stmt := topS 12
theorem sc_is_size : FnScope ["thing"] ["thing"] (C8.fnScope s_is_size) := C8.fnScope_by (by decide +kernel)
abbrev s_check_size : Stmt := topS 13
theorem sc_check_size : FnScope ["thing"] ["thing"] (C8.fnScope s_check_size) := C8.fnScope_by (by decide +kernel)
abbrev s_is_text : Stmt := topS 14
theorem sc_is_text : FnScope ["size", "thing", "letter"] ["size", "thing"] (C8.fnScope s_is_text) := C8.fnScope_by (by decide +kernel)
abbrev s_check_text : Stmt := topS 15
theorem sc_check_text : FnScope ["size", "thing"] ["size", "thing"] (C8.fnScope s_check_text) := C8.fnScope_by (by decide +kernel)
abbrev s_is_word_of : Stmt := topS 16
theorem sc_is_word_of : FnScope ["thing", "words"] ["thing", "words"] (C8.fnScope s_is_word_of) := C8.fnScope_by (by decide +kernel)
abbrev s_is_letters : Stmt := topS 17
theorem sc_is_letters : FnScope ["size", "thing", "one", "other"] ["size", "thing"] (C8.fnScope s_is_letters) := C8.fnScope_by (by decide +kernel)
section
variable {P : Program} {w : World} {K : PySem.W.Frag} {mg : Str → Option Value} {base : Heap}
theorem lets (t u : Bool) (e : t = true) : t = true := e
theorem c_is_number (T : Tx mg) (D : Df K mg "is_number" s_is_number ["thing", "low", "high"]) : C8.Cal P w K mg base 1 "is_number" (spT 3 F_is_number) [] := by
  refine df_mk D sc_is_number spT.len fun f cdv A outer s H vs Q E hr h => ?_
  obtain ⟨ds, d, hn, hv, ⟨i, lo, hi, rfl, h1, h2, rfl⟩, qq⟩ := h
  obtain _ | @⟨x0, _, _, _, r0, _ | @⟨x1, _, _, _, r1, _ | @⟨x2, _, _, _, r2, _ | _⟩⟩⟩ := hv
  refine ⟨_, (pss_one (ps_ret (pe_and (pe_callB (call_isiK2 (K := K) rfl) rfl T.m_isinstance (by decide +kernel) (pa_cons (pv 0) (pa_cons (pe_bltn (v := .ty "int") rfl T.m_int (by decide +kernel) rfl) pa_nil))) (pe_and (pe_not (pe_callB (call_isiK2 (K := K) rfl) rfl T.m_isinstance (by decide +kernel) (pa_cons (pv 0) (pa_cons (pe_bltn (v := .ty "bool") rfl T.m_bool (by decide +kernel) rfl) pa_nil)))) (pe_one (pe_chain op_le op_le (pv 1) (pv 0) (pv 2))))))), ?_⟩
  refine st_ret (et_andT (et_isI (i := i) (by walk_at "et")) rfl (et_andT (et_not (et_isB (i := i) (by walk_at "et"))) rfl (et_leC (by walk_at "et") (by walk_at "et") (by walk_at "et")))) fun v H' s r => qq v H' (by walk_at "sm") ?_
  rw [decide_eq_true h1, decide_eq_true h2] at r
  exact r
theorem c_is_size (T : Tx mg) (D : Df K mg "is_size" s_is_size ["thing"]) (c_is_number : C8.Cal P w K mg base 1 "is_number" (spT 3 F_is_number) []) : C8.Cal P w K mg base 2 "is_size" (spT 1 F_is_size) [] := by
  refine df_mk D sc_is_size spT.len fun f cdv A outer s H vs Q E hr h => ?_
  obtain ⟨ds, d, hn, hv, ⟨n, rfl, h1, h2, rfl⟩, qq⟩ := h
  obtain _ | @⟨x0, _, _, _, r0, _ | _⟩ := hv
  refine ⟨_, (pss_one (ps_ret (C8.pe_c c_is_number hr (by omega) rfl (pa_cons (pv 0) (pa_cons pe_int (pa_cons (pe_callB call_len_str rfl T.m_len PySem.boot_len (pa_cons (C8.pe_gc rfl T.g_LETTERS) pa_nil)) pa_nil)))))), ?_⟩
  exact st_ret (et_call (ea_cons (by walk_at "et") (ea_cons et_int (ea_cons (et_lenS (z := "abc") et_str (by decide)) ea_nil))) rfl ⟨n, 1, 3, rfl, by omega, by omega, rfl⟩) fun v H' s r => qq v H' (by walk_at "sm") r
theorem c_check_size (T : Tx mg) (D : Df K mg "check_size" s_check_size ["thing"]) (c_is_size : C8.Cal P w K mg base 2 "is_size" (spT 1 F_is_size) []) : C8.Cal P w K mg base 3 "check_size" (spT 1 F_check_size) [] := by
  refine df_mk D sc_check_size spT.len fun f cdv A outer s H vs Q E hr h => ?_
  obtain ⟨ds, d, hn, hv, ⟨n, rfl, h1, h2, rfl⟩, qq⟩ := h
  obtain _ | @⟨x0, _, _, _, r0, _ | _⟩ := hv
  refine ⟨_, (pss_one (ps_if (pt_not (pt_val (C8.pe_c c_is_size hr (by omega) rfl (pa_cons (pv 0) pa_nil)))) (pss_one ps_never) pss_nil)), ?_⟩
  refine (eb_not (eb_val (et_call (F := F_is_size) (by walk_at "ea") rfl ⟨n, rfl, h1, h2, rfl⟩))) H (Same.refl _) _ fun H1 s1 => ?_
  exact iteF (qq _ H1 s1 .non)
theorem c_is_text (T : Tx mg) (D : Df K mg "is_text" s_is_text ["size", "thing"]) : C8.Cal P w K mg base 1 "is_text" (spT 2 F_is_text) [] := by
  refine df_mk D sc_is_text spT.len fun f cdv A outer s H vs Q E hr h => ?_
  obtain ⟨ds, d, hn, hv, ⟨n, z, rfl, h1, h2, rfl⟩, qq⟩ := h
  obtain _ | @⟨x0, _, _, _, r0, _ | @⟨x1, _, _, _, r1, _ | _⟩⟩ := hv
  refine ⟨_, (pss_one (ps_ret (pe_and (pe_callB (call_isiK2 (K := K) rfl) rfl T.m_isinstance (by decide +kernel) (pa_cons (pv 1) (pa_cons (pe_bltn (v := .ty "str") rfl T.m_str (by decide +kernel) rfl) pa_nil))) (pe_one (pe_callB (cr_allK (K := K) rfl rfl) rfl T.m_all (by decide +kernel) (pa_cons (pe_lc (own := [("letter", 2)]) rfl sc_is_text.nd (pi_str (pv 1)) (blkOk_by (N := ["size", "thing", "letter"]) (sc := C8.fnScope s_is_text) (by decide +kernel)) (fun _ _ _ _ _ => pg_name (i := 2) sc_is_text.nd rfl (Or.inl rfl)) (fun _ _ _ _ _ => pts_nil) (fun _ _ _ _ _ => (pe_cmpR op_inS (pv 2) (pe_slice sl_str (C8.pe_gc rfl T.g_LETTERS) po_none (po_some (pv 0))) rfl))) pa_nil)))))), ?_⟩
  refine st_ret (et_andT (et_isS (z := z) (by walk_at "et")) rfl (et_allS (z := z) (fun _ => true) (by walk_at "et") (by omega) fun a ha => lcT1 fun v H1 s1 ra => ?_)) fun v H' s r => qq v H' (by walk_at "sm") ?_
  · refine ET.to (et_inSg (c := a) (z := abcS n) (by walk_at "et") (et_slS et_str eo_none (eo_some (by walk_at "et")) (by decide))) ?_
    have := List.all_eq_true.mp h1 a ha
    rw [this]
  · rw [show z.cps.toList.all (fun _ => true) = true by simp] at r
    exact r
end
end

section

theorem cut_tail (z : Str) : (cutS z (some 1) .none).cps.toList = z.cps.toList.tail := by
  have e1 : HT.sIx z.length 0 (some (1 : Int)) = min 1 z.length := HT.sIx_nat (k := 1) ..
  have e2 : HT.sIx z.length z.length .none = z.length := HT.sIx_none ..
  unfold cutS
  rw [e1, e2]
  have hl : z.length = z.cps.toList.length := by rw [Array.length_toList]; rfl
  cases hz : z.cps.toList with
  | nil => simp
  | cons c cs =>
    rw [hz] at hl
    have : min 1 z.length = 1 := by rw [hl, List.length_cons]; omega
    rw [this, hl]
    simp
theorem lt_one (a b : Nat) : decide (([a] : List Nat) < [b]) = decide (a < b) := by
  simp [List.cons_lt_cons_iff]
def F_is_again (k : Nat) (ds : List PyData) (d : PyData) : Prop := ∃ (s : Nat) (p : Pat) (lo : Nat) (hi : Option Nat) (m : Bool) (e : Int), ds = [.int (s : Int), enc (.again p lo hi m), .int e] ∧ goodP s k p = true ∧ okP k p = true ∧ lo ≤ 3 ∧ goodHi lo hi = true ∧ (k : Int) ≤ e ∧ d = .bool true
def F_is_form (k : Nat) (ds : List PyData) (d : PyData) : Prop := ∃ (s : Nat) (p : Pat) (e : Int), ds = [.int (s : Int), enc p, .int e] ∧ goodP s k p = true ∧ okP k p = true ∧ (k : Int) ≤ e ∧ k ≤ 19 ∧ d = .bool true
def F_inner_of (ds es : List PyData) : Prop := ∃ (p : Pat), ds = [enc p] ∧ (inner p).length ≤ 4 ∧ es = (inner p).map enc
def F_parts_of (k : Nat) (ds : List PyData) (d : PyData) : Prop := ∃ (p : Pat) (s : Nat), ds = [enc p] ∧ goodP s k p = true ∧ d = .int (partsF p : Nat)
def F_weight_of (k : Nat) (ds : List PyData) (d : PyData) : Prop := ∃ (p : Pat) (s : Nat), ds = [enc p] ∧ goodP s k p = true ∧ k ≤ 1000 ∧ d = .int (weightF p : Nat)
/-- what is_pattern tells of all that is drawn -/
def goodAll (s : Nat) (p : Pat) : Prop := 1 ≤ s ∧ s ≤ 3 ∧ goodP s 12 p = true ∧ okP 12 p = true ∧ partsF p ≤ 12 ∧ weightF p ≤ 8
def F_is_pattern (ds : List PyData) (d : PyData) : Prop := ∃ (s : Nat) (p : Pat), ds = [.int (s : Int), enc p] ∧ goodAll s p ∧ d = .bool true
def F_check_pattern (ds : List PyData) (d : PyData) : Prop := ∃ (s : Nat) (p : Pat), ds = [.int (s : Int), enc p] ∧ goodAll s p ∧ d = .none
def wordP : Pat → Str
  | .none => "none"
  | .empty => "empty"
  | .one _ => "one"
  | .row _ => "row"
  | .any _ => "any"
  | .again .. => "again"
  | .group .. => "group"
theorem enc_word (p : Pat) : ∃ tl, enc p = .tuple (.str (wordP p) :: tl) := by
  cases p with
  | group p g => cases g <;> exact ⟨_, by rw [enc]; rfl⟩
  | _ => exact ⟨_, by rw [enc]; rfl⟩
theorem goodP_zero {s : Nat} {p : Pat} : ¬ goodP s 0 p = true := by simp [goodP]
abbrev s_is_again : Stmt := topS 18
theorem sc_is_again : FnScope ["size", "thing", "deep"] ["size", "thing", "deep"] (C8.fnScope s_is_again) := C8.fnScope_by (by decide +kernel)
abbrev s_is_form : Stmt := topS 19
theorem sc_is_form : FnScope ["size", "thing", "deep", "part"] ["size", "thing", "deep"] (C8.fnScope s_is_form) := C8.fnScope_by (by decide +kernel)
abbrev s_inner_of : Stmt := topS 20
theorem sc_inner_of : FnScope ["pattern"] ["pattern"] (C8.fnScope s_inner_of) := C8.fnScope_by (by decide +kernel)
abbrev s_parts_of : Stmt := topS 21
theorem sc_parts_of : FnScope ["pattern", "part"] ["pattern"] (C8.fnScope s_parts_of) := C8.fnScope_by (by decide +kernel)
abbrev s_weight_of : Stmt := topS 22
theorem sc_weight_of : FnScope ["pattern", "found", "part"] ["pattern"] (C8.fnScope s_weight_of) := C8.fnScope_by (by decide +kernel)
abbrev s_is_pattern : Stmt := topS 23
theorem sc_is_pattern : FnScope ["size", "thing"] ["size", "thing"] (C8.fnScope s_is_pattern) := C8.fnScope_by (by decide +kernel)
abbrev s_check_pattern : Stmt := topS 24
theorem sc_check_pattern : FnScope ["size", "thing"] ["size", "thing"] (C8.fnScope s_check_pattern) := C8.fnScope_by (by decide +kernel)
section
variable {P : Program} {w : World} {K : PySem.W.Frag} {mg : Str → Option Value} {base : Heap}
theorem c_check_text (T : Tx mg) (D : Df K mg "check_text" s_check_text ["size", "thing"]) (c_is_text : C8.Cal P w K mg base 1 "is_text" (spT 2 F_is_text) []) : C8.Cal P w K mg base 2 "check_text" (spT 2 F_check_text) [] := by
  refine df_mk D sc_check_text spT.len fun f cdv A outer s H vs Q E hr h => ?_
  obtain ⟨ds, d, hn, hv, ⟨n, z, rfl, h1, h2, rfl⟩, qq⟩ := h
  obtain _ | @⟨x0, _, _, _, r0, _ | @⟨x1, _, _, _, r1, _ | _⟩⟩ := hv
  refine ⟨_, (pss_one (ps_if (pt_not (pt_val (C8.pe_c c_is_text hr (by omega) rfl (pa_cons (pv 0) (pa_cons (pv 1) pa_nil))))) (pss_one ps_never) pss_nil)), ?_⟩
  refine (eb_not (eb_val (et_call (F := F_is_text) (by walk_at "ea") rfl ⟨n, z, rfl, h1, h2, rfl⟩))) H (Same.refl _) _ fun H1 s1 => ?_
  exact iteF (qq _ H1 s1 .non)
theorem c_is_word_of (T : Tx mg) (D : Df K mg "is_word_of" s_is_word_of ["thing", "words"]) : C8.Cal P w K mg base 1 "is_word_of" (spT 2 F_is_word_of) [] := by
  refine df_mk D sc_is_word_of spT.len fun f cdv A outer s H vs Q E hr h => ?_
  obtain ⟨ds, d, hn, hv, ⟨x, y, z, rfl, h1, rfl⟩, qq⟩ := h
  obtain _ | @⟨x0, _, _, _, r0, _ | @⟨x1, _, _, _, r1, _ | _⟩⟩ := hv
  refine ⟨_, (pss_one (ps_ret (pe_and (pe_callB (call_isiK2 (K := K) rfl) rfl T.m_isinstance (by decide +kernel) (pa_cons (pv 0) (pa_cons (pe_bltn (v := .ty "str") rfl T.m_str (by decide +kernel) rfl) pa_nil))) (pe_one (pe_cmpR (op_in_seqK (K := K) rfl) (pv 0) (pv 1) rfl))))), ?_⟩
  refine st_ret (et_andT (et_isS (z := x) (by walk_at "et")) rfl (et_in2 (x := x) (y := y) (z := z) (by walk_at "et") (by walk_at "et"))) fun v H' s r => qq v H' (by walk_at "sm") ?_
  rw [decide_eq_true h1] at r
  exact r
theorem c_is_letters (T : Tx mg) (D : Df K mg "is_letters" s_is_letters ["size", "thing"]) (c_is_text : C8.Cal P w K mg base 1 "is_text" (spT 2 F_is_text) []) : C8.Cal P w K mg base 2 "is_letters" (spT 2 F_is_letters) [] := by
  refine df_mk D sc_is_letters spT.len fun f cdv A outer s H vs Q E hr h => ?_
  obtain ⟨ds, d, hn, hv, ⟨n, z, rfl, h1, rfl⟩, qq⟩ := h
  obtain _ | @⟨x0, _, _, _, r0, _ | @⟨x1, _, _, _, r1, _ | _⟩⟩ := hv
  unfold goodZ at h1
  simp only [Bool.and_eq_true, decide_eq_true_eq] at h1
  obtain ⟨⟨⟨ha, he⟩, hrs⟩, hl⟩ := h1
  have hne : z ≠ "" := fun e => by subst e; exact absurd he (by decide)
  refine ⟨_, (pss_cons (ps_if (PW.pt (pw_or (pt_not (pt_val (C8.pe_c c_is_text hr (by omega) rfl (pa_cons (pv 0) (pa_cons (pv 1) pa_nil))))) (pw_or1 (pt_cmpR op_eq (pv 1) pe_str (nomark _))))) (pss_one (ps_ret pe_bl)) pss_nil)
    (pss_one (ps_ret (pe_callB (cr_allK (K := K) rfl rfl) rfl T.m_all (by decide +kernel) (pa_cons (pe_lc (own := [("one", 2), ("other", 3)]) (g := gTup K 2 (gCons (gName 2) (gCons (gName 3) gNil))) rfl sc_is_letters.nd (pi_zipS rfl T.m_zip (pa_cons (pv 1) (pa_cons (pe_slice sl_str (pv 1) (po_some pe_int) po_none) pa_nil))) (blkOk_by (N := ["size", "thing", "one", "other"]) (sc := C8.fnScope s_is_letters) (by decide +kernel)) (fun _ _ _ _ _ => (pg_tupK (K := K) (n := 2) rfl rfl (pgs_cons (pg_name (i := 2) sc_is_letters.nd rfl (Or.inl rfl)) (pgs_cons (pg_name (i := 3) sc_is_letters.nd rfl (Or.inl rfl)) pgs_nil)))) (fun _ _ _ _ _ => pts_nil) (fun _ _ _ _ _ => (pe_cmpR op_lt_str (pv 2) (pv 3) (nomark _)))) pa_nil))))), ?_⟩
  refine sq_no (eb_orF (eb_not (eb_val (et_call (F := F_is_text) (by walk_at "ea") rfl ⟨n, z, rfl, ha, by omega, rfl⟩))) rfl (eb_test (et_eqS (x := z) (y := "") (by walk_at "et") et_str))) (decide_eq_false hne) fun H1 s1 => ?_
  refine st_ret (et_allZ (x := z) (y := cutS z (some 1) .none) (fun a => decide (a.1 < a.2)) (ea_cons (by walk_at "et") (ea_cons (et_slS (by walk_at "et") (eo_some et_int) eo_none (by omega)) ea_nil)) (by omega) fun a ha => lcT2 (by decide) (fun v1 v2 H1 s1 r1 r2 => eb_yes) fun _ v1 v2 H2 s2 r2 r3 => ?_) fun v H' s r => qq v H' (by walk_at "sm") ?_
  · exact ET.to (et_ltS (by walk_at "et") (by walk_at "et")) (congrArg PyData.bool (lt_one a.1 a.2))
  · rw [cut_tail] at r
    rw [show (z.cps.toList.zip z.cps.toList.tail).all (fun a => decide (a.1 < a.2)) = true from hrs] at r
    exact r
theorem c_is_again_of {k : Nat} (T : Tx mg) (D : Df K mg "is_again" s_is_again ["size", "thing", "deep"]) (c_is_form : C8.Cal P w K mg base (2 * k + 3) "is_form" (spT 3 (F_is_form k)) []) (c_is_number : C8.Cal P w K mg base 1 "is_number" (spT 3 F_is_number) []) (c_is_word_of : C8.Cal P w K mg base 1 "is_word_of" (spT 2 F_is_word_of) []) (hk : k ≤ 19) :
    C8.Cal P w K mg base (2 * k + 4) "is_again" (spT 3 (F_is_again k)) [] := by
  refine df_mk D sc_is_again spT.len fun f cdv A outer s H vs Q E hr h => ?_
  obtain ⟨ds, d, hn, hv, ⟨n, p, lo, hi, m, e, rfl, hg, hok, hlo, hhi, hke, rfl⟩, qq⟩ := h
  obtain _ | @⟨x0, _, _, _, r0, _ | @⟨x1, _, _, _, r1, _ | @⟨x2, _, _, _, r2, _ | _⟩⟩⟩ := hv
  rw [enc] at r1
  refine ⟨_, (pss_cons (ps_if (PW.pt (pw_or (pt_cmpR op_ne (pe_callB (call_len_seqK (K := K) rfl) rfl T.m_len PySem.boot_len (pa_cons (pv 1) pa_nil)) pe_int (nomark _)) (pw_or (pt_not (pt_val (C8.pe_c c_is_form hr (by omega) rfl (pa_cons (pv 0) (pa_cons (pe_ix (ix_tupK (K := K) rfl) (pv 1) pe_int (fun _ _ => rfl)) (pa_cons (pv 2) pa_nil)))))) (pw_or1 (pt_not (pt_val (C8.pe_c c_is_number hr (by omega) rfl (pa_cons (pe_ix (ix_tupK (K := K) rfl) (pv 1) pe_int (fun _ _ => rfl)) (pa_cons pe_int (pa_cons (C8.pe_gc rfl T.g_MOST_TIMES) pa_nil)))))))))) (pss_one (ps_ret pe_bl)) pss_nil)
    (pss_cons (ps_if (PW.pt (pw_and (pt_cmpR op_notN (pe_ix (ix_tupK (K := K) rfl) (pv 1) pe_int (fun _ _ => rfl)) pe_non (nomark _)) (pw_and1 (pt_not (pt_val (C8.pe_c c_is_number hr (by omega) rfl (pa_cons (pe_ix (ix_tupK (K := K) rfl) (pv 1) pe_int (fun _ _ => rfl)) (pa_cons (pe_callB (call_max2 rfl) rfl T.m_max (by decide +kernel) (pa_cons pe_int (pa_cons (pe_ix (ix_tupK (K := K) rfl) (pv 1) pe_int (fun _ _ => rfl)) pa_nil))) (pa_cons (C8.pe_gc rfl T.g_MOST_TIMES) pa_nil))))))))) (pss_one (ps_ret pe_bl)) pss_nil)
    (pss_one (ps_ret (C8.pe_c c_is_word_of hr (by omega) rfl (pa_cons (pe_ix (ix_tupK (K := K) rfl) (pv 1) pe_int (fun _ _ => rfl)) (pa_cons (pe_tup (pa_cons pe_str (pa_cons pe_str pa_nil))) pa_nil))))))), ?_⟩
  refine sq_no (eb_orF (eb_test (et_neI (et_lenT (by walk_at "et")) et_int)) (by rfl) (eb_orF (eb_not (eb_val (et_call (F := F_is_form k) (by walk_at "ea") rfl ⟨n, p, e, rfl, hg, hok, hke, hk, rfl⟩))) rfl (eb_not (eb_val (et_call (F := F_is_number) (by walk_at "ea") rfl ⟨lo, 0, 3, rfl, by omega, by omega, rfl⟩))))) (by rfl) fun H1 s1 => ?_
  have rest : ∀ H2, Same H H2 → tRet (tCall (spT 2 F_is_word_of) [] C8.E0 (tCons (tOp (rIxT K) (tVar 1) (tC (.int 4))) (tCons (tTup (tCons (tC (.str "many")) (tCons (tC (.str "few")) tNil))) tNil))) { nx := fun _ H' => Q .non H', rt := Q } [some x0, some x1, some x2] H2 := fun H2 s2 => by
    refine st_ret (et_call (F := F_is_word_of) (ea_cons (et_ix (ds := [.str "again", enc p, .int (lo : Nat), encHi hi, encWay m]) (by walk_at "et") et_int rfl) (ea_cons (by walk_at "et") ea_nil)) rfl ⟨if m = true then "many" else "few", "many", "few", rfl, by cases m <;> simp, rfl⟩) fun v H' s r => qq v H' (by walk_at "sm") r
  cases hi with
  | none =>
    unfold encHi at r1
    exact sq_no (eb_andF (eb_test (et_notN (by walk_at "et") et_non)) (by rfl)) rfl fun H2 s2 => rest H2 (s1.trans s2)
  | some x =>
    unfold encHi at r1
    simp only [goodHi, Bool.and_eq_true, decide_eq_true_eq] at hhi
    refine sq_no (eb_andT (eb_test (et_notN (by walk_at "et") et_non)) (by rfl) (eb_not (eb_val (et_call (F := F_is_number) (ea_cons (by walk_at "et") (ea_cons (et_max2 (ea_cons et_int (ea_cons (by walk_at "et") ea_nil))) (ea_cons et_int ea_nil))) rfl ⟨x, if ((lo : Nat) : Int) > 1 then lo else 1, 3, rfl, ?_, by omega, rfl⟩)))) rfl fun H2 s2 => rest H2 (s1.trans s2)
    split <;> omega
end
end

section

abbrev s_check_for : Stmt := topS 40
theorem sc_check_for : FnScope ["size", "pattern", "text"] ["size", "pattern", "text"] (C8.fnScope s_check_for) := C8.fnScope_by (by decide +kernel)
abbrev s_stops : Stmt := topS 43
theorem sc_stops : FnScope ["size", "pattern", "text"] ["size", "pattern", "text"] (C8.fnScope s_stops) := C8.fnScope_by (by decide +kernel)
abbrev s_ways : Stmt := topS 46
theorem sc_ways : FnScope ["size", "pattern", "text", "rest", "marks"] ["size", "pattern", "text"] (C8.fnScope s_ways) := C8.fnScope_by (by decide +kernel)
def F_check_for (ds : List PyData) (d : PyData) : Prop := ∃ (s : Nat) (p : Pat) (z : Str), ds = [.int (s : Int), enc p, .str z] ∧ goodAll s p ∧ inAbc s z = true ∧ z.length ≤ 1000000 ∧ d = .none
theorem enc_tupE (p : Pat) : ∃ tl, enc p = .tuple tl := by obtain ⟨tl, e⟩ := enc_word p; exact ⟨_, e⟩
theorem sq_drop {te : TE} {σ : L2.St} {H : Hp} {D : Ends} {r : TS} {d : PyData} (h : ET te σ H d) (q : ∀ H', Same H H' → r D σ H') : tSeq (tDrop te) r D σ H := h.use fun _ H1 s1 _ => q H1 s1
theorem st_drop {te : TE} {σ : L2.St} {H : Hp} {D : Ends} {d : PyData} (h : ET te σ H d) (q : ∀ H', Same H H' → D.nx σ H') : tDrop te D σ H := h.use fun _ H1 s1 _ => q H1 s1
section
variable {P : Program} {w : World} {K : PySem.W.Frag} {mg : Str → Option Value} {base : Heap}
theorem c_is_form_step {k : Nat} (T : Tx mg) (D : Df K mg "is_form" s_is_form ["size", "thing", "deep"]) (c_is_form : C8.Cal P w K mg base (2 * k + 3) "is_form" (spT 3 (F_is_form k)) []) (c_is_again : C8.Cal P w K mg base (2 * k + 4) "is_again" (spT 3 (F_is_again k)) []) (c_is_letters : C8.Cal P w K mg base 2 "is_letters" (spT 2 F_is_letters) []) :
    C8.Cal P w K mg base (2 * (k + 1) + 3) "is_form" (spT 3 (F_is_form (k + 1))) [] := by
  refine df_mk (k := 2 * k + 4) D sc_is_form spT.len fun f cdv A outer s H vs Q E hr h => ?_
  obtain ⟨ds, d, hn, hv, ⟨n, p, e, rfl, hg, hok, hke, hk19, rfl⟩, qq⟩ := h
  obtain _ | @⟨x0, _, _, _, r0, _ | @⟨x1, _, _, _, r1, _ | @⟨x2, _, _, _, r2, _ | _⟩⟩⟩ := hv
  refine ⟨_, (pss_cons (ps_if (PW.pt (pw_or (pt_cmpR op_eq (pv 2) pe_int (nomark _)) (pw_or (pt_not (pt_val (pe_callB (call_isiK2 (K := K) rfl) rfl T.m_isinstance (by decide +kernel) (pa_cons (pv 1) (pa_cons (pe_bltn (v := .ty "tuple") rfl T.m_tuple (by decide +kernel) rfl) pa_nil))))) (pw_or (pt_cmpR (op_eqK (K := K) rfl hr.units) (pv 1) (pe_tup pa_nil) (nomark _)) (pw_or1 (pt_not (pt_val (pe_callB (call_isiK2 (K := K) rfl) rfl T.m_isinstance (by decide +kernel) (pa_cons (pe_ix (ix_tupK (K := K) rfl) (pv 1) pe_int (fun _ _ => rfl)) (pa_cons (pe_bltn (v := .ty "str") rfl T.m_str (by decide +kernel) rfl) pa_nil)))))))))) (pss_one (ps_ret pe_bl)) pss_nil)
    (pss_cons (ps_if (pt_cmpR (op_in_seqK (K := K) rfl) (pe_ix (ix_tupK (K := K) rfl) (pv 1) pe_int (fun _ _ => rfl)) (pe_tup (pa_cons pe_str (pa_cons pe_str pa_nil))) rfl) (pss_one (ps_ret (pe_cmpR op_eq (pe_callB (call_len_seqK (K := K) rfl) rfl T.m_len PySem.boot_len (pa_cons (pv 1) pa_nil)) pe_int (nomark _)))) pss_nil)
    (pss_cons (ps_if (pt_cmpR op_eq (pe_ix (ix_tupK (K := K) rfl) (pv 1) pe_int (fun _ _ => rfl)) pe_str (nomark _)) (pss_one (ps_ret (pe_and (pe_cmpR op_eq (pe_callB (call_len_seqK (K := K) rfl) rfl T.m_len PySem.boot_len (pa_cons (pv 1) pa_nil)) pe_int (nomark _)) (pe_one (C8.pe_c c_is_letters hr (by omega) rfl (pa_cons (pv 0) (pa_cons (pe_ix (ix_tupK (K := K) rfl) (pv 1) pe_int (fun _ _ => rfl)) pa_nil))))))) pss_nil)
    (pss_cons (ps_if (pt_cmpR (op_in_seqK (K := K) rfl) (pe_ix (ix_tupK (K := K) rfl) (pv 1) pe_int (fun _ _ => rfl)) (pe_tup (pa_cons pe_str (pa_cons pe_str pa_nil))) rfl) (pss_one (ps_ret (pe_and (pe_chain op_le op_le pe_int (pe_callB (call_len_seqK (K := K) rfl) rfl T.m_len PySem.boot_len (pa_cons (pv 1) pa_nil)) pe_int) (pe_one (pe_callB (cr_allK (K := K) rfl rfl) rfl T.m_all (by decide +kernel) (pa_cons (pe_lc (own := [("part", 3)]) rfl sc_is_form.nd (pi_tupK (K := K) rfl (pe_slice (sl_tupK (K := K) rfl) (pv 1) (po_some pe_int) po_none)) (blkOk_by (N := ["size", "thing", "deep", "part"]) (sc := C8.fnScope s_is_form) (by decide +kernel)) (fun _ _ _ _ _ => pg_name (i := 3) sc_is_form.nd rfl (Or.inl rfl)) (fun _ _ _ _ _ => pts_nil) (fun _ _ _ _ _ => (C8.pe_c c_is_form hr (by omega) rfl (pa_cons (pv 0) (pa_cons (pv 3) (pa_cons (pe_op op_sub (pv 2) pe_int) pa_nil)))))) pa_nil)))))) pss_nil)
    (pss_cons (ps_if (pt_cmpR op_eq (pe_ix (ix_tupK (K := K) rfl) (pv 1) pe_int (fun _ _ => rfl)) pe_str (nomark _)) (pss_one (ps_ret (pe_and (pe_cmpR op_eq (pe_callB (call_len_seqK (K := K) rfl) rfl T.m_len PySem.boot_len (pa_cons (pv 1) pa_nil)) pe_int (nomark _)) (pe_one (C8.pe_c c_is_form hr (by omega) rfl (pa_cons (pv 0) (pa_cons (pe_ix (ix_tupK (K := K) rfl) (pv 1) pe_int (fun _ _ => rfl)) (pa_cons (pe_op op_sub (pv 2) pe_int) pa_nil)))))))) pss_nil)
    (pss_one (ps_ret (pe_and (pe_cmpR op_eq (pe_ix (ix_tupK (K := K) rfl) (pv 1) pe_int (fun _ _ => rfl)) pe_str (nomark _)) (pe_one (C8.pe_c c_is_again hr (by omega) rfl (pa_cons (pv 0) (pa_cons (pv 1) (pa_cons (pe_op op_sub (pv 2) pe_int) pa_nil))))))))))))), ?_⟩
  have hsh := (okP_shp _ p hok).shaped (by omega)
  have t1 : ∃ b, EB (tOr (tTest (tOp rEq (tVar 2) (tC (.int 0)))) (tOr (tNot (tB (tCB (rIsi K) (tCons (tVar 1) (tCons (tC (.ty "tuple")) tNil))))) (tOr (tTest (tOp (rEqD K) (tVar 1) (tTup tNil))) (tNot (tB (tCB (rIsi K) (tCons (tOp (rIxT K) (tVar 1) (tC (.int 0))) (tCons (tC (.ty "str")) tNil)))))))) [some x0, some x1, some x2, none] H b ∧ b = false := by
    obtain ⟨tl, ee⟩ := enc_word p
    rw [ee] at r1 hsh
    exact ⟨_, eb_orF (eb_test (et_eqI (by walk_at "et") et_int)) (decide_eq_false (by omega)) (eb_orF (eb_not (eb_val (et_isT (by walk_at "et")))) rfl (eb_orF (eb_test (et_eqNil (by walk_at "et") hsh)) (by rfl) (eb_not (eb_val (et_isS (z := wordP p) (by walk_at "et")))))), rfl⟩
  obtain ⟨b, t1, hb⟩ := t1
  refine sq_no t1 hb fun H1 s1 => ?_
  have fin : ∀ {v : V} {H' : Hp}, Same H H' → Tp H' v (.bool true) → Q v H' := fun {v H'} s r => qq v H' s r
  cases p with
  | none =>
    rw [enc] at r1
    refine sq_yes (by walk_at "eb") (by rfl) fun H2 s2 => ?_
    exact st_ret (et_eqI (et_lenT (by walk_at "et")) et_int) fun v H' s r => fin (by walk_at "sm") (by exact r)
  | empty =>
    rw [enc] at r1
    refine sq_yes (by walk_at "eb") (by rfl) fun H2 s2 => ?_
    exact st_ret (et_eqI (et_lenT (by walk_at "et")) et_int) fun v H' s r => fin (by walk_at "sm") (by exact r)
  | one z =>
    rw [enc] at r1
    refine sq_no (by walk_at "eb") (by rfl) fun H2 s2 => ?_
    refine sq_yes (by walk_at "eb") (by rfl) fun H3 s3 => ?_
    exact st_ret (et_andT (et_eqI (et_lenT (by walk_at "et")) et_int) (by rfl) (et_call (F := F_is_letters) (by walk_at "ea") rfl ⟨n, z, rfl, hg, rfl⟩)) fun v H' s r => fin (by walk_at "sm") r
  | row ps =>
    rw [enc] at r1
    rw [encs_map] at r1
    simp only [goodP, Bool.and_eq_true, decide_eq_true_eq, List.all_eq_true] at hg
    simp only [okP, Bool.and_eq_true, decide_eq_true_eq, List.all_eq_true] at hok
    refine sq_no (by walk_at "eb") (by rfl) fun H2 s2 => ?_
    refine sq_no (by walk_at "eb") (by rfl) fun H3 s3 => ?_
    refine sq_yes (by walk_at "eb") (by rfl) fun H4 s4 => ?_
    refine st_ret (et_andT (et_leC et_int (et_lenT (by walk_at "et")) et_int) ?_ (et_allT ps enc (fun _ => true) (ET.to (et_sl (by walk_at "et") (eo_some et_int) eo_none) (by rw [show (1 : Int) = ((1 : Nat) : Int) from rfl, cutD_from]; rfl)) (by omega) fun q hq => lcT1 fun v H1 s1 r => et_call (F := F_is_form k) (by walk_at "ea") rfl ⟨n, q, e - 1, rfl, hg.2 q hq, hok.2 q hq, by omega, by omega, rfl⟩)) fun v H' s r => fin (by walk_at "sm") ?_
    · simp only [List.length_cons, List.length_map, Bool.and_eq_true, decide_eq_true_eq]; omega
    · rw [show ps.all (fun _ => true) = true by simp] at r
      exact r
  | any ps =>
    rw [enc] at r1
    rw [encs_map] at r1
    simp only [goodP, Bool.and_eq_true, decide_eq_true_eq, List.all_eq_true] at hg
    simp only [okP, Bool.and_eq_true, decide_eq_true_eq, List.all_eq_true] at hok
    refine sq_no (by walk_at "eb") (by rfl) fun H2 s2 => ?_
    refine sq_no (by walk_at "eb") (by rfl) fun H3 s3 => ?_
    refine sq_yes (by walk_at "eb") (by rfl) fun H4 s4 => ?_
    refine st_ret (et_andT (et_leC et_int (et_lenT (by walk_at "et")) et_int) ?_ (et_allT ps enc (fun _ => true) (ET.to (et_sl (by walk_at "et") (eo_some et_int) eo_none) (by rw [show (1 : Int) = ((1 : Nat) : Int) from rfl, cutD_from]; rfl)) (by omega) fun q hq => lcT1 fun v H1 s1 r => et_call (F := F_is_form k) (by walk_at "ea") rfl ⟨n, q, e - 1, rfl, hg.2 q hq, hok.2 q hq, by omega, by omega, rfl⟩)) fun v H' s r => fin (by walk_at "sm") ?_
    · simp only [List.length_cons, List.length_map, Bool.and_eq_true, decide_eq_true_eq]; omega
    · rw [show ps.all (fun _ => true) = true by simp] at r
      exact r
  | group p g =>
    simp only [goodP, Bool.and_eq_true, decide_eq_true_eq] at hg
    obtain ⟨hg, rfl⟩ := hg
    rw [enc] at r1
    refine sq_no (by walk_at "eb") (by rfl) fun H2 s2 => ?_
    refine sq_no (by walk_at "eb") (by rfl) fun H3 s3 => ?_
    refine sq_no (by walk_at "eb") (by rfl) fun H4 s4 => ?_
    refine sq_yes (by walk_at "eb") (by rfl) fun H5 s5 => ?_
    exact st_ret (et_andT (et_eqI (et_lenT (by walk_at "et")) et_int) (by rfl) (et_call (F := F_is_form k) (by walk_at "ea") rfl ⟨n, p, e - 1, rfl, hg, hok, by omega, by omega, rfl⟩)) fun v H' s r => fin (by walk_at "sm") r
  | again p lo hi m =>
    simp only [goodP, Bool.and_eq_true, decide_eq_true_eq] at hg
    have r1' := r1
    rw [enc] at r1
    refine sq_no (by walk_at "eb") (by rfl) fun H2 s2 => ?_
    refine sq_no (by walk_at "eb") (by rfl) fun H3 s3 => ?_
    refine sq_no (by walk_at "eb") (by rfl) fun H4 s4 => ?_
    refine sq_no (by walk_at "eb") (by rfl) fun H5 s5 => ?_
    exact st_ret (et_andT (et_eqS (x := "again") (y := "again") (by walk_at "et") et_str) (by rfl) (et_call (F := F_is_again k) (ea_cons (by walk_at "et") (ea_cons (et_var rfl ((((((r1'.mono (tle s1)).mono (tle s2)).mono (tle s3)).mono (tle s4))).mono (tle s5))) (ea_cons (by walk_at "et") ea_nil))) rfl ⟨n, p, lo, hi, m, e - 1, rfl, hg.1.1, hok, hg.1.2, hg.2, by omega, rfl⟩)) fun v H' s r => fin (by walk_at "sm") r
theorem c_is_form_all (T : Tx mg) (D : Df K mg "is_form" s_is_form ["size", "thing", "deep"]) (D2 : Df K mg "is_again" s_is_again ["size", "thing", "deep"]) (c_is_number : C8.Cal P w K mg base 1 "is_number" (spT 3 F_is_number) []) (c_is_word_of : C8.Cal P w K mg base 1 "is_word_of" (spT 2 F_is_word_of) []) (c_is_letters : C8.Cal P w K mg base 2 "is_letters" (spT 2 F_is_letters) []) :
    ∀ k, k ≤ 19 → C8.Cal P w K mg base (2 * k + 3) "is_form" (spT 3 (F_is_form k)) []
  | 0, _ => cal_none D fun vs H Q E h => by
    obtain ⟨ds, d, _, _, ⟨n, p, e, _, hg, _⟩, _⟩ := h
    exact goodP_zero hg
  | k + 1, hk => by
    have ih := c_is_form_all T D D2 c_is_number c_is_word_of c_is_letters k (by omega)
    exact c_is_form_step T D ih (c_is_again_of T D2 ih c_is_number c_is_word_of (by omega)) c_is_letters
theorem c_inner_of (T : Tx mg) (D : Df K mg "inner_of" s_inner_of ["pattern"]) : C8.Cal P w K mg base 1 "inner_of" (spL 1 F_inner_of) [] := by
  refine df_mk D sc_inner_of spL.len fun f cdv A outer s H vs Q E hr h => ?_
  obtain ⟨ds, es, hn, hv, ⟨p, rfl, hl, rfl⟩, qq⟩ := h
  obtain _ | @⟨x0, _, _, _, r0, _ | _⟩ := hv
  refine ⟨_, (pss_cons (ps_if (pt_cmpR (op_in_seqK (K := K) rfl) (pe_ix (ix_tupK (K := K) rfl) (pv 0) pe_int (fun _ _ => rfl)) (pe_tup (pa_cons pe_str (pa_cons pe_str pa_nil))) rfl) (pss_one (ps_ret (pe_callTy (call_list_ofK (K := K) rfl) rfl T.m_list (by decide +kernel) (pa_cons (pe_slice (sl_tupK (K := K) rfl) (pv 0) (po_some pe_int) po_none) pa_nil)))) pss_nil)
    (pss_one (ps_ret (pe_ifExp (pt_cmpR (op_in_seqK (K := K) rfl) (pe_ix (ix_tupK (K := K) rfl) (pv 0) pe_int (fun _ _ => rfl)) (pe_tup (pa_cons pe_str (pa_cons pe_str pa_nil))) rfl) (pe_lst (pa_cons (pe_ix (ix_tupK (K := K) rfl) (pv 0) pe_int (fun _ _ => rfl)) pa_nil)) (pe_lst pa_nil))))), ?_⟩
  cases p with
  | row ps =>
    rw [enc] at r0
    rw [encs_map] at r0
    refine sq_yes (by walk_at "eb") (by rfl) fun H2 s2 => ?_
    exact st_retL (EN.el (en_listT (ET.to (et_sl (by walk_at "et") (eo_some et_int) eo_none) (by rw [show (1 : Int) = ((1 : Nat) : Int) from rfl, cutD_from]; try rfl)))) fun v H' s l => qq v H' (by walk_at "sm") (by exact l)
  | any ps =>
    rw [enc] at r0
    rw [encs_map] at r0
    refine sq_yes (by walk_at "eb") (by rfl) fun H2 s2 => ?_
    exact st_retL (EN.el (en_listT (ET.to (et_sl (by walk_at "et") (eo_some et_int) eo_none) (by rw [show (1 : Int) = ((1 : Nat) : Int) from rfl, cutD_from]; try rfl)))) fun v H' s l => qq v H' (by walk_at "sm") (by exact l)
  | again p lo hi m =>
    rw [enc] at r0
    refine sq_no (by walk_at "eb") (by rfl) fun H2 s2 => ?_
    exact st_retL (el_ifT (by walk_at "eb") (by rfl) (by walk_at "el")) fun v H' s l => qq v H' (by walk_at "sm") (by exact l)
  | group p g =>
    cases g with
    | none =>
      rw [enc] at r0
      refine sq_no (by walk_at "eb") (by rfl) fun H2 s2 => ?_
      exact st_retL (el_ifT (by walk_at "eb") (by rfl) (by walk_at "el")) fun v H' s l => qq v H' (by walk_at "sm") (by exact l)
    | some g =>
      rw [enc] at r0
      refine sq_no (by walk_at "eb") (by rfl) fun H2 s2 => ?_
      exact st_retL (el_ifT (by walk_at "eb") (by rfl) (by walk_at "el")) fun v H' s l => qq v H' (by walk_at "sm") (by exact l)
  | none =>
    rw [enc] at r0
    refine sq_no (by walk_at "eb") (by rfl) fun H2 s2 => ?_
    exact st_retL (el_ifF (by walk_at "eb") (by rfl) (by walk_at "el")) fun v H' s l => qq v H' (by walk_at "sm") (by exact l)
  | empty =>
    rw [enc] at r0
    refine sq_no (by walk_at "eb") (by rfl) fun H2 s2 => ?_
    exact st_retL (el_ifF (by walk_at "eb") (by rfl) (by walk_at "el")) fun v H' s l => qq v H' (by walk_at "sm") (by exact l)
  | one z =>
    rw [enc] at r0
    refine sq_no (by walk_at "eb") (by rfl) fun H2 s2 => ?_
    exact st_retL (el_ifF (by walk_at "eb") (by rfl) (by walk_at "el")) fun v H' s l => qq v H' (by walk_at "sm") (by exact l)
theorem c_parts_of_all (T : Tx mg) (D : Df K mg "parts_of" s_parts_of ["pattern"]) (c_inner_of : C8.Cal P w K mg base 1 "inner_of" (spL 1 F_inner_of) []) :
    ∀ k, C8.Cal P w K mg base (k + 1) "parts_of" (spT 1 (F_parts_of k)) []
  | 0 => cal_none D fun vs H Q E h => by
    obtain ⟨ds, d, _, _, ⟨p, n, _, hg, _⟩, _⟩ := h
    exact goodP_zero hg
  | k + 1 => by
    have c_parts_of := c_parts_of_all T D c_inner_of k
    refine df_mk D sc_parts_of spT.len fun f cdv A outer s H vs Q E hr h => ?_
    obtain ⟨ds, d, hn, hv, ⟨p, n, rfl, hg, rfl⟩, qq⟩ := h
    obtain _ | @⟨x0, _, _, _, r0, _ | _⟩ := hv
    refine ⟨_, (pss_one (ps_ret (pe_op op_add pe_int (pe_callB (cr_sumK (K := K) rfl rfl) rfl T.m_sum (by decide +kernel) (pa_cons (pe_lc (own := [("part", 1)]) rfl sc_parts_of.nd (pi_listK (K := K) rfl (C8.pe_c c_inner_of hr (by omega) rfl (pa_cons (pv 0) pa_nil))) (blkOk_by (N := ["pattern", "part"]) (sc := C8.fnScope s_parts_of) (by decide +kernel)) (fun _ _ _ _ _ => pg_name (i := 1) sc_parts_of.nd rfl (Or.inl rfl)) (fun _ _ _ _ _ => pts_nil) (fun _ _ _ _ _ => (C8.pe_c c_parts_of hr (by omega) rfl (pa_cons (pv 1) pa_nil)))) pa_nil))))), ?_⟩
    have hl := inner_len hg
    refine st_ret (et_add et_int (et_sumL (inner p) enc (fun q => ((partsF q : Nat) : Int)) (el_call (F := F_inner_of) (by walk_at "ea") rfl ⟨p, rfl, hl, rfl⟩) (by omega) fun q hq => lcT1 fun v H1 s1 r => et_call (F := F_parts_of k) (by walk_at "ea") rfl ⟨q, n, rfl, goodP_inner hg q hq, rfl⟩)) fun v H' s r => qq v H' (by walk_at "sm") ?_
    rw [← partsL_sum] at r
    rw [parts_inner, Int.natCast_add]
    exact r
theorem c_weight_of_all (T : Tx mg) (D : Df K mg "weight_of" s_weight_of ["pattern"]) (c_inner_of : C8.Cal P w K mg base 1 "inner_of" (spL 1 F_inner_of) []) :
    ∀ k, C8.Cal P w K mg base (k + 1) "weight_of" (spT 1 (F_weight_of k)) []
  | 0 => cal_none D fun vs H Q E h => by
    obtain ⟨ds, d, _, _, ⟨p, n, _, hg, _⟩, _⟩ := h
    exact goodP_zero hg
  | k + 1 => by
    have c_weight_of := c_weight_of_all T D c_inner_of k
    refine df_mk D sc_weight_of spT.len fun f cdv A outer s H vs Q E hr h => ?_
    obtain ⟨ds, d, hn, hv, ⟨p, n, rfl, hg, hk, rfl⟩, qq⟩ := h
    obtain _ | @⟨x0, _, _, _, r0, _ | _⟩ := hv
    refine ⟨_, (pss_cons (ps_if (pt_cmpR (op_in_seqK (K := K) rfl) (pe_ix (ix_tupK (K := K) rfl) (pv 0) pe_int (fun _ _ => rfl)) (pe_tup (pa_cons pe_str (pa_cons pe_str pa_nil))) rfl) (pss_one (ps_ret pe_int)) pss_nil)
    (pss_cons (ps_set (i := 1) sc_weight_of.nd rfl (Or.inl rfl) (pe_callB (cr_sumK (K := K) rfl rfl) rfl T.m_sum (by decide +kernel) (pa_cons (pe_lc (own := [("part", 2)]) rfl sc_weight_of.nd (pi_listK (K := K) rfl (C8.pe_c c_inner_of hr (by omega) rfl (pa_cons (pv 0) pa_nil))) (blkOk_by (N := ["pattern", "found", "part"]) (sc := C8.fnScope s_weight_of) (by decide +kernel)) (fun _ _ _ _ _ => pg_name (i := 2) sc_weight_of.nd rfl (Or.inl rfl)) (fun _ _ _ _ _ => pts_nil) (fun _ _ _ _ _ => (C8.pe_c c_weight_of hr (by omega) rfl (pa_cons (pv 2) pa_nil)))) pa_nil)))
    (pss_cons (ps_if (pt_cmpR op_eq (pe_ix (ix_tupK (K := K) rfl) (pv 0) pe_int (fun _ _ => rfl)) pe_str (nomark _)) (pss_one (ps_ret (pe_op op_mulW (pv 1) (pe_ifExp (pt_cmpR op_isN (pe_ix (ix_tupK (K := K) rfl) (pv 0) pe_int (fun _ _ => rfl)) pe_non (nomark _)) (pe_op op_add (pe_ix (ix_tupK (K := K) rfl) (pv 0) pe_int (fun _ _ => rfl)) pe_int) (pe_ix (ix_tupK (K := K) rfl) (pv 0) pe_int (fun _ _ => rfl)))))) pss_nil)
    (pss_one (ps_ret (pv 1)))))), ?_⟩
    have hl := inner_len hg
    have sum : ∀ H1, Same H H1 → ET (tCB (rSum K) (tCons (tLc (iList K (tCall (spL 1 F_inner_of) [] C8.E0 (tCons (tVar 0) tNil))) (gName 2) tYes (tCall (spT 1 (F_weight_of k)) [] C8.E0 (tCons (tVar 2) tNil)) [2]) tNil)) [some x0, none, none] H1 (.int (weightL (inner p) : Nat)) := fun H1 s1 => by
      refine ET.to (et_sumL (inner p) enc (fun q => ((weightF q : Nat) : Int)) (el_call (F := F_inner_of) (by walk_at "ea") rfl ⟨p, rfl, hl, rfl⟩) (by omega) fun q hq => lcT1 fun v H1 s1 r => et_call (F := F_weight_of k) (by walk_at "ea") rfl ⟨q, n, rfl, goodP_inner hg q hq, by omega, rfl⟩) ?_
      rw [← weightL_sum]
    cases p with
    | empty =>
      rw [enc] at r0
      refine sq_yes (by walk_at "eb") (by rfl) fun H2 s2 => ?_
      exact st_ret et_int fun v H' s r => qq v H' (by walk_at "sm") r
    | one z =>
      rw [enc] at r0
      refine sq_yes (by walk_at "eb") (by rfl) fun H2 s2 => ?_
      exact st_ret et_int fun v H' s r => qq v H' (by walk_at "sm") r
    | none =>
      rw [enc] at r0
      refine sq_no (by walk_at "eb") (by rfl) fun H2 s2 => ?_
      refine sq_set (sum H2 s2) fun v3 H3 s3 r3 => ?_
      refine sq_no (by walk_at "eb") (by rfl) fun H4 s4 => ?_
      exact st_ret (by walk_at "et") fun v H' s r => qq v H' (by walk_at "sm") r
    | row ps =>
      rw [enc] at r0
      refine sq_no (by walk_at "eb") (by rfl) fun H2 s2 => ?_
      refine sq_set (sum H2 s2) fun v3 H3 s3 r3 => ?_
      refine sq_no (by walk_at "eb") (by rfl) fun H4 s4 => ?_
      exact st_ret (by walk_at "et") fun v H' s r => qq v H' (by walk_at "sm") r
    | any ps =>
      rw [enc] at r0
      refine sq_no (by walk_at "eb") (by rfl) fun H2 s2 => ?_
      refine sq_set (sum H2 s2) fun v3 H3 s3 r3 => ?_
      refine sq_no (by walk_at "eb") (by rfl) fun H4 s4 => ?_
      exact st_ret (by walk_at "et") fun v H' s r => qq v H' (by walk_at "sm") r
    | group p g =>
      have hg' := hg
      simp only [goodP, Bool.and_eq_true, decide_eq_true_eq] at hg'
      obtain ⟨_, rfl⟩ := hg'
      rw [enc] at r0
      refine sq_no (by walk_at "eb") (by rfl) fun H2 s2 => ?_
      refine sq_set (sum H2 s2) fun v3 H3 s3 r3 => ?_
      refine sq_no (by walk_at "eb") (by rfl) fun H4 s4 => ?_
      exact st_ret (by walk_at "et") fun v H' s r => qq v H' (by walk_at "sm") r
    | again p lo hi m =>
      have hw := weight_bound k p (goodP_inner hg p (by simp [inner]))
      have hg' := hg
      simp only [goodP, Bool.and_eq_true, decide_eq_true_eq] at hg'
      rw [enc] at r0
      have eW : weightL (inner (.again p lo hi m)) = weightF p := by rw [inner, weightL, weightL]; omega
      refine sq_no (by walk_at "eb") (by rfl) fun H2 s2 => ?_
      refine sq_set (sum H2 s2) fun v3 H3 s3 r3 => ?_
      rw [eW] at r3
      have b1 : ((weightF p : Nat) : Int).natAbs < 2 ^ (2 * k + 1) := by rw [Int.natAbs_natCast, Nat.pow_succ]; have := Nat.two_pow_pos (2 * k); omega
      refine sq_yes (by walk_at "eb") (by rfl) fun H4 s4 => ?_
      cases hi with
      | none =>
        unfold encHi at r0
        refine st_ret (et_mul (by walk_at "et") (et_ifT (by walk_at "eb") (by rfl) (by walk_at "et")) (wide_mul (b := 3) b1 (by omega) (by omega) (by omega) (by omega))) fun v H' s r => qq v H' (by walk_at "sm") ?_
        rw [weightF, timesHi, Int.natCast_mul, Int.natCast_add]
        exact r
      | some x =>
        unfold encHi at r0
        have hh := hg'.2
        simp only [goodHi, Bool.and_eq_true, decide_eq_true_eq] at hh
        refine st_ret (et_mul (by walk_at "et") (et_ifF (by walk_at "eb") (by rfl) (by walk_at "et")) (wide_mul (b := 3) b1 (by omega) (by omega) (by omega) (by omega))) fun v H' s r => qq v H' (by walk_at "sm") ?_
        rw [weightF, timesHi, Int.natCast_mul]
        exact r
theorem c_is_pattern (T : Tx mg) (D : Df K mg "is_pattern" s_is_pattern ["size", "thing"]) (c_is_form : C8.Cal P w K mg base 27 "is_form" (spT 3 (F_is_form 12)) []) (c_parts_of : C8.Cal P w K mg base 13 "parts_of" (spT 1 (F_parts_of 12)) []) (c_weight_of : C8.Cal P w K mg base 13 "weight_of" (spT 1 (F_weight_of 12)) []) :
    C8.Cal P w K mg base 28 "is_pattern" (spT 2 F_is_pattern) [] := by
  refine df_mk D sc_is_pattern spT.len fun f cdv A outer s H vs Q E hr h => ?_
  obtain ⟨ds, d, hn, hv, ⟨n, p, rfl, ⟨g1, g2, g3, g4, g5, g6⟩, rfl⟩, qq⟩ := h
  obtain _ | @⟨x0, _, _, _, r0, _ | @⟨x1, _, _, _, r1, _ | _⟩⟩ := hv
  refine ⟨_, (pss_one (ps_ret (pe_and (C8.pe_c c_is_form hr (by omega) rfl (pa_cons (pv 0) (pa_cons (pv 1) (pa_cons (C8.pe_gc rfl T.g_MOST_PARTS) pa_nil)))) (pe_and (pe_cmpR op_le (C8.pe_c c_parts_of hr (by omega) rfl (pa_cons (pv 1) pa_nil)) (C8.pe_gc rfl T.g_MOST_PARTS) (nomark _)) (pe_one (pe_cmpR op_le (C8.pe_c c_weight_of hr (by omega) rfl (pa_cons (pv 1) pa_nil)) (C8.pe_gc rfl T.g_MOST_WEIGHT) (nomark _))))))), ?_⟩
  refine st_ret (et_andT (et_call (F := F_is_form 12) (by walk_at "ea") rfl ⟨n, p, 12, rfl, g3, g4, by omega, by omega, rfl⟩) rfl (et_andT (et_le (et_call (F := F_parts_of 12) (by walk_at "ea") rfl ⟨p, n, rfl, g3, rfl⟩) et_int) (decide_eq_true (by omega)) (et_le (et_call (F := F_weight_of 12) (by walk_at "ea") rfl ⟨p, n, rfl, g3, by omega, rfl⟩) et_int))) fun v H' s r => qq v H' (by walk_at "sm") ?_
  rw [decide_eq_true (show ((weightF p : Nat) : Int) ≤ 8 by omega)] at r
  exact r
theorem c_check_pattern (T : Tx mg) (D : Df K mg "check_pattern" s_check_pattern ["size", "thing"]) (c_is_pattern : C8.Cal P w K mg base 28 "is_pattern" (spT 2 F_is_pattern) []) : C8.Cal P w K mg base 29 "check_pattern" (spT 2 F_check_pattern) [] := by
  refine df_mk D sc_check_pattern spT.len fun f cdv A outer s H vs Q E hr h => ?_
  obtain ⟨ds, d, hn, hv, ⟨n, p, rfl, hg, rfl⟩, qq⟩ := h
  obtain _ | @⟨x0, _, _, _, r0, _ | @⟨x1, _, _, _, r1, _ | _⟩⟩ := hv
  refine ⟨_, (pss_one (ps_if (pt_not (pt_val (C8.pe_c c_is_pattern hr (by omega) rfl (pa_cons (pv 0) (pa_cons (pv 1) pa_nil))))) (pss_one ps_never) pss_nil)), ?_⟩
  refine (eb_not (eb_val (et_call (F := F_is_pattern) (by walk_at "ea") rfl ⟨n, p, rfl, hg, rfl⟩))) H (Same.refl _) _ fun H1 s1 => ?_
  exact iteF (qq _ H1 s1 .non)
theorem c_check_for (T : Tx mg) (D : Df K mg "check_for" s_check_for ["size", "pattern", "text"]) (c_check_size : C8.Cal P w K mg base 3 "check_size" (spT 1 F_check_size) []) (c_check_pattern : C8.Cal P w K mg base 29 "check_pattern" (spT 2 F_check_pattern) []) (c_check_text : C8.Cal P w K mg base 2 "check_text" (spT 2 F_check_text) []) :
    C8.Cal P w K mg base 30 "check_for" (spT 3 F_check_for) [] := by
  refine df_mk D sc_check_for spT.len fun f cdv A outer s H vs Q E hr h => ?_
  obtain ⟨ds, d, hn, hv, ⟨n, p, z, rfl, hg, hz, hl, rfl⟩, qq⟩ := h
  obtain _ | @⟨x0, _, _, _, r0, _ | @⟨x1, _, _, _, r1, _ | @⟨x2, _, _, _, r2, _ | _⟩⟩⟩ := hv
  refine ⟨_, (pss_cons (ps_expr (C8.pe_c c_check_size hr (by omega) rfl (pa_cons (pv 0) pa_nil)))
    (pss_cons (ps_expr (C8.pe_c c_check_pattern hr (by omega) rfl (pa_cons (pv 0) (pa_cons (pv 1) pa_nil))))
    (pss_one (ps_expr (C8.pe_c c_check_text hr (by omega) rfl (pa_cons (pv 0) (pa_cons (pv 2) pa_nil))))))), ?_⟩
  refine sq_drop (et_call (F := F_check_size) (by walk_at "ea") rfl ⟨n, rfl, hg.1, hg.2.1, rfl⟩) fun H1 s1 => ?_
  refine sq_drop (et_call (F := F_check_pattern) (by walk_at "ea") rfl ⟨n, p, rfl, hg, rfl⟩) fun H2 s2 => ?_
  exact st_drop (et_call (F := F_check_text) (by walk_at "ea") rfl ⟨n, z, rfl, hz, hl, rfl⟩) fun H3 s3 => qq _ H3 (by walk_at "sm") .non
end
end

section

/-- a size, a pattern and a text that are drawn, and what becomes of the stops -/
structure Given (H : Hp) (vs : List V) (s : Nat) (p : Pat) (t : Str) : Prop where
  ok : TpA H vs [.int (s : Int), enc p, .str t]
  good : goodAll s p
  abc : inAbc s t = true
  len : t.length ≤ 1000000
  gr : groups p ≤ 1000
def sp_stops (C : Addr) : Sp := fun vs H Q E => ∃ (s : Nat) (p : Pat) (t : Str) (r : Option (List Stop)), Given H vs s p t ∧ allF p t = some r ∧
  (match r with
   | some S => (∀ s ∈ S, okS s) → S.length ≤ 300 → ∀ v H', Same H H' → Lp H' v (S.map encS) → Q v H'
   | none => ∀ H', Same H H' → E (.ref C) none H')
def sp_ways (C : Addr) : Sp := fun vs H Q E => ∃ (s : Nat) (p : Pat) (t : Str) (r : Option (List Stop)), Given H vs s p t ∧ allF p t = some r ∧
  (match r with
   | some S => (∀ s ∈ S, okS s) → S.length ≤ 300 → ∀ v H', Same H H' → Lp H' v ((waysL S).map spans) → Q v H'
   | none => ∀ H', Same H H' → E (.ref C) none H')
section
variable {σ : L2.St} {H : Hp} {t : TA} {E : XK} {C : Addr} {p : Pat} {z : Str}
theorem el_allS {S : List Stop} {Q : VK} (ha : EA t σ H [enc p, .str z]) (hok : okP 19 p = true) (hg : groups p ≤ 1000) (hr : allF p z = some (some S)) (q : (∀ s ∈ S, okS s) → S.length ≤ 300 → ∀ v H', Same H H' → Lp H' v (S.map encS) → Q v H') :
    tCall (sp_all C) [] E t σ H Q := ha H (Same.refl _) _ fun vs H1 s1 r1 => by
  obtain _ | ⟨h0, _ | ⟨h1, _ | _⟩⟩ := r1
  exact ⟨p, z, _, _, some S, rfl, h0, h1, hok, hg, hr, fun h1 h2 v H' s l => q h1 h2 v H' (s1.trans s) l⟩
theorem ex_allS {Q : VK} (ha : EA t σ H [enc p, .str z]) (hok : okP 19 p = true) (hg : groups p ≤ 1000) (hr : allF p z = some none) (q : ∀ H', Same H H' → E (.ref C) none H') :
    tCall (sp_all C) [] E t σ H Q := ha H (Same.refl _) _ fun vs H1 s1 r1 => by
  obtain _ | ⟨h0, _ | ⟨h1, _ | _⟩⟩ := r1
  exact ⟨p, z, _, _, none, rfl, h0, h1, hok, hg, hr, fun H' s => q H' (s1.trans s)⟩
end
theorem lc_from {K : PySem.W.Frag} {tl te : TE} {g : TG} {tt : TT} {vs : List Nat} {σ : L2.St} {H : Hp} {Q : VK} (h : tl σ H fun v H1 => tLc (iList K fun _ H0 Q => Q v H0) g tt te vs σ H1 Q) : tLc (iList K tl) g tt te vs σ H Q := h
section
variable {P : Program} {w : World} {K : PySem.W.Frag} {mg : Str → Option Value} {base : Heap} {C : Addr}
theorem c_stops (T : Tx mg) (D : Df K mg "stops" s_stops ["size", "pattern", "text"]) (c_check_for : C8.Cal P w K mg base 30 "check_for" (spT 3 F_check_for) []) (c_all_stops : CalX P w K mg base 223 "all_stops" (sp_all C)) : CalX P w K mg base 224 "stops" (sp_stops C) := by
  refine df_mkX D sc_stops (fun vs H Q E h => by obtain ⟨s, p, t, r, g, _⟩ := h; exact g.ok.length) fun f cdv A outer s H vs Q E hr h => ?_
  obtain ⟨n, p, t, r, ⟨gv, gd, ga, gl, gg⟩, hR, q⟩ := h
  obtain _ | @⟨x0, _, _, _, r0, _ | @⟨x1, _, _, _, r1, _ | @⟨x2, _, _, _, r2, _ | _⟩⟩⟩ := gv
  refine ⟨_, (pss_cons (ps_expr (C8.pe_c c_check_for hr (by omega) rfl (pa_cons (pv 0) (pa_cons (pv 1) (pa_cons (pv 2) pa_nil)))))
    (pss_one (ps_ret (pe_cX c_all_stops hr (by omega) rfl (passes_call (takes_of rfl rfl rfl rfl) fun _ _ _ _ h => h) (pa_cons (pv 1) (pa_cons (pv 2) pa_nil)))))), ?_⟩
  refine sq_drop (et_call (F := F_check_for) (by walk_at "ea") rfl ⟨n, p, t, rfl, gd, ga, gl, rfl⟩) fun H1 s1 => ?_
  cases r with
  | some S => exact el_allS (σ := [some x0, some x1, some x2]) (by walk_at "ea") (okP_le gd.2.2.2.1 (by decide)) gg hR fun h1 h2 v H' s l => q h1 h2 v H' (s1.trans s) l
  | none => exact ex_allS (σ := [some x0, some x1, some x2]) (by walk_at "ea") (okP_le gd.2.2.2.1 (by decide)) gg hR fun H' s => q H' (s1.trans s)
theorem c_ways (T : Tx mg) (D : Df K mg "ways" s_ways ["size", "pattern", "text"]) (c_check_for : C8.Cal P w K mg base 30 "check_for" (spT 3 F_check_for) []) (c_all_stops : CalX P w K mg base 223 "all_stops" (sp_all C)) (c_spans_of : C8.Cal P w K mg base 1 "spans_of" (spT 1 F_spans_of) []) : CalX P w K mg base 224 "ways" (sp_ways C) := by
  refine df_mkX D sc_ways (fun vs H Q E h => by obtain ⟨s, p, t, r, g, _⟩ := h; exact g.ok.length) fun f cdv A outer s H vs Q E hr h => ?_
  obtain ⟨n, p, t, r, ⟨gv, gd, ga, gl, gg⟩, hR, q⟩ := h
  obtain _ | @⟨x0, _, _, _, r0, _ | @⟨x1, _, _, _, r1, _ | @⟨x2, _, _, _, r2, _ | _⟩⟩⟩ := gv
  refine ⟨_, (pss_cons (ps_expr (C8.pe_c c_check_for hr (by omega) rfl (pa_cons (pv 0) (pa_cons (pv 1) (pa_cons (pv 2) pa_nil)))))
    (pss_one (ps_ret (pe_lc (own := [("rest", 3), ("marks", 4)]) (g := gTup K 2 (gCons (gName 3) (gCons (gName 4) gNil))) rfl sc_ways.nd (pi_listK (K := K) rfl (pe_cX c_all_stops hr (by omega) rfl (passes_call (takes_of rfl rfl rfl rfl) fun _ _ _ _ h => h) (pa_cons (pv 1) (pa_cons (pv 2) pa_nil)))) (blkOk_by (N := ["size", "pattern", "text", "rest", "marks"]) (sc := C8.fnScope s_ways) (by decide +kernel)) (fun _ _ _ _ _ => (pg_tupK (K := K) (n := 2) rfl rfl (pgs_cons (pg_name (i := 3) sc_ways.nd rfl (Or.inl rfl)) (pgs_cons (pg_name (i := 4) sc_ways.nd rfl (Or.inl rfl)) pgs_nil)))) (fun _ _ _ _ _ => (pts_one (pt_cmpR (op_eqK (K := K) rfl hr.units) (pv 3) (pe_tup pa_nil) (nomark _)))) (fun _ _ _ _ _ => (C8.pe_c c_spans_of hr (by omega) rfl (pa_cons (pv 4) pa_nil))))))), ?_⟩
  refine sq_drop (et_call (F := F_check_for) (by walk_at "ea") rfl ⟨n, p, t, rfl, gd, ga, gl, rfl⟩) fun H1 s1 => ?_
  cases r with
  | none => exact ex_allS (σ := [some x0, some x1, some x2, none, none]) (by walk_at "ea") (okP_le gd.2.2.2.1 (by decide)) gg hR fun H' s => q H' (s1.trans s)
  | some S =>
    refine lc_from (el_allS (σ := [some x0, some x1, some x2, none, none]) (by walk_at "ea") (okP_le gd.2.2.2.1 (by decide)) gg hR fun hok hz v H2 s2 l2 => ?_)
    refine (EN.el (en_lcL (K := K) (tl := fun _ H0 Q => Q v H0) (σ := [some x0, some x1, some x2, none, none]) S encS (fun s => s.1.isEmpty) (fun s => spans s.2) (fun H3 s3 Q q => q v H3 (Same.refl _) (l2.mono s3)) (by omega) fun s hs => lcT2 (by decide) (fun v1 v2 H1 s1 r1 r2 => ?_) fun e v1 v2 H1 s1 r1 r2 => ?_)).use fun v' H' s' l' => q hok hz v' H' ((s1.trans s2).trans s') ?_
    · have hsh := (okR_shp (hok s hs).1).shaped
      unfold encR at r1 hsh
      have e := eb_test (et_eqNil (K := K) (ta := tVar 3) (σ := [some x0, some x1, some x2, some v1, some v2]) (by walk_at "et") hsh)
      rw [List.isEmpty_map] at e
      exact e
    · exact et_call (by walk_at "ea") rfl ⟨s.2, rfl, (hok s hs).2.1, rfl⟩
    · have e1 : (S.filter fun s => s.1.isEmpty).map (fun s => spans s.2) = (waysL S).map spans := by rw [waysL, List.map_map]; rfl
      rw [e1] at l'
      exact l'
end
end

section
open PySem.Spec PyProof.Rows
/-! a dict whose keys are nested tuples: {}, setdefault, list(items) -/
mutual
def keyD : PyData → NestedKey
  | .none => .none
  | .bool b => .num (if b = true then 1 else 0)
  | .int i => .num i
  | .str x => .text x
  | .tuple ds => .tup (keyDs ds)
  | _ => .none
def keyDs : List PyData → List NestedKey
  | [] => []
  | d :: ds => keyD d :: keyDs ds
end
section
variable {X : Cx} {pins : List (Addr × Obj)} {σ : L2.St} {H : Hp} {s : Shared}
mutual
theorem tp_key (I : Inv X pins σ H s) : ∀ {v : V} {d : PyData} {u : Value}, Tp H v d → RelV v u → NestedIs s.heap (keyD d) u
  | _, _, u, .non, r => by cases (show u = Value.none from r); rw [keyD]; exact .none
  | _, _, u, .bl b, r => by cases (show u = Value.bool b from r); rw [keyD]; exact .bool rfl
  | _, _, u, .int i, r => by obtain ⟨t, e⟩ := (show ∃ t, u = Value.int i t from r); cases e; rw [keyD]; exact .int _ _
  | _, _, u, .str x, r => by obtain ⟨t, e⟩ := (show ∃ t, u = Value.str x t from r); cases e; rw [keyD]; exact .text _ _
  | _, _, u, .tup (a := a) h q, r => by
    cases (show u = Value.ref a from r)
    obtain ⟨_, its, rv, ob, e, c, n, e2⟩ := (show ObjOk X.prog X.w H s.heap a (.tup _) from I.hok a _ h)
    rw [keyD]
    exact .tup e c e2 (by simpa using tpa_key I q rv)
theorem tpa_key (I : Inv X pins σ H s) : ∀ {vs : List V} {ds : List PyData} {us : List Value}, TpA H vs ds → Vals vs us → NestedAll s.heap (keyDs ds) us
  | _, _, _, .nil, .nil => by rw [keyDs]; exact .nil
  | _, _, _, .cons h q, .cons r t => by rw [keyDs]; exact .cons (tp_key I h r) (tpa_key I q t)
end
end
abbrev NX := List (NestedKey × Addr × V)
def RelX (p : NestedKey × Addr × V) (q : NestedKey × Addr × Value) : Prop := p.1 = q.1 ∧ p.2.1 = q.2.1 ∧ RelV p.2.2 q.2.2
def nDict (P : Program) (w : World) (d : Addr) (xs : NX) : HO := .ext fun h => (d == sysModules) = false ∧ ∃ (rs : List (NestedKey × Addr × Value)) (o : Obj) (es : Array DictEntry) (ep : Nat), Paired RelX xs rs ∧
  h.get? d = some o ∧ o.ExactDict ∧ o.data = .dict es ep ∧ es.toList = rs.map (entryOfKey (nestedKind P w)) ∧ (rs.map (·.1)).Nodup
def atN (xs : NX) (k : NestedKey) : Option V := (xs.find? fun x => decide (x.1 = k)).map (·.2.2)
/-- all keys stand as what they are -/
def KeysOk (H : Hp) (xs : NX) : Prop := ∀ x ∈ xs, ∃ d, Tp H (.ref x.2.1) d ∧ keyD d = x.1 ∧ x.1.depth ≤ 8
theorem KeysOk.mono {H H' : Hp} {xs : NX} (h : KeysOk H xs) (e : TLe H H') : KeysOk H' xs := fun x hx => let ⟨d, a, b, c⟩ := h x hx; ⟨d, a.mono e, b, c⟩
theorem pairedX_keys : ∀ {xs : NX} {rs : List (NestedKey × Addr × Value)}, Paired RelX xs rs → rs.map (·.1) = xs.map (·.1)
  | _, _, .nil => rfl
  | _, _, .cons r t => by rw [List.map_cons, List.map_cons, pairedX_keys t, r.1]
theorem pairedX_find {k : NestedKey} : ∀ {xs : NX} {rs : List (NestedKey × Addr × Value)}, Paired RelX xs rs →
    (atN xs k = none ∧ atKey rs k = none) ∨ ∃ v p, atN xs k = some v ∧ atKey rs k = some p ∧ RelV v p.2
  | _, _, .nil => .inl ⟨rfl, rfl⟩
  | x :: xs, y :: rs, .cons r t => by
    unfold atN atKey
    rw [List.find?_cons, List.find?_cons]
    by_cases h : x.1 = k
    · have h' : y.1 = k := by rw [← r.1]; exact h
      simp only [h, h', decide_true]
      exact .inr ⟨_, _, rfl, rfl, r.2.2⟩
    · have h' : ¬ y.1 = k := by rw [← r.1]; exact h
      simp only [h, h', decide_false]
      exact pairedX_find t
theorem pairedX_mem : ∀ {xs : NX} {rs : List (NestedKey × Addr × Value)}, Paired RelX xs rs → ∀ y ∈ rs, ∃ x ∈ xs, RelX x y
  | _, _, .nil, _, h => absurd h (by simp)
  | _, _, .cons r t, y, h => by
    rcases List.mem_cons.mp h with e | h
    · rw [e]; exact ⟨_, List.mem_cons_self, r⟩
    · obtain ⟨x, hx, e⟩ := pairedX_mem t y h
      exact ⟨x, List.mem_cons_of_mem _ hx, e⟩
theorem paired_snoc {α β : Type} {F : α → β → Prop} {a : α} {b : β} (h : F a b) : ∀ {xs : List α} {ys : List β}, Paired F xs ys → Paired F (xs ++ [a]) (ys ++ [b])
  | _, _, .nil => .cons h .nil
  | _, _, .cons r t => .cons r (paired_snoc h t)
section
variable {X : Cx} {pins : List (Addr × Obj)} {σ : L2.St} {H : Hp} {s : Shared} {a : Addr}
theorem nDict_ext {P : Program} {w : World} {H : Hp} {h : Heap} {d : Addr} {xs : NX} (h0 : (d == sysModules) = false) (rs : List (NestedKey × Addr × Value)) (o : Obj) (es : Array DictEntry) (ep : Nat) (hp : Paired RelX xs rs) (e1 : h.get? d = some o) (e2 : o.ExactDict) (e3 : o.data = .dict es ep)
    (e4 : es.toList = rs.map (entryOfKey (nestedKind P w))) (e5 : (rs.map (·.1)).Nodup) : ObjOk P w H h d (nDict P w d xs) :=
  ⟨⟨h0, rs, o, es, ep, hp, e1, e2, e3, e4, e5⟩, ⟨o, e1⟩, fun h1 h2 ⟨q0, rs, o, es, ep, hp, e1, e2⟩ k => ⟨q0, rs, o, es, ep, hp, k o e1, e2⟩⟩
theorem nDict_at (I : Inv X pins σ H s) {xs : NX} (e : H a = some (nDict X.prog X.w a xs)) (hk : KeysOk H xs) : (a == sysModules) = false ∧ ∃ rs, Paired RelX xs rs ∧ s.heap.DictOfH (nestedKind X.prog X.w) a rs := by
  obtain ⟨⟨h0, rs, o, es, ep, hp, e1, e2, e3, e4, e5⟩, _⟩ := (show ObjOk X.prog X.w H s.heap a (nDict X.prog X.w a xs) from I.hok a _ e)
  refine ⟨h0, rs, hp, o, es, ep, e1, e2, e3, e4, fun y hy => ?_, e5⟩
  obtain ⟨x, hx, r1, r2, r3⟩ := pairedX_mem hp y hy
  obtain ⟨d, t, q1, q2⟩ := hk x hx
  rw [← r1, ← r2]
  exact ⟨by rw [← q1]; exact tp_key I t rfl, q2⟩
end
/-- {} -/
def tDNewN (P : Program) (w : World) : TE := fun _ H Q => ∀ p, H p = none → Q (.ref p) (upd H p (nDict P w p []))
/-- d.setdefault(y, z) -/
def tNSetd (P : Program) (w : World) (td ty tx : TE) : TE := fun σ H Q => td σ H fun x H1 => ∃ a xs, x = .ref a ∧ H1 a = some (nDict P w a xs) ∧ ty σ H1 fun y H2 => tx σ H2 fun z H3 => ∃ (xs : NX) (b : Addr) (d : PyData), H3 a = some (nDict P w a xs) ∧ KeysOk H3 xs ∧
  y = .ref b ∧ Tp H3 (.ref b) d ∧ (keyD d).depth ≤ 8 ∧ xs.length < sizeLine ∧ (∀ v, atN xs (keyD d) = some v → Q v H3) ∧ (atN xs (keyD d) = none → Q z (upd H3 a (nDict P w a (xs ++ [(keyD d, b, z)]))))
/-- list(d.items()) -/
def tNItems (P : Program) (w : World) (te : TE) : TE := fun σ H Q => te σ H fun x H1 => ∃ (d : Addr) (xs : NX), x = .ref d ∧ H1 d = some (nDict P w d xs) ∧ KeysOk H1 xs ∧ xs.length ≤ sizeLine ∧
  ∀ (H' : Hp) (p : Addr) (ts : List Addr), Same H1 H' → H1 p = none → (∀ t ∈ ts, H1 t = none) → p ∉ ts → H' p = some (.lst (ts.map V.ref)) → Paired (fun (t : Addr) (q : NestedKey × Addr × V) => H' t = some (.tup [.ref q.2.1, q.2.2])) ts xs → Q (.ref p) H'
section
variable {X : Cx} {o e f : Expr} {td ty tx : TE} {p apos cpos pos : Pos}
theorem pe_dnewN : PE X (.Dict [] [] pos) (tDNewN X.prog X.w) := ⟨fun pins s σ H Q I h =>
  wpAny_Dict_empty ⟨.ref s.heap.objs.size, _, I.laid (a := s.heap.objs.size) (o := nDict X.prog X.w s.heap.objs.size []) (t' := s.toks) (fun _ _ q => Heap.get?_push_of_some _ q) (Nat.le_refl _)
    (nDict_ext (beq_eq_false_iff_ne.mpr (Ne.symm (Nat.ne_of_lt I.big))) [] _ #[] 0 .nil (Heap.get?_push_size _ rfl) ⟨rfl, rfl, rfl⟩ rfl rfl List.nodup_nil), rfl, h _ (I.hok.fresh (Nat.le_refl _))⟩⟩
theorem pe_nsetd (hu : X.A.units + 64 < cLine) (ho : PE X o td) (he : PE X e ty) (hf : PE X f tx) (m : M2 X o "setdefault" apos e f cpos) : PE X (.Call (.Attribute o "setdefault" apos) [e, f] [] cpos) (tNSetd X.prog X.w td ty tx) := by
  refine ⟨fun pins s σ H Q I h => ?_⟩
  refine wpAny_Call_method m.base m.few m.line PySem.F.plainAttrs_dict PySem.F.slot_dict_setdefault PySem.F.type_dict_setdefault (thn (ho.run pins s σ H _ I h) fun u s1 ⟨x, H1, I1, rx, a, xs, ex, hd, q1⟩ => ?_)
  subst ex
  obtain rfl : u = Value.ref a := rx
  obtain ⟨⟨h0, rs, ob, es, ep, hp, e1, e2, e3, e4, e5⟩, _⟩ := (show ObjOk X.prog X.w H1 s1.heap a (nDict X.prog X.w a xs) from I1.hok a _ hd)
  refine ⟨⟨ob, e1, e2.1⟩, fun b q => by cases q; exact ⟨ob, e1, e2.2.1⟩, ?_⟩
  rw [m.trees]
  refine Calls.callWith_builtin rfl (Calls.evalArgs_plain (Calls.spliced_cons (thn (he.run pins s1 σ H1 _ I1 q1) fun iv s2 ⟨y, H2, I2, ry, q2⟩ =>
    Calls.spliced_cons (thn (hf.run pins s2 σ H2 _ I2 q2) fun fv s3 ⟨z, H3, I3, rz, xs, b, d, ea, hk, ey, hb, hdp, hl, q3, q4⟩ => Calls.spliced_nil ?_))))
  subst ey
  obtain rfl : iv = Value.ref b := ry
  obtain ⟨h0, rs, hp, hm⟩ := nDict_at I3 ea hk
  have hkey : (nestedKind X.prog X.w).is s3.heap (keyD d) b := ⟨tp_key I3 hb rfl, hdp⟩
  have hz : rs.length ≤ sizeLine := by rw [← Paired.length hp]; omega
  refine call_setdefault_heap (show X.A.in1.units + 8 < cLine by show X.A.units + 1 + 8 < _; omega) hkey h0 hm (fun p hp' => ?_) (fun hn h' hm' hs => ?_) hz
  · rcases pairedX_find (k := keyD d) hp with ⟨_, z2⟩ | ⟨v, p2, z1, z2, z3⟩
    · rw [z2] at hp'; cases hp'
    · rw [z2] at hp'; cases hp'
      exact ⟨v, _, I3.tok _, z3, q3 v z1⟩
  · rcases pairedX_find (k := keyD d) hp with ⟨z1, _⟩ | ⟨v, p2, z1, z2, z3⟩
    · rw [storedH_new hn] at hm'
      obtain ⟨o', es', ep', g1, g2, g3, g4, _, g6⟩ := hm'
      exact ⟨z, _, d_write (t' := s3.toks + _) I3 (by rw [ea]; exact True.intro) hs ⟨_, g1⟩ (nDict_ext h0 _ o' es' ep' (paired_snoc (a := (keyD d, b, z)) (b := (keyD d, b, fv)) ⟨rfl, rfl, rz⟩ hp) g1 g2 g3 g4 g6), rz, q4 z1⟩
    · rw [z2] at hn; cases hn
/-- the tuples tracked at their addresses -/
def putN : Hp → List Addr → NX → Hp
  | H, a :: as, p :: xs => putN (upd H a (.tup [.ref p.2.1, p.2.2])) as xs
  | H, _, _ => H
theorem putN_off {b : Addr} : ∀ (as : List Addr) (xs : NX) (H : Hp), b ∉ as → putN H as xs b = H b
  | [], _, _, _ => rfl
  | _ :: _, [], _, _ => rfl
  | a :: as, p :: xs, H, h => by
    show putN (upd H a (.tup [.ref p.2.1, p.2.2])) as xs b = H b
    rw [putN_off as xs _ (fun z => h (List.mem_cons_of_mem _ z)), upd_ne (fun z => h (by rw [z]; exact List.mem_cons_self))]
theorem putN_at : ∀ (as : List Addr) (xs : NX) (H : Hp), as.length = xs.length → as.Nodup → Paired (fun (t : Addr) (p : NestedKey × Addr × V) => putN H as xs t = some (.tup [.ref p.2.1, p.2.2])) as xs
  | [], [], _, _, _ => .nil
  | [], _ :: _, _, h, _ => by cases h
  | _ :: _, [], _, h, _ => by cases h
  | a :: as, p :: xs, H, h, hn => by
    have hn' := List.nodup_cons.mp hn
    have ih := putN_at as xs (upd H a (.tup [.ref p.2.1, p.2.2])) (Nat.succ.inj h) hn'.2
    refine .cons ?_ ih
    show putN (upd H a (.tup [.ref p.2.1, p.2.2])) as xs a = some (.tup [.ref p.2.1, p.2.2])
    rw [putN_off as xs _ hn'.1, upd_same]
theorem items_laidN {pins : List (Addr × Obj)} {σ : L2.St} {H : Hp} {s : Shared} {h' : Heap} {tk : Nat} {xs : NX} {rs : List (NestedKey × Addr × Value)} {es : Array DictEntry} {acc : Array Value} {c : Nat} {as : List Addr} (I : Inv X pins σ H s) (hz : xs.length ≤ sizeLine) (kv : Paired RelX xs rs)
    (he : es.toList = rs.map (entryOfKey (nestedKind X.prog X.w)))
    (hk : ∀ b o, s.heap.get? b = some o → h'.get? b = some o) (hS : h'.get? s.heap.objs.size = some { cls := .type "list", dict := none, data := .seq acc c, slots := #[] }) (hl : as.length = es.size) (hG : PySem.W.DilG es s.heap.objs.size h' as) (hacc : acc.toList = as.map Value.ref) :
    ∃ H' : Hp, Same H H' ∧ H s.heap.objs.size = none ∧ (∀ t ∈ as, H t = none) ∧ s.heap.objs.size ∉ as ∧ H' s.heap.objs.size = some (.lst (as.map V.ref)) ∧ Paired (fun (t : Addr) (q : NestedKey × Addr × V) => H' t = some (.tup [.ref q.2.1, q.2.2])) as xs ∧ Inv X pins σ H' { s with heap := h', toks := tk } := by
  have lk : xs.length = rs.length := Paired.length kv
  have le : es.size = rs.length := by rw [← Array.length_toList, he, List.length_map]
  have hSn : s.heap.objs.size ∉ as := fun z => Nat.lt_irrefl _ (hG.above _ z)
  have nd : as.Nodup := List.Pairwise.imp (fun {a b} (h : a < b) => Nat.ne_of_lt h) hG.rise
  have new : ∀ t ∈ as, H t = none := fun t ht => I.hok.fresh (Nat.le_of_lt (hG.above t ht))
  have newS : H s.heap.objs.size = none := I.hok.fresh (Nat.le_refl _)
  have atP := putN_at as xs (upd H s.heap.objs.size (.lst (as.map V.ref))) (by omega) nd
  have off : ∀ b, b ∉ as → b ≠ s.heap.objs.size → putN (upd H s.heap.objs.size (.lst (as.map V.ref))) as xs b = H b := fun b h1 h2 => by rw [putN_off as xs _ h1, upd_ne h2]
  have low : ∀ b o, s.heap.get? b = some o → b ∉ as ∧ b ≠ s.heap.objs.size := fun b o e => ⟨fun z => absurd (Heap.lt_size e) (Nat.not_lt.mpr (Nat.le_of_lt (hG.above b z))), Nat.ne_of_lt (Heap.lt_size e)⟩
  have kp : ∀ b u, H b = some u → (putN (upd H s.heap.objs.size (.lst (as.map V.ref))) as xs) b = some u := fun b u e => by
    rw [off b (fun z => by rw [new b z] at e; cases e) (fun z => by rw [z, newS] at e; cases e)]
    exact e
  have eS : putN (upd H s.heap.objs.size (.lst (as.map V.ref))) as xs s.heap.objs.size = some (.lst (as.map V.ref)) := by rw [putN_off as xs _ hSn, upd_same]
  refine ⟨putN (upd H s.heap.objs.size (.lst (as.map V.ref))) as xs, kp, newS, new, hSn, eS, atP, ?_⟩
  refine I.call' (ch := []) rfl ⟨fun b o q _ _ _ => hk b o q, fun b o q _ _ _ => ⟨o.slots, hk b o q⟩, fun b o q n _ => ?_, fun b o q _ => ⟨o, hk b o q⟩, fun b xs q => kp b _ q, fun b o u q => kp b _ q, fun b ps q => ⟨#[], by rw [kp b _ q]; simp⟩⟩ (fun b u q => ?_) I.bare fun b z => by simp at z
  · obtain ⟨z1, z2⟩ := low b o q
    rw [off b z1 z2]
    exact n
  · by_cases hb : b ∈ as
    · obtain ⟨j, pk, e1, e2, e3⟩ := LiI.paired_ix atP hb
      rw [e3] at q
      cases q
      obtain ⟨hj, f3⟩ := hG.pairs j b e1
      obtain ⟨qv, g1, g2, g3, g4⟩ := LiI.paired_get kv e2
      have ej : es[j] = entryOfKey (nestedKind X.prog X.w) qv := by
        have h1 : es.toList[j]? = some es[j] := by simp [hj]
        rw [he, List.getElem?_map, g1] at h1
        exact (Option.some.inj h1).symm
      rw [ej] at f3
      refine ⟨by show 2 ≤ sizeLine; decide, [.ref qv.2.1, qv.2.2], .cons (show Value.ref qv.2.1 = Value.ref pk.2.1 by rw [g3]) (.cons g4 .nil), ⟨_, f3, rfl, _, rfl⟩⟩
    · by_cases hb2 : b = s.heap.objs.size
      · rw [hb2] at q ⊢
        rw [eS] at q
        cases q
        refine ⟨by rw [List.length_map]; omega, acc.toList, c, by rw [hacc]; exact LiI.vals_refs as, ?_⟩
        rw [Array.toArray_toList]
        exact hS
      · rw [off b hb hb2] at q
        exact (I.hok b u q).stay (fun d v _ y => hk d v y) (fun d y => kp d _ y) fun d xs y => kp d _ y
/-- list(e.items()) -/
theorem pe_nitems (hc : X.calm = true) (he : PE X e td) (hg : Gl X "list") (hm : X.mg "list" = none) (hv : bootBuiltins "list" = some (.type "list") := by decide +kernel) (hbase : attributeBase e "items" X.env (eval e X.env) = eval e X.env := by rfl) (hline : (apos.endLine == cpos.line) = true := by rfl)
    (hs : starEach [.Call (.Attribute e "items" apos) [] [] cpos] X.env = (false, eval (.Call (.Attribute e "items" apos) [] [] cpos) X.env) :: starEach [] X.env := by rfl) :
    PE X (.Call (.Name "list" p) [.Call (.Attribute e "items" apos) [] [] cpos] [] pos) (tNItems X.prog X.w td) := by
  refine ⟨fun pins s σ H Q I hq => ?_⟩
  refine wpAny_Call_Name_kw (ld_blt I hg hm hv ?_)
  refine PyProof.Rows.callWith_type1 ?_ hs rfl
  rw [hs]
  show wpAny _ _ (spliced ((false, eval (.Call (.Attribute e "items" apos) [] [] cpos) X.env) :: backTo pos (starEach [] X.env))) _ _ s
  refine Calls.spliced_cons ?_
  refine wpAny_Call_method (T := "dict") (id := "dict.items") hbase rfl hline F.plainAttrs_dict F.slot_dict_items F.type_dict_items (thn (he.run pins s σ H _ I hq) fun u s1 ⟨x, H1, I1, rx, d, xs, ex, hd, hk, hz, q⟩ => ?_)
  subst ex
  obtain rfl : u = Value.ref d := rx
  obtain ⟨⟨h0, rs, ob, es, ep, hp, e1, e2, e3, e4, e5⟩, _⟩ := (show ObjOk X.prog X.w H1 s1.heap d (nDict X.prog X.w d xs) from I1.hok d _ hd)
  have lk : xs.length = rs.length := Paired.length hp
  have le : es.size = rs.length := by rw [← Array.length_toList, e4, List.length_map]
  have I2 : Inv X pins σ H1 { s1 with heap := s1.heap.push { cls := .type "dict_items", data := .fields #[.ref d] } } := I1.kept (t' := s1.toks) fun b ob q => Heap.get?_push_of_some _ q
  have hT : s1.TypeIs (.ref d) "dict" := ⟨ob, e1, e2.1⟩
  refine ⟨hT, fun b q => by cases q; exact ⟨ob, e1, e2.2.1⟩, ?_⟩
  show wpAny _ _ (callWith cpos (.builtin "dict.items") [.ref d] [] []) _ X.xe s1
  refine method_meetsIn F.slot_dict_items F.entry_dict_items rfl (PySem.evalArgs_none ⟨rfl, hT, F.args_dict_items_1 _, _, meets_dict_items_raw d h0, ⟨es, ep, ob, e1, e2, e3⟩, ?_⟩)
  refine Calls.spliced_nil ?_
  refine PySem.W.dil_call (d := d) (es := es) (ep := ep) (I1.ok.hd hc) ⟨_, Heap.get?_push_size _ rfl, rfl, rfl⟩ ⟨ob, Heap.get?_push_of_some _ e1, e2, e3⟩ (by omega) fun h' tk acc c as hk' hS hl hG hacc => ?_
  obtain ⟨H', k1, k2, k3, k4, k5, k6, J⟩ := items_laidN (tk := tk) I2 hz hp e4 hk' hS hl hG hacc
  exact ⟨.ref _, H', J, rfl, q H' _ as k1 k2 k3 k4 k5 k6⟩
end
end

section

/-! ### without_later, first_way -/
/-- a stop behind others, unless one of them has its rest -/
def addN (acc : List Stop) (s : Stop) : List Stop := if acc.any (fun a => decide (keyD (encR a.1) = keyD (encR s.1))) then acc else acc ++ [s]
def later (S : List Stop) : List Stop := S.foldl addN []
def low8 (s : Stop) : Prop := (keyD (encR s.1)).depth ≤ 8
instance (s : Stop) : Decidable (low8 s) := inferInstanceAs (Decidable (_ ≤ _))
theorem later_snoc {S : List Stop} {i : Nat} {s : Stop} (h : S[i]? = some s) : later (S.take (i + 1)) = addN (later (S.take i)) s := by
  rw [later, take_succ h, List.foldl_append]; rfl
theorem addN_len (acc : List Stop) (s : Stop) : (addN acc s).length ≤ acc.length + 1 := by
  unfold addN; split
  · omega
  · simp
theorem foldN_len : ∀ (S acc : List Stop), (S.foldl addN acc).length ≤ acc.length + S.length
  | [], acc => by simp
  | s :: S, acc => by
    have h1 := foldN_len S (addN acc s)
    have h2 := addN_len acc s
    rw [List.foldl_cons, List.length_cons]; omega
theorem later_len (S : List Stop) : (later S).length ≤ S.length := by have := foldN_len S []; simpa [later] using this
theorem foldN_mem : ∀ (S acc : List Stop), ∀ s ∈ S.foldl addN acc, s ∈ acc ∨ s ∈ S
  | [], acc, s, h => .inl h
  | x :: S, acc, s, h => by
    rw [List.foldl_cons] at h
    rcases foldN_mem S _ s h with h | h
    · unfold addN at h
      split at h
      · exact .inl h
      · rcases List.mem_append.mp h with h | h
        · exact .inl h
        · exact .inr (by rw [List.mem_singleton.mp h]; exact List.mem_cons_self)
    · exact .inr (List.mem_cons_of_mem _ h)
theorem later_mem {S : List Stop} {s : Stop} (h : s ∈ later S) : s ∈ S := by
  rcases foldN_mem S [] s h with h | h
  · cases h
  · exact h
def F_without_later (ls ds es : List PyData) : Prop := ∃ S : List Stop, ls = S.map encS ∧ ds = [] ∧ (∀ s ∈ S, low8 s) ∧ S.length ≤ 10000000 ∧ es = (later S).map encS
abbrev s_without_later : Stmt := topS 37
theorem sc_without_later : FnScope ["some", "found", "rest", "marks"] ["some"] (C8.fnScope s_without_later) := C8.fnScope_by (by decide +kernel)
section
variable {X : Cx} {P : Program} {w : World} {o e f : Expr} {td ty tx : TE} {p apos cpos pos : Pos}
theorem pe_dnewNP (hP : X.prog = P) (hw : X.w = w) : PE X (.Dict [] [] pos) (tDNewN P w) := by subst hP hw; exact pe_dnewN
theorem pe_nsetdP (hP : X.prog = P) (hw : X.w = w) (hu : X.A.units + 64 < cLine) (ho : PE X o td) (he : PE X e ty) (hf : PE X f tx) (m : M2 X o "setdefault" apos e f cpos) : PE X (.Call (.Attribute o "setdefault" apos) [e, f] [] cpos) (tNSetd P w td ty tx) := by
  subst hP hw; exact pe_nsetd hu ho he hf m
theorem pe_nitemsP (hP : X.prog = P) (hw : X.w = w) (hc : X.calm = true) (he : PE X e td) (hg : Gl X "list") (hm : X.mg "list" = none) (hbase : attributeBase e "items" X.env (eval e X.env) = eval e X.env := by rfl) (hline : (apos.endLine == cpos.line) = true := by rfl)
    (hs : starEach [.Call (.Attribute e "items" apos) [] [] cpos] X.env = (false, eval (.Call (.Attribute e "items" apos) [] [] cpos) X.env) :: starEach [] X.env := by rfl) :
    PE X (.Call (.Name "list" p) [.Call (.Attribute e "items" apos) [] [] cpos] [] pos) (tNItems P w td) := by
  subst hP hw; exact pe_nitems hc he hg hm (by decide +kernel) hbase hline hs
end
/-- all of it can be a key, and there is not too much of it -/
def tame (L : List Stop) : Bool := decide (L.length ≤ 10000000) && L.all fun s => decide (low8 s)
theorem tame_iff {L : List Stop} : tame L = true ↔ L.length ≤ 10000000 ∧ ∀ s ∈ L, low8 s := by simp [tame]
def runD : List Nat → Nat → List Stop → Option (List Stop)
  | [], _, S => some S
  | c :: cs, p, S => (nextF S c (p + 1)).bind fun L => if tame L = true then runD cs (p + 1) (later L) else none
def firstD (p : Pat) (t : Str) : Option (List Stop) := (firstF p).bind fun L => if tame L = true then runD t.cps.toList 0 (later L) else none
def sp_first_way : Sp := fun vs H Q _ => ∃ (s : Nat) (p : Pat) (t : Str) (S : List Stop), Given H vs s p t ∧ firstD p t = some S ∧ ∀ v H', Same H H' → Tp H' v (match waysL S with | [] => .none | M :: _ => spans M) → Q v H'
abbrev s_first_way : Stmt := topS 45
theorem sc_first_way : FnScope ["size", "pattern", "text", "found", "at", "letter"] ["size", "pattern", "text"] (C8.fnScope s_first_way) := C8.fnScope_by (by decide +kernel)
/-- the entries are these stops -/
def RelN (H : Hp) (x : NestedKey × Addr × V) (s : Stop) : Prop := x.1 = keyD (encR s.1) ∧ Tp H (.ref x.2.1) (encR s.1) ∧ Tp H x.2.2 (encM s.2)
theorem RelN.mono {H H' : Hp} (e : TLe H H') : ∀ {xs : NX} {S : List Stop}, Paired (RelN H) xs S → Paired (RelN H') xs S
  | _, _, .nil => .nil
  | _, _, .cons r t => .cons ⟨r.1, r.2.1.mono e, r.2.2.mono e⟩ (RelN.mono e t)
theorem RelN.find {H : Hp} {k : NestedKey} : ∀ {xs : NX} {S : List Stop}, Paired (RelN H) xs S → (atN xs k).isSome = S.any fun a => decide (keyD (encR a.1) = k)
  | _, _, .nil => rfl
  | x :: xs, s :: S, .cons r t => by
    have ih := RelN.find (k := k) t
    unfold atN at ih ⊢
    rw [List.find?_cons, List.any_cons, r.1]
    by_cases h : keyD (encR s.1) = k
    · simp [h]
    · simp only [h, decide_false, Bool.false_or]
      rw [ih]
theorem RelN.keys {H : Hp} : ∀ {xs : NX} {S : List Stop}, Paired (RelN H) xs S → (∀ s ∈ S, low8 s) → KeysOk H xs
  | _, _, .nil, _ => fun x hx => by cases hx
  | _, _, .cons r t, h => fun y hy => by
    rcases List.mem_cons.mp hy with e | hy
    · rw [e]; exact ⟨_, r.2.1, r.1.symm, by rw [r.1]; exact h _ List.mem_cons_self⟩
    · exact RelN.keys t (fun s hs => h s (List.mem_cons_of_mem _ hs)) y hy
theorem items_tpa {H : Hp} : ∀ {xs : NX} {S : List Stop} {ts : List Addr}, Paired (RelN H) xs S → Paired (fun (t : Addr) (q : NestedKey × Addr × V) => H t = some (.tup [.ref q.2.1, q.2.2])) ts xs → TpA H (ts.map V.ref) (S.map encS)
  | _, _, _, .nil, .nil => .nil
  | _, _, _, .cons r t, .cons a b => .cons (.tup a (.cons r.2.1 (.cons r.2.2 .nil))) (items_tpa t b)
theorem tle_ext {H : Hp} {p : Addr} {φ : Heap → Prop} {o : HO} (h : H p = some (.ext φ)) : TLe H (upd H p o) := (TLe.refl H).upd fun ys q => by rw [h] at q; cases q
section
variable {P : Program} {w : World} {K : PySem.W.Frag} {mg : Str → Option Value} {base : Heap}
theorem c_without_later (T : Tx mg) (D : Df K mg "without_later" s_without_later ["some"]) : C8.Cal P w K mg base 1 "without_later" (spLL 0 F_without_later) [] := by
  refine df_mk D sc_without_later spLL.len fun f cdv A outer s H vs Q E hr h => ?_
  obtain ⟨v, vr, ls, ds, es, rfl, hl, hn, hv, ⟨S, rfl, rfl, h8, hz, rfl⟩, qq⟩ := h
  obtain _ | _ := hv
  refine ⟨_, (pss_cons (ps_set (i := 1) sc_without_later.nd rfl (Or.inl rfl) (pe_dnewNP (P := P) (w := w) rfl rfl))
    (pss_cons (ps_for PassesOwn.never rfl (pi_listK (K := K) rfl (pv 0)) (pg_tupK (K := K) (n := 2) rfl rfl (pgs_cons (pg_name (i := 2) sc_without_later.nd rfl (Or.inl rfl)) (pgs_cons (pg_name (i := 3) sc_without_later.nd rfl (Or.inl rfl)) pgs_nil))) (pss_one (ps_expr (pe_nsetdP (P := P) (w := w) rfl rfl hr.units (pv 1) (pv 2) (pv 3) ⟨rfl, rfl, rfl, rfl⟩))))
    (pss_one (ps_ret (pe_nitemsP (P := P) (w := w) rfl rfl rfl (pv 1) rfl T.m_list))))), ?_⟩
  obtain ⟨pl, xs, rfl, hpl, tl⟩ := hl
  intro pd hpd
  have s1 : Same H (upd H pd (nDict P w pd [])) := same_new hpd _
  have npd : pl ≠ pd := ne_of_none hpl hpd
  refine sq_forV (ds := S.map encS) (σ := [some (.ref pl), some (.ref pd), none, none]) rfl (s1 _ _ hpl) (tl.mono (tle s1)) (fun i σ' H' => Same H H' ∧ TLe (upd H pd (nDict P w pd [])) H' ∧ H' pl = some (.lst xs) ∧ (∃ nx : NX, H' pd = some (nDict P w pd nx) ∧ Paired (RelN H') nx (later (S.take i))) ∧
    ∃ v2 v3, σ' = [some (.ref pl), some (.ref pd), v2, v3]) ⟨s1, TLe.refl _, s1 _ _ hpl, ⟨[], upd_same, .nil⟩, none, none, rfl⟩ (fun i σ' H' h => ⟨h.2.1, h.2.2.1⟩) (fun i d v σ' H' hd ⟨i1, i2, i3, ⟨nx, hnx, hrel⟩, v2, v3, e⟩ rv => ?_) (fun σ' H' ⟨i1, i2, i3, ⟨nx, hnx, hrel⟩, v2, v3, e⟩ => ?_)
  · subst e
    obtain ⟨q, hq, rfl⟩ := encS_get hd
    have hqS : q ∈ S := List.mem_of_getElem? hq
    unfold encS at rv
    obtain ⟨a, ys, rfl, hya, ry⟩ := rv.tuple_inv
    obtain _ | @⟨w1, _, _, _, y1, _ | @⟨w2, _, _, _, y2, _ | _⟩⟩ := ry
    have ytup : ∃ b, w1 = V.ref b ∧ Tp H' (.ref b) (encR q.1) := by
      unfold encR at y1
      obtain ⟨b, zs, rfl, hb, rb⟩ := y1.tuple_inv
      exact ⟨b, rfl, .tup hb rb⟩
    obtain ⟨b, rfl, y1'⟩ := ytup
    have hl8 : ∀ s ∈ later (S.take i), low8 s := fun s hs => h8 s (List.mem_of_mem_take (later_mem hs))
    have hlen : nx.length ≤ i := by rw [Paired.length hrel]; exact Nat.le_trans (later_len _) (by rw [List.length_take]; omega)
    have hi : i < S.length := (List.getElem?_eq_some_iff.mp hq).1
    refine ⟨a, _, rfl, SqT.of hya, rfl, _, _, rfl, _, _, rfl, rfl, ?_⟩
    refine ⟨.ref pd, rfl, pd, nx, rfl, hnx, .ref b, rfl, _, rfl, nx, b, encR q.1, hnx, RelN.keys hrel hl8, rfl, y1', h8 q hqS, sz_lt (by omega), fun v0 hv0 => ?_, fun hv0 => ?_⟩
    · refine ⟨i1, i2, i3, ⟨nx, hnx, ?_⟩, _, _, rfl⟩
      have := RelN.find (k := keyD (encR q.1)) hrel
      rw [hv0] at this
      rw [later_snoc hq, addN, ← this, if_pos (show (some v0).isSome = true from rfl)]
      exact hrel
    · have te : TLe H' (upd H' pd (nDict P w pd (nx ++ [(keyD (encR q.1), b, w2)]))) := tle_ext hnx
      refine ⟨same_mut i1 hpd, i2.trans te, by rw [upd_ne npd]; exact i3, ⟨_, upd_same, ?_⟩, _, _, rfl⟩
      have := RelN.find (k := keyD (encR q.1)) hrel
      rw [hv0] at this
      rw [later_snoc hq, addN, if_neg (by rw [← this]; exact Bool.false_ne_true)]
      exact paired_snoc ⟨rfl, y1'.mono te, y2.mono te⟩ (RelN.mono te hrel)
  · subst e
    rw [List.length_map, List.take_length] at hrel
    have hlen : nx.length ≤ 10000000 := by rw [Paired.length hrel]; exact Nat.le_trans (later_len _) hz
    refine ⟨.ref pd, rfl, pd, nx, rfl, hnx, RelN.keys hrel fun s hs => h8 s (later_mem hs), sz_ok (by omega), fun H2 p ts s2 hp hts hpt hH2 hpr => ?_⟩
    exact qq _ H2 (i1.trans s2) ⟨p, _, rfl, hH2, items_tpa (RelN.mono (tle s2) hrel) hpr⟩
theorem c_first_way (T : Tx mg) (D : Df K mg "first_way" s_first_way ["size", "pattern", "text"]) (c_check_for : C8.Cal P w K mg base 30 "check_for" (spT 3 F_check_for) []) (c_without_later : C8.Cal P w K mg base 1 "without_later" (spLL 0 F_without_later) []) (c_first_stops : C8.Cal P w K mg base 222 "first_stops" (spL 1 F_first_stops) [])
    (c_next_stops : C8.Cal P w K mg base 223 "next_stops" (spLL 2 F_next_stops) []) (c_first_of : C8.Cal P w K mg base 2 "first_of" (spLT 0 F_first_of) []) : C8.Cal P w K mg base 224 "first_way" sp_first_way [] := by
  refine df_mk D sc_first_way (fun vs H Q E h => by obtain ⟨s, p, t, r, g, _⟩ := h; exact g.ok.length) fun f cdv A outer s H vs Q E hr h => ?_
  obtain ⟨n, p, t, S, ⟨gv, gd, ga, gl, gg⟩, hS, qq⟩ := h
  obtain _ | @⟨x0, _, _, _, r0, _ | @⟨x1, _, _, _, r1, _ | @⟨x2, _, _, _, r2, _ | _⟩⟩⟩ := gv
  refine ⟨_, (pss_cons (ps_expr (C8.pe_c c_check_for hr (by omega) rfl (pa_cons (pv 0) (pa_cons (pv 1) (pa_cons (pv 2) pa_nil)))))
    (pss_cons (ps_set (i := 3) sc_first_way.nd rfl (Or.inl rfl) (C8.pe_c c_without_later hr (by omega) rfl (pa_cons (C8.pe_c c_first_stops hr (by omega) rfl (pa_cons (pv 1) pa_nil)) pa_nil)))
    (pss_cons (ps_for PassesOwn.never rfl (pi_enumS rfl T.m_enumerate (pa_cons (pv 2) pa_nil)) (pg_tupK (K := K) (n := 2) rfl rfl (pgs_cons (pg_name (i := 4) sc_first_way.nd rfl (Or.inl rfl)) (pgs_cons (pg_name (i := 5) sc_first_way.nd rfl (Or.inl rfl)) pgs_nil))) (pss_one (ps_set (i := 3) sc_first_way.nd rfl (Or.inl rfl) (C8.pe_c c_without_later hr (by omega) rfl (pa_cons (C8.pe_c c_next_stops hr (by omega) rfl (pa_cons (pv 3) (pa_cons (pv 5) (pa_cons (pe_op op_add (pv 4) pe_int) pa_nil)))) pa_nil)))))
    (pss_one (ps_ret (C8.pe_c c_first_of hr (by omega) rfl (pa_cons (pv 3) pa_nil))))))), ?_⟩
  refine sq_drop (et_call (F := F_check_for) (by walk_at "ea") rfl ⟨n, p, t, rfl, gd, ga, gl, rfl⟩) fun H1 s1 => ?_
  obtain ⟨L0, hL0, hS⟩ := Option.bind_eq_some_iff.mp hS
  by_cases hz : tame L0 = true
  · rw [if_pos hz] at hS
    obtain ⟨z1, z2⟩ := tame_iff.mp hz
    have hok19 := okP_le gd.2.2.2.1 (show 12 ≤ 19 by decide)
    have hS0 := firstF_ok hL0 hok19 gg
    refine sq_setL (el_callL (F := F_without_later) (ds := []) (es := (later L0).map encS) (el_call (F := F_first_stops) (ds := [enc p]) (by walk_at "ea") rfl ⟨p, L0, rfl, hok19, gg, hL0, z1, rfl⟩) ea_nil rfl ⟨L0, rfl, rfl, z2, z1, rfl⟩) fun v0 H2 s2 l2 => ?_
    show tSeq (tFor (iEnumS (tCons (tVar 2) tNil)) _ _) _ _ [some x0, some x1, some x2, some v0, none, none] H2
    refine sq_forE (x := t) (by walk_at "ea") fun H3 s3 => ⟨fun i σ' H' => Same H H' ∧ ∃ (S' : List Stop) (vf : V) (v4 v5 : Option V), σ' = [some x0, some x1, some x2, some vf, v4, v5] ∧ Lp H' vf (S'.map encS) ∧ (∀ s ∈ S', okS s) ∧ S'.length ≤ 10000000 ∧ runD (t.cps.toList.drop i) i S' = some S, ⟨(s1.trans s2).trans s3, later L0, v0, none, none, rfl, l2.mono s3, fun s hs => hS0 s (later_mem hs), Nat.le_trans (later_len _) z1, by simpa using hS⟩, fun i c T σ' H' hc ⟨sm, S', vf, v4, v5, e, lf, hS', hz', hr⟩ hT => ?_, fun σ' H' ⟨sm, S', vf, v4, v5, e, lf, hS', hz', hr⟩ => ?_⟩
    · subst e
      have sT : Same H (upd H' T (.tup [.int (i : Nat), .str ⟨#[c]⟩])) := sm.trans (same_new hT _)
      have sT' : Same H' (upd H' T (.tup [.int (i : Nat), .str ⟨#[c]⟩])) := same_new hT _
      refine ⟨T, _, rfl, SqT.of upd_same, rfl, _, _, rfl, _, _, rfl, rfl, ?_⟩
      have hdr : t.cps.toList.drop i = c :: t.cps.toList.drop (i + 1) := by
        have hc' : t.cps.toList[i]? = some c := by simpa using hc
        obtain ⟨hi, rfl⟩ := List.getElem?_eq_some_iff.mp hc'
        exact List.drop_eq_getElem_cons hi
      rw [hdr] at hr
      obtain ⟨L, hL, hr2⟩ := Option.bind_eq_some_iff.mp hr
      by_cases hz2 : tame L = true
      · rw [if_pos hz2] at hr2
        obtain ⟨y1, y2⟩ := tame_iff.mp hz2
        have lf' := lf.mono sT'
        refine st_setL (i := 3) (σ := [some x0, some x1, some x2, some vf, some (.int (i : Nat)), some (.str ⟨#[c]⟩)]) (el_callL (F := F_without_later) (ds := []) (es := (later L).map encS) (el_callL (F := F_next_stops) (ls := S'.map encS) (by walk_at "el") (ea_cons (et_var rfl (.str _)) (ea_cons (et_add (et_var rfl (.int _)) et_int) ea_nil)) rfl ⟨S', c, i + 1, L, rfl, rfl, hS', hL, y1, rfl⟩) ea_nil rfl ⟨L, rfl, rfl, y2, y1, rfl⟩) fun v7 H7 s7 l7 => ?_
        exact ⟨sT.trans s7, later L, v7, _, _, rfl, l7, fun s hs => nextF_ok hL hS' s (later_mem hs), Nat.le_trans (later_len _) y1, hr2⟩
      · rw [if_neg hz2] at hr2; cases hr2
    · subst e
      have e0 : t.cps.toList.drop t.cps.size = [] := by simp
      rw [e0] at hr
      cases hr
      exact st_ret (σ := [some x0, some x1, some x2, some vf, v4, v5]) (et_callL (F := F_first_of) (ls := S.map encS) (by walk_at "el") ea_nil rfl ⟨S, rfl, rfl, hS', hz', rfl⟩) fun v H' s r => qq v H' (sm.trans s) r
  · rw [if_neg hz] at hS; cases hS
end
end

section
/-! readings for the law: + of tuples, of lists -/
section
variable {K : PySem.W.Frag} {σ : L2.St} {H : Hp} {te ta tb : TE} {d e : PyData} {ds es : List PyData} {X : Cx}
theorem et_cat (ha : ET ta σ H (.tuple ds)) (hb : ET tb σ H (.tuple es)) (hz : ds.length + es.length ≤ 16000000) : ET (tOp (rCatA K) ta tb) σ H (.tuple (ds ++ es)) := fun H1 a Q q =>
  ha H1 a _ fun v H2 s2 r2 => hb H2 (a.trans s2) _ fun w H3 s3 r3 => by
    obtain ⟨p, xs, rfl, hp, r⟩ := r2.tuple_inv
    obtain ⟨p', ys, rfl, hp', r'⟩ := r3.tuple_inv
    have r1 := r.mono (tle s3)
    have l1 := r.length
    have l2 := r'.length
    refine ⟨p, p', xs, ys, rfl, rfl, SqT.of (s3 _ _ hp), SqT.of hp', sz_ok (by omega), fun e => ?_, fun _ e => ?_, fun _ _ z hz => ?_⟩
    · subst e
      have : ds = [] := by simpa using l1.symm
      subst this
      exact q _ H3 (s2.trans s3) (.tup hp' r')
    · subst e
      have : es = [] := by simpa using l2.symm
      subst this
      rw [List.append_nil] at q
      exact q _ H3 (s2.trans s3) (.tup (s3 _ _ hp) r1)
    · refine q _ _ ((s2.trans s3).trans (same_new hz _)) (.tup upd_same ?_)
      exact (r1.mono (tle (same_new hz _))).append (r'.mono (tle (same_new hz _)))
theorem en_cat (ha : EL ta σ H ds) (hb : EL tb σ H es) (hz : ds.length + es.length ≤ 16000000) : EN (tOp rCat ta tb) σ H (ds ++ es) := fun H1 a Q q =>
  ha H1 a _ fun v H2 s2 r2 => hb H2 (a.trans s2) _ fun w H3 s3 r3 => by
    obtain ⟨p, xs, rfl, hp, r⟩ := r2
    obtain ⟨p', ys, rfl, hp', r'⟩ := r3
    have r1 := r.mono (tle s3)
    have l1 := r.length
    have l2 := r'.length
    refine ⟨p, p', xs, ys, rfl, rfl, s3 _ _ hp, hp', sz_ok (by omega), fun z hz => ?_⟩
    exact q z _ _ ((s2.trans s3).free hz) ((s2.trans s3).trans (same_new hz _)) upd_same ((r1.mono (tle (same_new hz _))).append (r'.mono (tle (same_new hz _))))
theorem el_cat (ha : EL ta σ H ds) (hb : EL tb σ H es) (hz : ds.length + es.length ≤ 16000000) : EL (tOp rCat ta tb) σ H (ds ++ es) := (en_cat ha hb hz).el
theorem op_repAK (h : X.K = K) : OpR X (binaryOp .Mult) (rRepA K) := h ▸ op_repA
/-- min, max of a list of two -/
theorem et_minL {i j : Int} (ha : EL ta σ H [.int i, .int j]) : ET (tCB (rMin K) (tCons ta tNil)) σ H (.int (min i j)) := fun H1 a Q q =>
  ha H1 a _ fun v H2 s2 r2 => by
    obtain ⟨p, xs, rfl, hp, r⟩ := r2
    have e := tpa_ints (ns := [i, j]) r
    subst e
    refine ⟨p, [i, j], rfl, SqL.of hp, by simp, fun m hm hy => ?_⟩
    have h1 := hy i (by simp)
    have h2 := hy j (by simp)
    have : m = min i j := by
      have hm' : m = i ∨ m = j := by simpa using hm
      rcases hm' with e | e <;> omega
    rw [this]
    exact q _ H2 s2 (.int _)
theorem et_maxL {i j : Int} (ha : EL ta σ H [.int i, .int j]) : ET (tCB (rMax K) (tCons ta tNil)) σ H (.int (max i j)) := fun H1 a Q q =>
  ha H1 a _ fun v H2 s2 r2 => by
    obtain ⟨p, xs, rfl, hp, r⟩ := r2
    have e := tpa_ints (ns := [i, j]) r
    subst e
    refine ⟨p, [i, j], rfl, SqL.of hp, by simp, fun m hm hy => ?_⟩
    have h1 := hy i (by simp)
    have h2 := hy j (by simp)
    have : m = max i j := by
      have hm' : m = i ∨ m = j := by simpa using hm
      rcases hm' with e | e <;> omega
    rw [this]
    exact q _ H2 s2 (.int _)
end
end

section

abbrev s_Lwith : Stmt := topS 64
theorem sc_Lwith : FnScope ["_law_marks", "_law_group", "_law_pair"] ["_law_marks", "_law_group", "_law_pair"] (C8.fnScope s_Lwith) := C8.fnScope_by (by decide +kernel)
abbrev s_Lsettled : Stmt := topS 63
theorem sc_Lsettled : FnScope ["_law_frame", "_law_done"] ["_law_frame"] (C8.fnScope s_Lsettled) := C8.fnScope_by (by decide +kernel)
abbrev s_Lstops_of : Stmt := topS 65
theorem sc_Lstops_of : FnScope ["_law_rest", "_law_marks", "_law_place", "_law_frame", "_law_left", "_law_word", "_law_found", "_law_part", "_law_begun", "_law_done", "_law_is_new", "_law_going", "_law_staying"] ["_law_rest", "_law_marks", "_law_place"] (C8.fnScope s_Lstops_of) := C8.fnScope_by (by decide +kernel)
section
variable {P : Program} {w : World} {K : PySem.W.Frag} {mg : Str → Option Value} {base : Heap}
theorem c_Lwith (D : Df K mg "_law_with" s_Lwith ["_law_marks", "_law_group", "_law_pair"]) : C8.Cal P w K mg base 1 "_law_with" (spT 3 F_marked) [] := by
  refine df_mk D sc_Lwith spT.len fun f cdv A outer s H vs Q E hr h => ?_
  obtain ⟨ds, d, hn, hv, ⟨M, g, x, rfl, hg, hz, rfl⟩, q⟩ := h
  obtain _ | @⟨x0, _, _, _, h0, _ | @⟨x1, _, _, _, h1, _ | @⟨x2, _, _, _, h2, _ | _⟩⟩⟩ := hv
  refine ⟨_, (pss_one (ps_ret (pe_op (op_catK (K := K) rfl) (pe_op (op_catK (K := K) rfl) (pe_slice (sl_tupK (K := K) rfl) (pv 0) po_none (po_some (pv 1))) (pe_tup (pa_cons (pv 2) pa_nil))) (pe_slice (sl_tupK (K := K) rfl) (pv 0) (po_some (pe_op op_add (pv 1) pe_int)) po_none)))), ?_⟩
  refine st_ret (et_cat (et_cat (et_sl (by walk_at "et") eo_none (eo_some (by walk_at "et"))) (et_tup (by walk_at "ea") (by simp)) ?_) (et_sl (by walk_at "et") (eo_some (by walk_at "et")) eo_none) ?_) fun v H' e r => ?_
  · rw [cutD_to, List.length_take]; simp; omega
  · rw [cutD_to, show ((g : Int) + 1) = ((g + 1 : Nat) : Int) by omega, cutD_from]; simp; omega
  · rw [cutD_to, show ((g : Int) + 1) = ((g + 1 : Nat) : Int) by omega, cutD_from, List.append_assoc] at r
    have e2 := set_cut M g x hg
    rw [List.append_nil] at e2
    rw [show M.take g ++ ([x] ++ M.drop (g + 1)) = M.set g x from e2] at r
    exact q v H' e r
theorem c_Lsettled (T : Tx mg) (D : Df K mg "_law_settled" s_Lsettled ["_law_frame"]) : C8.Cal P w K mg base 1 "_law_settled" (spT 1 F_aged) [] := by
  refine df_mk D sc_Lsettled spT.len fun f cdv A outer s H vs Q E hr h => ?_
  obtain ⟨ds, d, hn, hv, ⟨fr, rfl, rfl⟩, q⟩ := h
  obtain _ | @⟨x0, _, _, _, h0, _ | _⟩ := hv
  refine ⟨_, (pss_cons (ps_if (pt_cmpR op_ne (pe_ix (ix_tupK (K := K) rfl) (pv 0) pe_int (fun _ _ => rfl)) pe_str (nomark _)) (pss_one (ps_ret (pv 0))) pss_nil)
    (pss_cons (ps_set (i := 1) sc_Lsettled.nd rfl (Or.inl rfl) (pe_ifExp (pt_cmpR op_notN (pe_ix (ix_tupK (K := K) rfl) (pe_ix (ix_tupK (K := K) rfl) (pv 0) pe_int (fun _ _ => rfl)) pe_int (fun _ _ => rfl)) pe_non (nomark _)) (pe_ix (ix_tupK (K := K) rfl) (pv 0) pe_int (fun _ _ => rfl)) (pe_callB (cr_min_K (K := K) rfl rfl) rfl T.m_min (by decide +kernel) (pa_cons (pe_lst (pa_cons (pe_ix (ix_tupK (K := K) rfl) (pv 0) pe_int (fun _ _ => rfl)) (pa_cons (pe_ix (ix_tupK (K := K) rfl) (pe_ix (ix_tupK (K := K) rfl) (pv 0) pe_int (fun _ _ => rfl)) pe_int (fun _ _ => rfl)) pa_nil))) pa_nil))))
    (pss_one (ps_ret (pe_tup (pa_cons pe_str (pa_cons (pe_ix (ix_tupK (K := K) rfl) (pv 0) pe_int (fun _ _ => rfl)) (pa_cons (pv 1) (pa_cons pe_bl pa_nil))))))))), ?_⟩
  cases fr with
  | close g =>
    simp only [encF] at h0
    refine sq_yes (by walk_at "eb") (by decide) fun H1 s1 => ?_
    exact st_ret (by walk_at "et") fun v H' s r => q v H' (s1.trans s) r
  | pat p =>
    rcases p with _ | _ | _ | _ | _ | _ | ⟨p, _ | g⟩ <;>
    (simp only [encF, enc] at h0
     refine sq_yes (by walk_at "eb") (by decide) fun H1 s1 => ?_
     exact st_ret (by walk_at "et") fun v H' s r => q v H' (s1.trans s) r)
  | turn p lo hi m d n =>
    simp only [encF, enc] at h0
    refine sq_no (by walk_at "eb") (by decide) fun H1 s1 => ?_
    cases hi with
    | none =>
      simp only [encHi] at h0
      refine sq_set (et_ifF (by walk_at "eb") (by rfl) (et_minL (i := (d : Int)) (j := (lo : Int)) (by walk_at "el"))) fun v1 H2 s2 r1 => ?_
      refine st_ret (by walk_at "et") fun v H' s r => q v H' ((s1.trans s2).trans s) ?_
      have e : ((min d lo : Nat) : Int) = min (d : Int) (lo : Int) := by omega
      simp only [aged, encF, enc, encHi, e]
      exact r
    | some h =>
      simp only [encHi] at h0
      refine sq_set (et_ifT (by walk_at "eb") (by rfl) (d := .int (d : Nat)) (by walk_at "et")) fun v1 H2 s2 r1 => ?_
      refine st_ret (by walk_at "et") fun v H' s r => q v H' ((s1.trans s2).trans s) ?_
      simp only [aged, encF, enc, encHi]
      exact r
theorem c_Lstops_of_step {n : Nat} (T : Tx mg) (D : Df K mg "_law_stops_of" s_Lstops_of ["_law_rest", "_law_marks", "_law_place"]) (c_Lstops_of : C8.Cal P w K mg base (n + 1) "_law_stops_of" (spL 3 (F_stops n)) [])
    (c_Lwith : C8.Cal P w K mg base 1 "_law_with" (spT 3 F_marked) []) (c_Lsettled : C8.Cal P w K mg base 1 "_law_settled" (spT 1 F_aged) []) : C8.Cal P w K mg base (n + 2) "_law_stops_of" (spL 3 (F_stops (n + 1))) [] := by
  refine df_mk D sc_Lstops_of spL.len fun f cdv A outer s H vs Q E hr h => ?_
  obtain ⟨ds, es, hn, hv, ⟨R, M, p, L, rfl, hok, hM, hL, hz, rfl⟩, qq⟩ := h
  obtain _ | @⟨x0, _, _, _, h0, _ | @⟨x1, _, _, _, h1, _ | @⟨x2, _, _, _, h2, _ | _⟩⟩⟩ := hv
  refine ⟨_, (pss_cons (ps_if (PW.pt (pw_or (pt_cmpR (op_eqK (K := K) rfl hr.units) (pv 0) (pe_tup pa_nil) (nomark _)) (pw_or1 (pt_cmpR op_eq (pe_ix (ix_tupK (K := K) rfl) (pe_ix (ix_tupK (K := K) rfl) (pv 0) pe_int (fun _ _ => rfl)) pe_int (fun _ _ => rfl)) pe_str (nomark _))))) (pss_one (ps_ret (pe_lst (pa_cons (pe_tup (pa_cons (pe_op (op_catK (K := K) rfl) (pe_slice (sl_tupK (K := K) rfl) (pv 0) po_none (po_some pe_int)) (pe_callTy (call_tuple_ofK (K := K) rfl) rfl T.m_tuple (by decide +kernel) (pa_cons (pe_lc (own := [("_law_frame", 3)]) rfl sc_Lstops_of.nd (pi_tupK (K := K) rfl (pe_slice (sl_tupK (K := K) rfl) (pv 0) (po_some pe_int) po_none)) (blkOk_by (N := ["_law_rest", "_law_marks", "_law_place", "_law_frame", "_law_left", "_law_word", "_law_found", "_law_part", "_law_begun", "_law_done", "_law_is_new", "_law_going", "_law_staying"]) (sc := C8.fnScope s_Lstops_of) (by decide +kernel)) (fun _ _ _ _ _ => pg_name (i := 3) sc_Lstops_of.nd rfl (Or.inl rfl)) (fun _ _ _ _ _ => pts_nil) (fun _ _ _ _ _ => (C8.pe_c c_Lsettled hr (by omega) rfl (pa_cons (pv 3) pa_nil)))) pa_nil))) (pa_cons (pv 1) pa_nil))) pa_nil)))) pss_nil)
    (pss_cons (ps_par (i := 3) (j := 4) rfl sc_Lstops_of.nd rfl rfl (by decide) rfl rfl (pa_cons (pe_ix (ix_tupK (K := K) rfl) (pv 0) pe_int (fun _ _ => rfl)) (pa_cons (pe_slice (sl_tupK (K := K) rfl) (pv 0) (po_some pe_int) po_none) pa_nil)) rfl)
    (pss_cons (ps_set (i := 5) sc_Lstops_of.nd rfl (Or.inl rfl) (pe_ix (ix_tupK (K := K) rfl) (pv 3) pe_int (fun _ _ => rfl)))
    (pss_cons (ps_if (pt_cmpR (op_in_seqK (K := K) rfl) (pv 5) (pe_tup (pa_cons pe_str (pa_cons pe_str pa_nil))) rfl) (pss_one (ps_ret (pe_ifExp (pt_cmpR op_eq (pv 5) pe_str (nomark _)) (pe_lst pa_nil) (C8.pe_c c_Lstops_of hr (by omega) rfl (pa_cons (pv 4) (pa_cons (pv 1) (pa_cons (pv 2) pa_nil))))))) pss_nil)
    (pss_cons (ps_if (pt_cmpR op_eq (pv 5) pe_str (nomark _)) (pss_one (ps_ret (C8.pe_c c_Lstops_of hr (by omega) rfl (pa_cons (pe_op (op_catK (K := K) rfl) (pe_slice (sl_tupK (K := K) rfl) (pv 3) (po_some pe_int) po_none) (pv 4)) (pa_cons (pv 1) (pa_cons (pv 2) pa_nil)))))) pss_nil)
    (pss_cons (ps_if (pt_cmpR op_eq (pv 5) pe_str (nomark _)) (pss_cons (ps_set (i := 6) sc_Lstops_of.nd rfl (Or.inl rfl) (pe_lst pa_nil))
    (pss_cons (ps_for PassesOwn.never rfl (pi_tupK (K := K) rfl (pe_slice (sl_tupK (K := K) rfl) (pv 3) (po_some pe_int) po_none)) (pg_name (i := 7) sc_Lstops_of.nd rfl (Or.inl rfl)) (pss_one (ps_set (i := 6) sc_Lstops_of.nd rfl (Or.inl rfl) (pe_op op_cat (pv 6) (C8.pe_c c_Lstops_of hr (by omega) rfl (pa_cons (pe_op (op_catK (K := K) rfl) (pe_tup (pa_cons (pv 7) pa_nil)) (pv 4)) (pa_cons (pv 1) (pa_cons (pv 2) pa_nil))))))))
    (pss_one (ps_ret (pv 6))))) pss_nil)
    (pss_cons (ps_if (pt_cmpR op_eq (pv 5) pe_str (nomark _)) (pss_cons (ps_set (i := 1) sc_Lstops_of.nd rfl (Or.inl rfl) (C8.pe_c c_Lwith hr (by omega) rfl (pa_cons (pv 1) (pa_cons (pe_ix (ix_tupK (K := K) rfl) (pv 3) pe_int (fun _ _ => rfl)) (pa_cons (pe_tup (pa_cons (pv 2) (pa_cons (pe_ix (ix_tupK (K := K) rfl) (pe_ix (ix_tupK (K := K) rfl) (pv 1) (pe_ix (ix_tupK (K := K) rfl) (pv 3) pe_int (fun _ _ => rfl)) (fun _ _ => rfl)) pe_int (fun _ _ => rfl)) pa_nil))) pa_nil)))))
    (pss_one (ps_ret (C8.pe_c c_Lstops_of hr (by omega) rfl (pa_cons (pe_op (op_catK (K := K) rfl) (pe_tup (pa_cons (pe_ix (ix_tupK (K := K) rfl) (pv 3) pe_int (fun _ _ => rfl)) (pa_cons (pe_tup (pa_cons pe_str (pa_cons (pe_ix (ix_tupK (K := K) rfl) (pv 3) pe_int (fun _ _ => rfl)) pa_nil))) pa_nil))) (pv 4)) (pa_cons (pv 1) (pa_cons (pv 2) pa_nil))))))) pss_nil)
    (pss_cons (ps_if (pt_cmpR op_eq (pv 5) pe_str (nomark _)) (pss_cons (ps_set (i := 8) sc_Lstops_of.nd rfl (Or.inl rfl) (pe_ix (ix_tupK (K := K) rfl) (pe_ix (ix_tupK (K := K) rfl) (pv 1) (pe_ix (ix_tupK (K := K) rfl) (pv 3) pe_int (fun _ _ => rfl)) (fun _ _ => rfl)) pe_int (fun _ _ => rfl)))
    (pss_one (ps_ret (C8.pe_c c_Lstops_of hr (by omega) rfl (pa_cons (pv 4) (pa_cons (C8.pe_c c_Lwith hr (by omega) rfl (pa_cons (pv 1) (pa_cons (pe_ix (ix_tupK (K := K) rfl) (pv 3) pe_int (fun _ _ => rfl)) (pa_cons (pe_tup (pa_cons (pv 8) (pa_cons (pe_tup (pa_cons (pv 8) (pa_cons (pv 2) pa_nil))) pa_nil))) pa_nil)))) (pa_cons (pv 2) pa_nil))))))) pss_nil)
    (pss_cons (ps_if (pt_cmpR op_eq (pv 5) pe_str (nomark _)) (pss_one (ps_ret (C8.pe_c c_Lstops_of hr (by omega) rfl (pa_cons (pe_op (op_catK (K := K) rfl) (pe_tup (pa_cons (pe_tup (pa_cons pe_str (pa_cons (pv 3) (pa_cons pe_int (pa_cons pe_bl pa_nil))))) pa_nil)) (pv 4)) (pa_cons (pv 1) (pa_cons (pv 2) pa_nil)))))) pss_nil)
    (pss_cons (ps_asg (pv 3) (pg_tupK (K := K) (n := 4) rfl rfl (pgs_cons (pg_name (i := 5) sc_Lstops_of.nd rfl (Or.inl rfl)) (pgs_cons (pg_name (i := 7) sc_Lstops_of.nd rfl (Or.inl rfl)) (pgs_cons (pg_name (i := 9) sc_Lstops_of.nd rfl (Or.inl rfl)) (pgs_cons (pg_name (i := 10) sc_Lstops_of.nd rfl (Or.inl rfl)) pgs_nil))))))
    (pss_cons (ps_if (PW.pt (pw_and (pt_val (pv 10)) (pw_and1 (pt_cmpR op_gt (pv 9) (pe_ix (ix_tupK (K := K) rfl) (pv 7) pe_int (fun _ _ => rfl)) (nomark _))))) (pss_one (ps_ret (pe_lst pa_nil))) pss_nil)
    (pss_cons (ps_par (i := 11) (j := 12) rfl sc_Lstops_of.nd rfl rfl (by decide) rfl rfl (pa_cons (pe_lst pa_nil) (pa_cons (pe_lst pa_nil) pa_nil)) rfl)
    (pss_cons (ps_if (PW.pt (pw_or (pt_cmpR op_isN (pe_ix (ix_tupK (K := K) rfl) (pv 7) pe_int (fun _ _ => rfl)) pe_non (nomark _)) (pw_or1 (pt_cmpR op_lt (pv 9) (pe_ix (ix_tupK (K := K) rfl) (pv 7) pe_int (fun _ _ => rfl)) (nomark _))))) (pss_one (ps_set (i := 11) sc_Lstops_of.nd rfl (Or.inl rfl) (C8.pe_c c_Lstops_of hr (by omega) rfl (pa_cons (pe_op (op_catK (K := K) rfl) (pe_tup (pa_cons (pe_ix (ix_tupK (K := K) rfl) (pv 7) pe_int (fun _ _ => rfl)) (pa_cons (pe_tup (pa_cons pe_str (pa_cons (pv 7) (pa_cons (pe_op op_add (pv 9) pe_int) (pa_cons pe_bl pa_nil))))) pa_nil))) (pv 4)) (pa_cons (pv 1) (pa_cons (pv 2) pa_nil)))))) pss_nil)
    (pss_cons (ps_if (pt_cmpR op_ge (pv 9) (pe_ix (ix_tupK (K := K) rfl) (pv 7) pe_int (fun _ _ => rfl)) (nomark _)) (pss_one (ps_set (i := 12) sc_Lstops_of.nd rfl (Or.inl rfl) (C8.pe_c c_Lstops_of hr (by omega) rfl (pa_cons (pv 4) (pa_cons (pv 1) (pa_cons (pv 2) pa_nil)))))) pss_nil)
    (pss_one (ps_ret (pe_ifExp (pt_cmpR op_eq (pe_ix (ix_tupK (K := K) rfl) (pv 7) pe_int (fun _ _ => rfl)) pe_str (nomark _)) (pe_op op_cat (pv 11) (pv 12)) (pe_op op_cat (pv 12) (pv 11))))))))))))))))))), ?_⟩
  have hsh := (okR_shp hok).shaped
  unfold encR at h0 hsh
  unfold stopsF at hL
  by_cases hlen : 500 < R.length
  · rw [if_pos hlen] at hL; cases hL
  rw [if_neg hlen] at hL
  have hRl : R.length ≤ 500 := by omega
  cases R with
  | nil =>
    cases hL
    refine sq_yes (eb_orT (eb_test (et_eqNil (by walk_at "et") hsh)) (by rfl)) rfl fun H1 s1 => ?_
    refine st_retL (EN.el (en_lst (ea_cons (et_tup (ea_cons (et_cat (et_sl (by walk_at "et") eo_none (eo_some et_int)) (et_tupL (ds := ([] : List Frame).map fun fr => encF (aged fr)) ?c1) ?c2) (ea_cons (by walk_at "et") ea_nil)) (by walk_at "sz")) ea_nil) (by walk_at "sz"))) fun v H' s l => qq v H' (by walk_at "sm") ?c3
    case c1 =>
      refine EN.el (en_lcT1 ([] : List Frame) encF (fun fr => encF (aged fr)) (ET.to (et_sl (by walk_at "et") (eo_some et_int) eo_none) (by rfl)) (by simp) fun fr hfr v H6 s6 r6 => ?_)
      exact et_call (by walk_at "ea") rfl ⟨fr, rfl, rfl⟩
    case c2 => exact (by decide)
    case c3 => exact l
  | cons fr S =>
    simp only [List.map_cons] at h0 hsh
    by_cases ho : ∃ z, fr = .pat (.one z)
    · obtain ⟨z, rfl⟩ := ho
      cases hL
      have h0' := h0
      simp only [encF, enc] at h0'
      refine sq_yes (eb_orF (eb_test (et_eqNil (by walk_at "et") hsh)) (by rfl) (eb_test (et_eqS (x := "one") (y := "one") (et_ix (et_ix (et_var rfl h0') et_int atI_0) et_int atI_0) et_str))) (by rfl) fun H1 s1 => ?_
      clear h0'
      refine st_retL (EN.el (en_lst (ea_cons (et_tup (ea_cons (et_cat (et_sl (by walk_at "et") eo_none (eo_some et_int)) (et_tupL (ds := S.map fun fr => encF (aged fr)) ?c1) ?c2) (ea_cons (by walk_at "et") ea_nil)) (by walk_at "sz")) ea_nil) (by walk_at "sz"))) fun v H' s l => qq v H' (by walk_at "sm") ?c3
      case c1 =>
        refine EN.el (en_lcT1 S encF (fun fr => encF (aged fr)) (ET.to (et_sl (by walk_at "et") (eo_some et_int) eo_none) (by rw [cut1])) (by simp at hRl; omega) fun fr hfr v H6 s6 r6 => ?_)
        exact et_call (by walk_at "ea") rfl ⟨fr, rfl, rfl⟩
      case c2 =>
        rw [show (1 : Int) = ((1 : Nat) : Int) from rfl, cutD_to]
        simp at hRl ⊢; omega
      case c3 =>
        rw [show (1 : Int) = ((1 : Nat) : Int) from rfl, cutD_to] at l
        simpa [encS, encR, encM, encF, enc, Function.comp_def] using l
    have hno : ∃ wd tl, encF fr = .tuple (.str wd :: tl) ∧ wd ≠ "one" := by
      cases fr with
      | close g => exact ⟨"close", _, rfl, by decide⟩
      | turn q lo hi m d new => exact ⟨"turn", _, rfl, by decide⟩
      | pat p' =>
        rcases p' with _ | _ | z | _ | _ | _ | ⟨q, _ | g⟩
        · exact ⟨"none", _, by rw [encF, enc], by decide⟩
        · exact ⟨"empty", _, by rw [encF, enc], by decide⟩
        · exact absurd ⟨z, rfl⟩ ho
        · exact ⟨"row", _, by rw [encF, enc], by decide⟩
        · exact ⟨"any", _, by rw [encF, enc], by decide⟩
        · exact ⟨"again", _, by rw [encF, enc], by decide⟩
        · exact ⟨"group", _, by rw [encF, enc], by decide⟩
        · exact ⟨"group", _, by rw [encF, enc], by decide⟩
    have t1 : ∃ b, EB (tOr (tTest (tOp (rEqD K) (tVar 0) (tTup tNil))) (tTest (tOp rEq (tOp (rIxT K) (tOp (rIxT K) (tVar 0) (tC (.int 0))) (tC (.int 0))) (tC (.str "one"))))) [some x0, some x1, some x2, none, none, none, none, none, none, none, none, none, none] H b ∧ b = false := by
      obtain ⟨wd, tl, ee, hne⟩ := hno
      rw [ee] at h0 hsh
      exact ⟨_, eb_orF (eb_test (et_eqNil (by walk_at "et") hsh)) (by rfl) (eb_test (et_eqS (x := wd) (y := "one") (et_ix (et_ix (et_var rfl h0) et_int atI_0) et_int atI_0) et_str)), decide_eq_false hne⟩
    obtain ⟨b, t1, hb⟩ := t1
    refine sq_no t1 hb fun H1 s1 => ?_
    refine sq_par (EA.to (es := [encF fr, .tuple (S.map encF)]) (by walk_at "ea") (by rw [cut1])) fun v3 v4 H2 s2 r3 r4 => ?_
    have hS : S.length ≤ 499 := by simp at hlen; omega
    unfold encM at h1
    have hmk : ∀ {g : Nat} {x : PyData × PyData}, M[g]? = some x → atI (M.map fun x => PyData.tuple [x.1, x.2]) (g : Int) = some (.tuple [x.1, x.2]) := fun {g x} e => atI_nat (by rw [List.getElem?_map, e]; rfl)
    cases fr with
    | close g =>
      obtain ⟨x, hx, hL⟩ := Option.bind_eq_some_iff.mp hL
      have hg : g < M.length := (List.getElem?_eq_some_iff.mp hx).1
      have hmx := hmk hx
      simp only [encF] at r3
      refine sq_set (by walk_at "et") fun v5 H3 s3 r5 => ?_
      iterate 4 (refine sq_no (by walk_at "eb") (by decide) fun _ _ => ?_)
      refine sq_yes (by walk_at "eb") (by decide) fun H4 s4 => ?_
      refine sq_set (by walk_at "et") fun v9 H5 s5 r9 => ?_
      refine st_retL (el_call (ea_cons (by walk_at "et") (ea_cons (et_call (by walk_at "ea") rfl ⟨M.map fun x => .tuple [x.1, x.2], g, .tuple [x.1, .tuple [x.1, .int (p : Nat)]], rfl, by rw [List.length_map]; exact hg, by rw [List.length_map]; exact hM, rfl⟩) (ea_cons (by walk_at "et") ea_nil))) rfl
        ⟨S, M.set g (x.1, .tuple [x.1, .int (p : Nat)]), p, L, by simp [encR, encM, List.map_set], hok.tail, by rw [List.length_set]; exact hM, hL, hz, rfl⟩) fun v H' s l => qq v H' (by walk_at "sm") l
    | turn q lo hi m d new =>
      simp only [encF, enc] at r3
      refine sq_set (by walk_at "et") fun v5 H3 s3 r5 => ?_
      iterate 6 (refine sq_no (by walk_at "eb") (by decide) fun _ _ => ?_)
      refine sq_unp4 (by walk_at "et") fun u1 u2 u3 u4 H4 s4 q1 q2 q3 q4 => ?_
      have h9 : okP 19 q = true := hok _ List.mem_cons_self
      replace hL : turnF n q lo hi m d new S M p = some L := hL
      refine sq_if (by walk_at "eb") (fun e H5 s5 => ?_) (fun e H5 s5 => ?_)
      · have e' : (new && decide (lo < d)) = true := by simpa using e
        unfold turnF at hL
        rw [if_pos e'] at hL
        cases hL
        refine st_retL (by walk_at "el") fun v H' s l => qq v H' (by walk_at "sm") ?_
        exact l
      · have e' : ¬ (new && decide (lo < d)) = true := by simpa using e
        unfold turnF at hL
        rw [if_neg e'] at hL
        obtain ⟨a, ha, hL⟩ := Option.bind_eq_some_iff.mp hL
        obtain ⟨b, hb, hL⟩ := Option.bind_eq_some_iff.mp hL
        cases hL
        have za : a.length ≤ 10000000 ∧ b.length ≤ 10000000 ∧ a.length + b.length ≤ 10000000 := by
          cases m <;> simp at hz <;> omega
        refine sq_parN fun p1 p2 H6 s6 l1 l2 => ?_
        refine sq_ifsetL (b := goOn hi d) ?c1 (a.map encS) (.ref p1) (fun e2 => ?_) rfl (fun e2 => ?_) fun v8 H7 s7 l8 => ?_
        · cases hi with
          | none =>
            simp only [encHi] at q2
            exact eb_orT (by walk_at "eb") (by decide)
          | some h =>
            simp only [encHi] at q2
            refine EB.to (eb_orF (by walk_at "eb") (by rfl) (by walk_at "eb")) ?_
            simp [goOn]
        · rw [if_pos e2] at ha
          refine el_call (ea_cons (et_cat (et_tup (by walk_at "ea") (by walk_at "sz")) (by walk_at "et") (by walk_at "sz")) (by walk_at "ea")) rfl ⟨.pat q :: .turn q lo hi m (d + 1) true :: S, M, p, a, ?_, ?_, hM, ha, za.1, rfl⟩
          · simp [encR, encM, encF, enc]
          · exact .cons (okP_mono 19 q h9) (.cons h9 hok.tail)
        · rw [if_neg (by rw [e2]; exact Bool.false_ne_true)] at ha
          cases ha
          exact l1
        refine sq_ifsetL (by walk_at "eb") (b.map encS) (.ref p2) (fun e2 => ?_) rfl (fun e2 => ?_) fun v9 H8 s8 l9 => ?_
        · rw [if_pos (by simpa using e2)] at hb
          refine el_call (by walk_at "ea") rfl ⟨S, M, p, b, rfl, hok.tail, hM, hb, za.2.1, rfl⟩
        · rw [if_neg (by simpa using e2)] at hb
          cases hb
          exact l2.mono s7
        cases m with
        | true =>
          simp only [encWay, if_true] at q2
          refine st_retL (el_ifT (by walk_at "eb") (by rfl) (el_cat (by walk_at "el") (by walk_at "el") (by walk_at "sz"))) fun v H' s l => qq v H' (by walk_at "sm") ?_
          simpa using l
        | false =>
          simp only [encWay, if_false] at q2
          refine st_retL (el_ifF (by walk_at "eb") (by rfl) (el_cat (by walk_at "el") (by walk_at "el") (by walk_at "sz"))) fun v H' s l => qq v H' (by walk_at "sm") ?_
          simpa using l
    | pat p' =>
      cases p' with
      | one z => exact absurd ⟨z, rfl⟩ ho
      | none =>
        cases hL
        simp only [encF, enc] at r3
        refine sq_set (by walk_at "et") fun v5 H3 s3 r5 => ?_
        refine sq_yes (by walk_at "eb") (by decide) fun H4 s4 => ?_
        refine st_retL (el_ifT (by walk_at "eb") (by rfl) (by walk_at "el")) fun v H' s l => qq v H' (by walk_at "sm") ?_
        exact l
      | empty =>
        simp only [encF, enc] at r3
        refine sq_set (by walk_at "et") fun v5 H3 s3 r5 => ?_
        refine sq_yes (by walk_at "eb") (by decide) fun H4 s4 => ?_
        refine st_retL (el_ifF (by walk_at "eb") (by rfl) (el_call (by walk_at "ea") rfl ⟨S, M, p, L, rfl, hok.tail, hM, hL, hz, rfl⟩)) fun v H' s l => qq v H' (by walk_at "sm") l
      | row ps =>
        simp only [encF, enc] at r3
        refine sq_set (by walk_at "et") fun v5 H3 s3 r5 => ?_
        iterate 1 (refine sq_no (by walk_at "eb") (by decide) fun _ _ => ?_)
        refine sq_yes (by walk_at "eb") (by decide) fun H4 s4 => ?_
        have hps : ps.length ≤ 500 := by
          have c := stopsF_len hL
          simp at c; omega
        refine st_retL (el_call (ea_cons (et_cat (ET.to (d := .tuple (cutD (.str "row" :: encs ps) (some 1) none)) (by walk_at "et") (by rw [cut1])) (by walk_at "et") ?c2) (by walk_at "ea")) rfl
          ⟨ps.map .pat ++ S, M, p, L, by simp [encR, encM, encF, enc, encs_map, Function.comp_def], (okF_row (hok _ List.mem_cons_self)).app hok.tail, hM, hL, hz, rfl⟩) fun v H' s l => qq v H' (by walk_at "sm") l
        case c2 => simp [encs_map]; omega
      | any ps =>
        simp only [encF, enc] at r3
        refine sq_set (by walk_at "et") fun v5 H3 s3 r5 => ?_
        iterate 2 (refine sq_no (by walk_at "eb") (by decide) fun _ _ => ?_)
        refine sq_yes (by walk_at "eb") (by decide) fun H4 s4 => ?_
        have h1' : Tp H4 x1 (encM M) := by unfold encM; walk_at "tp"
        have h2' : Tp H4 x2 (.int (p : Nat)) := by walk_at "tp"
        have r4' : Tp H4 v4 (.tuple (S.map encF)) := by walk_at "tp"
        have sm : Same H H4 ∧ True := ⟨by walk_at "sm", trivial⟩
        replace hL : catO (fun q => stopsF n (.pat q :: S) M p) ps = some L := hL
        clear h0 h1 h2
        refine sq_setL (EN.el (en_lst ea_nil (Nat.zero_le _))) fun v6 H5 s5 l6 => ?_
        refine sq_forT (ds := encs ps) (ET.to (by walk_at "et") (by rw [cut1])) fun H6 s6 => ⟨fun i σ' H' => Same H4 H' ∧ TLe H6 H' ∧ ∃ (acc : List Stop) (v6 : V) (v7 : Option V), catO (fun q => stopsF n (.pat q :: S) M p) (ps.take i) = some acc ∧ Lp H' v6 (acc.map encS) ∧
          σ' = [some x0, some x1, some x2, some v3, some v4, some v5, some v6, v7, none, none, none, none, none], ⟨s5.trans s6, TLe.refl _, [], v6, none, rfl, l6.mono s6, rfl⟩, fun i σ' H' h => h.2.1, fun i d v σ' H' hd ⟨i1, i2, acc, v6, v7, ha, l6, e7⟩ rv => ?_, fun σ' H' ⟨i1, i2, acc, v6, v7, ha, l6, e7⟩ => ?_⟩
        · subst e7
          obtain ⟨q, hq, rfl⟩ := encs_get hd
          obtain ⟨a, b, c, ha', hb, hab, rfl⟩ := catO_at hL hq
          rw [ha] at ha'
          cases ha'
          have hz' : acc.length + b.length ≤ 10000000 := by simp at hz; omega
          have g1 := h1'.mono (tle i1)
          have g2 := h2'.mono (tle i1)
          have g4 := r4'.mono (tle i1)
          refine st_setL (i := 6) (σ := [some x0, some x1, some x2, some v3, some v4, some v5, some v6, some v, none, none, none, none, none]) (el_cat (by walk_at "el") (el_call (es := b.map encS) (ea_cons (et_cat (et_tup (by walk_at "ea") (by walk_at "sz")) (by walk_at "et") (by walk_at "sz")) (by walk_at "ea")) rfl ⟨.pat q :: S, M, p, b, by simp [encR, encF], .cons (okF_any (hok _ List.mem_cons_self) q (List.mem_of_getElem? hq)) hok.tail, hM, hb, by omega, rfl⟩) (by walk_at "sz")) fun v' H7 s7 l7 => ?_
          exact ⟨i1.trans s7, i2.trans (tle s7), acc ++ b, v', some v, hab, by rw [List.map_append]; exact l7, rfl⟩
        · subst e7
          have e : (encs ps).length = ps.length := by rw [encs_map, List.length_map]
          rw [e, List.take_length, hL] at ha
          cases ha
          exact ⟨_, rfl, qq _ _ (sm.1.trans i1) l6⟩
      | again q lo hi m =>
        simp only [encF] at r3
        have r3' := r3
        simp only [enc] at r3'
        refine sq_set (ET.to (d := .str "again") (et_ix (et_var rfl r3') et_int atI_0) rfl) fun v5 H3 s3 r5 => ?_
        clear r3'
        iterate 5 (refine sq_no (by walk_at "eb") (by decide) fun _ _ => ?_)
        refine sq_yes (by walk_at "eb") (by decide) fun H4 s4 => ?_
        refine st_retL (el_call (ea_cons (et_cat (et_tup (by walk_at "ea") (by walk_at "sz")) (by walk_at "et") (by walk_at "sz")) (by walk_at "ea")) rfl ⟨.turn q lo hi m 0 false :: S, M, p, L, by simp [encR, encM, encF], .cons (show okP 19 q = true from hok (.pat (.again q lo hi m)) List.mem_cons_self) hok.tail, hM, hL, hz, rfl⟩) fun v H' s l => qq v H' (by walk_at "sm") l
      | group q g =>
        cases g with
        | none => cases hL
        | some g =>
          obtain ⟨x, hx, hL⟩ := Option.bind_eq_some_iff.mp hL
          have hg : g < M.length := (List.getElem?_eq_some_iff.mp hx).1
          have hmx := hmk hx
          simp only [encF, enc] at r3
          refine sq_set (by walk_at "et") fun v5 H3 s3 r5 => ?_
          iterate 3 (refine sq_no (by walk_at "eb") (by decide) fun _ _ => ?_)
          refine sq_yes (by walk_at "eb") (by decide) fun H4 s4 => ?_
          refine sq_set (et_call (by walk_at "ea") rfl ⟨M.map fun x => .tuple [x.1, x.2], g, .tuple [.int (p : Nat), x.2], rfl, by rw [List.length_map]; exact hg, by rw [List.length_map]; exact hM, rfl⟩) fun v8 H5 s5 r8 => ?_
          refine st_retL (el_call (ea_cons (et_cat (et_tup (by walk_at "ea") (by walk_at "sz")) (by walk_at "et") (by walk_at "sz")) (by walk_at "ea")) rfl ⟨.pat q :: .close g :: S, M.set g (.int (p : Nat), x.2), p, L, by simp [encR, encM, encF, List.map_set], .cons (okP_mono 19 q (hok _ List.mem_cons_self)) (.cons rfl hok.tail), by rw [List.length_set]; exact hM, hL, hz, rfl⟩) fun v H' s l => qq v H' (by walk_at "sm") l
theorem c_Lstops_of_all (T : Tx mg) (D : Df K mg "_law_stops_of" s_Lstops_of ["_law_rest", "_law_marks", "_law_place"]) (c_Lwith : C8.Cal P w K mg base 1 "_law_with" (spT 3 F_marked) []) (c_Lsettled : C8.Cal P w K mg base 1 "_law_settled" (spT 1 F_aged) []) :
    ∀ n, C8.Cal P w K mg base (n + 1) "_law_stops_of" (spL 3 (F_stops n)) []
  | 0 => cal_none D fun vs H Q E h => by
    obtain ⟨ds, es, _, _, ⟨R, M, p, L, _, _, _, hL, _⟩, _⟩ := h
    cases hL
  | n + 1 => c_Lstops_of_step T D (c_Lstops_of_all T D c_Lwith c_Lsettled n) c_Lwith c_Lsettled
end
end

section

abbrev s_Linner : Stmt := topS 56
theorem sc_Linner : FnScope ["_law_pattern_here"] ["_law_pattern_here"] (C8.fnScope s_Linner) := C8.fnScope_by (by decide +kernel)
abbrev s_Lparts : Stmt := topS 57
theorem sc_Lparts : FnScope ["_law_pattern_here", "_law_part"] ["_law_pattern_here"] (C8.fnScope s_Lparts) := C8.fnScope_by (by decide +kernel)
abbrev s_Lweight : Stmt := topS 58
theorem sc_Lweight : FnScope ["_law_pattern_here", "_law_found", "_law_part"] ["_law_pattern_here"] (C8.fnScope s_Lweight) := C8.fnScope_by (by decide +kernel)
abbrev s_Lnumbered : Stmt := topS 61
theorem sc_Lnumbered : FnScope ["_law_pattern_here", "_law_box", "_law_number_here", "_law_part"] ["_law_pattern_here", "_law_box"] (C8.fnScope s_Lnumbered) := C8.fnScope_by (by decide +kernel)
abbrev s_Lgroups : Stmt := topS 62
theorem sc_Lgroups : FnScope ["_law_pattern_here", "_law_box"] ["_law_pattern_here"] (C8.fnScope s_Lgroups) := C8.fnScope_by (by decide +kernel)
def sp_lnum (k : Nat) : Sp := fun vs H Q _ => ∃ (b : Addr) (v : V) (c : Nat) (p : Pat), vs = [v, .ref b] ∧ H b = some (.lst [.int (c : Nat)]) ∧ Tp H v (enc p) ∧ okP k p = true ∧
  ∀ v' H', SmB b H H' → H' b = some (.lst [.int ((num p c).2 : Nat)]) → Tp H' v' (enc (num p c).1) → Q v' H'
section
variable {P : Program} {w : World} {K : PySem.W.Frag} {mg : Str → Option Value} {base : Heap}
theorem c_Linner (T : Tx mg) (D : Df K mg "_law_inner" s_Linner ["_law_pattern_here"]) : C8.Cal P w K mg base 1 "_law_inner" (spL 1 F_inner_of) [] := by
  refine df_mk D sc_Linner spL.len fun f cdv A outer s H vs Q E hr h => ?_
  obtain ⟨ds, es, hn, hv, ⟨p, rfl, hl, rfl⟩, qq⟩ := h
  obtain _ | @⟨x0, _, _, _, r0, _ | _⟩ := hv
  refine ⟨_, (pss_cons (ps_if (pt_cmpR (op_in_seqK (K := K) rfl) (pe_ix (ix_tupK (K := K) rfl) (pv 0) pe_int (fun _ _ => rfl)) (pe_tup (pa_cons pe_str (pa_cons pe_str pa_nil))) rfl) (pss_one (ps_ret (pe_callTy (call_list_ofK (K := K) rfl) rfl T.m_list (by decide +kernel) (pa_cons (pe_slice (sl_tupK (K := K) rfl) (pv 0) (po_some pe_int) po_none) pa_nil)))) pss_nil)
    (pss_one (ps_ret (pe_ifExp (pt_cmpR (op_in_seqK (K := K) rfl) (pe_ix (ix_tupK (K := K) rfl) (pv 0) pe_int (fun _ _ => rfl)) (pe_tup (pa_cons pe_str (pa_cons pe_str pa_nil))) rfl) (pe_lst (pa_cons (pe_ix (ix_tupK (K := K) rfl) (pv 0) pe_int (fun _ _ => rfl)) pa_nil)) (pe_lst pa_nil))))), ?_⟩
  cases p with
  | row ps =>
    rw [enc] at r0
    rw [encs_map] at r0
    refine sq_yes (by walk_at "eb") (by rfl) fun H2 s2 => ?_
    exact st_retL (EN.el (en_listT (ET.to (et_sl (by walk_at "et") (eo_some et_int) eo_none) (by rw [show (1 : Int) = ((1 : Nat) : Int) from rfl, cutD_from]; try rfl)))) fun v H' s l => qq v H' (by walk_at "sm") (by exact l)
  | any ps =>
    rw [enc] at r0
    rw [encs_map] at r0
    refine sq_yes (by walk_at "eb") (by rfl) fun H2 s2 => ?_
    exact st_retL (EN.el (en_listT (ET.to (et_sl (by walk_at "et") (eo_some et_int) eo_none) (by rw [show (1 : Int) = ((1 : Nat) : Int) from rfl, cutD_from]; try rfl)))) fun v H' s l => qq v H' (by walk_at "sm") (by exact l)
  | again p lo hi m =>
    rw [enc] at r0
    refine sq_no (by walk_at "eb") (by rfl) fun H2 s2 => ?_
    exact st_retL (el_ifT (by walk_at "eb") (by rfl) (by walk_at "el")) fun v H' s l => qq v H' (by walk_at "sm") (by exact l)
  | group p g =>
    cases g with
    | none =>
      rw [enc] at r0
      refine sq_no (by walk_at "eb") (by rfl) fun H2 s2 => ?_
      exact st_retL (el_ifT (by walk_at "eb") (by rfl) (by walk_at "el")) fun v H' s l => qq v H' (by walk_at "sm") (by exact l)
    | some g =>
      rw [enc] at r0
      refine sq_no (by walk_at "eb") (by rfl) fun H2 s2 => ?_
      exact st_retL (el_ifT (by walk_at "eb") (by rfl) (by walk_at "el")) fun v H' s l => qq v H' (by walk_at "sm") (by exact l)
  | none =>
    rw [enc] at r0
    refine sq_no (by walk_at "eb") (by rfl) fun H2 s2 => ?_
    exact st_retL (el_ifF (by walk_at "eb") (by rfl) (by walk_at "el")) fun v H' s l => qq v H' (by walk_at "sm") (by exact l)
  | empty =>
    rw [enc] at r0
    refine sq_no (by walk_at "eb") (by rfl) fun H2 s2 => ?_
    exact st_retL (el_ifF (by walk_at "eb") (by rfl) (by walk_at "el")) fun v H' s l => qq v H' (by walk_at "sm") (by exact l)
  | one z =>
    rw [enc] at r0
    refine sq_no (by walk_at "eb") (by rfl) fun H2 s2 => ?_
    exact st_retL (el_ifF (by walk_at "eb") (by rfl) (by walk_at "el")) fun v H' s l => qq v H' (by walk_at "sm") (by exact l)
theorem c_Lparts_all (T : Tx mg) (D : Df K mg "_law_parts" s_Lparts ["_law_pattern_here"]) (c_Linner : C8.Cal P w K mg base 1 "_law_inner" (spL 1 F_inner_of) []) :
    ∀ k, C8.Cal P w K mg base (k + 1) "_law_parts" (spT 1 (F_parts_of k)) []
  | 0 => cal_none D fun vs H Q E h => by
    obtain ⟨ds, d, _, _, ⟨p, n, _, hg, _⟩, _⟩ := h
    exact goodP_zero hg
  | k + 1 => by
    have c_Lparts := c_Lparts_all T D c_Linner k
    refine df_mk D sc_Lparts spT.len fun f cdv A outer s H vs Q E hr h => ?_
    obtain ⟨ds, d, hn, hv, ⟨p, n, rfl, hg, rfl⟩, qq⟩ := h
    obtain _ | @⟨x0, _, _, _, r0, _ | _⟩ := hv
    refine ⟨_, (pss_one (ps_ret (pe_op op_add pe_int (pe_callB (cr_sumK (K := K) rfl rfl) rfl T.m_sum (by decide +kernel) (pa_cons (pe_lc (own := [("_law_part", 1)]) rfl sc_Lparts.nd (pi_listK (K := K) rfl (C8.pe_c c_Linner hr (by omega) rfl (pa_cons (pv 0) pa_nil))) (blkOk_by (N := ["_law_pattern_here", "_law_part"]) (sc := C8.fnScope s_Lparts) (by decide +kernel)) (fun _ _ _ _ _ => pg_name (i := 1) sc_Lparts.nd rfl (Or.inl rfl)) (fun _ _ _ _ _ => pts_nil) (fun _ _ _ _ _ => (C8.pe_c c_Lparts hr (by omega) rfl (pa_cons (pv 1) pa_nil)))) pa_nil))))), ?_⟩
    have hl := inner_len hg
    refine st_ret (et_add et_int (et_sumL (inner p) enc (fun q => ((partsF q : Nat) : Int)) (el_call (F := F_inner_of) (by walk_at "ea") rfl ⟨p, rfl, hl, rfl⟩) (by omega) fun q hq => lcT1 fun v H1 s1 r => et_call (F := F_parts_of k) (by walk_at "ea") rfl ⟨q, n, rfl, goodP_inner hg q hq, rfl⟩)) fun v H' s r => qq v H' (by walk_at "sm") ?_
    rw [← partsL_sum] at r
    rw [parts_inner, Int.natCast_add]
    exact r
theorem c_Lweight_all (T : Tx mg) (D : Df K mg "_law_weight" s_Lweight ["_law_pattern_here"]) (c_Linner : C8.Cal P w K mg base 1 "_law_inner" (spL 1 F_inner_of) []) :
    ∀ k, C8.Cal P w K mg base (k + 1) "_law_weight" (spT 1 (F_weight_of k)) []
  | 0 => cal_none D fun vs H Q E h => by
    obtain ⟨ds, d, _, _, ⟨p, n, _, hg, _⟩, _⟩ := h
    exact goodP_zero hg
  | k + 1 => by
    have c_Lweight := c_Lweight_all T D c_Linner k
    refine df_mk D sc_Lweight spT.len fun f cdv A outer s H vs Q E hr h => ?_
    obtain ⟨ds, d, hn, hv, ⟨p, n, rfl, hg, hk, rfl⟩, qq⟩ := h
    obtain _ | @⟨x0, _, _, _, r0, _ | _⟩ := hv
    refine ⟨_, (pss_cons (ps_if (pt_cmpR (op_in_seqK (K := K) rfl) (pe_ix (ix_tupK (K := K) rfl) (pv 0) pe_int (fun _ _ => rfl)) (pe_tup (pa_cons pe_str (pa_cons pe_str pa_nil))) rfl) (pss_one (ps_ret pe_int)) pss_nil)
    (pss_cons (ps_set (i := 1) sc_Lweight.nd rfl (Or.inl rfl) (pe_callB (cr_sumK (K := K) rfl rfl) rfl T.m_sum (by decide +kernel) (pa_cons (pe_lc (own := [("_law_part", 2)]) rfl sc_Lweight.nd (pi_listK (K := K) rfl (C8.pe_c c_Linner hr (by omega) rfl (pa_cons (pv 0) pa_nil))) (blkOk_by (N := ["_law_pattern_here", "_law_found", "_law_part"]) (sc := C8.fnScope s_Lweight) (by decide +kernel)) (fun _ _ _ _ _ => pg_name (i := 2) sc_Lweight.nd rfl (Or.inl rfl)) (fun _ _ _ _ _ => pts_nil) (fun _ _ _ _ _ => (C8.pe_c c_Lweight hr (by omega) rfl (pa_cons (pv 2) pa_nil)))) pa_nil)))
    (pss_cons (ps_if (pt_cmpR op_eq (pe_ix (ix_tupK (K := K) rfl) (pv 0) pe_int (fun _ _ => rfl)) pe_str (nomark _)) (pss_one (ps_ret (pe_op op_mulW (pv 1) (pe_ifExp (pt_cmpR op_isN (pe_ix (ix_tupK (K := K) rfl) (pv 0) pe_int (fun _ _ => rfl)) pe_non (nomark _)) (pe_op op_add (pe_ix (ix_tupK (K := K) rfl) (pv 0) pe_int (fun _ _ => rfl)) pe_int) (pe_ix (ix_tupK (K := K) rfl) (pv 0) pe_int (fun _ _ => rfl)))))) pss_nil)
    (pss_one (ps_ret (pv 1)))))), ?_⟩
    have hl := inner_len hg
    have sum : ∀ H1, Same H H1 → ET (tCB (rSum K) (tCons (tLc (iList K (tCall (spL 1 F_inner_of) [] C8.E0 (tCons (tVar 0) tNil))) (gName 2) tYes (tCall (spT 1 (F_weight_of k)) [] C8.E0 (tCons (tVar 2) tNil)) [2]) tNil)) [some x0, none, none] H1 (.int (weightL (inner p) : Nat)) := fun H1 s1 => by
      refine ET.to (et_sumL (inner p) enc (fun q => ((weightF q : Nat) : Int)) (el_call (F := F_inner_of) (by walk_at "ea") rfl ⟨p, rfl, hl, rfl⟩) (by omega) fun q hq => lcT1 fun v H1 s1 r => et_call (F := F_weight_of k) (by walk_at "ea") rfl ⟨q, n, rfl, goodP_inner hg q hq, by omega, rfl⟩) ?_
      rw [← weightL_sum]
    cases p with
    | empty =>
      rw [enc] at r0
      refine sq_yes (by walk_at "eb") (by rfl) fun H2 s2 => ?_
      exact st_ret et_int fun v H' s r => qq v H' (by walk_at "sm") r
    | one z =>
      rw [enc] at r0
      refine sq_yes (by walk_at "eb") (by rfl) fun H2 s2 => ?_
      exact st_ret et_int fun v H' s r => qq v H' (by walk_at "sm") r
    | none =>
      rw [enc] at r0
      refine sq_no (by walk_at "eb") (by rfl) fun H2 s2 => ?_
      refine sq_set (sum H2 s2) fun v3 H3 s3 r3 => ?_
      refine sq_no (by walk_at "eb") (by rfl) fun H4 s4 => ?_
      exact st_ret (by walk_at "et") fun v H' s r => qq v H' (by walk_at "sm") r
    | row ps =>
      rw [enc] at r0
      refine sq_no (by walk_at "eb") (by rfl) fun H2 s2 => ?_
      refine sq_set (sum H2 s2) fun v3 H3 s3 r3 => ?_
      refine sq_no (by walk_at "eb") (by rfl) fun H4 s4 => ?_
      exact st_ret (by walk_at "et") fun v H' s r => qq v H' (by walk_at "sm") r
    | any ps =>
      rw [enc] at r0
      refine sq_no (by walk_at "eb") (by rfl) fun H2 s2 => ?_
      refine sq_set (sum H2 s2) fun v3 H3 s3 r3 => ?_
      refine sq_no (by walk_at "eb") (by rfl) fun H4 s4 => ?_
      exact st_ret (by walk_at "et") fun v H' s r => qq v H' (by walk_at "sm") r
    | group p g =>
      have hg' := hg
      simp only [goodP, Bool.and_eq_true, decide_eq_true_eq] at hg'
      obtain ⟨_, rfl⟩ := hg'
      rw [enc] at r0
      refine sq_no (by walk_at "eb") (by rfl) fun H2 s2 => ?_
      refine sq_set (sum H2 s2) fun v3 H3 s3 r3 => ?_
      refine sq_no (by walk_at "eb") (by rfl) fun H4 s4 => ?_
      exact st_ret (by walk_at "et") fun v H' s r => qq v H' (by walk_at "sm") r
    | again p lo hi m =>
      have hw := weight_bound k p (goodP_inner hg p (by simp [inner]))
      have hg' := hg
      simp only [goodP, Bool.and_eq_true, decide_eq_true_eq] at hg'
      rw [enc] at r0
      have eW : weightL (inner (.again p lo hi m)) = weightF p := by rw [inner, weightL, weightL]; omega
      refine sq_no (by walk_at "eb") (by rfl) fun H2 s2 => ?_
      refine sq_set (sum H2 s2) fun v3 H3 s3 r3 => ?_
      rw [eW] at r3
      have b1 : ((weightF p : Nat) : Int).natAbs < 2 ^ (2 * k + 1) := by rw [Int.natAbs_natCast, Nat.pow_succ]; have := Nat.two_pow_pos (2 * k); omega
      refine sq_yes (by walk_at "eb") (by rfl) fun H4 s4 => ?_
      cases hi with
      | none =>
        unfold encHi at r0
        refine st_ret (et_mul (by walk_at "et") (et_ifT (by walk_at "eb") (by rfl) (by walk_at "et")) (wide_mul (b := 3) b1 (by omega) (by omega) (by omega) (by omega))) fun v H' s r => qq v H' (by walk_at "sm") ?_
        rw [weightF, timesHi, Int.natCast_mul, Int.natCast_add]
        exact r
      | some x =>
        unfold encHi at r0
        have hh := hg'.2
        simp only [goodHi, Bool.and_eq_true, decide_eq_true_eq] at hh
        refine st_ret (et_mul (by walk_at "et") (et_ifF (by walk_at "eb") (by rfl) (by walk_at "et")) (wide_mul (b := 3) b1 (by omega) (by omega) (by omega) (by omega))) fun v H' s r => qq v H' (by walk_at "sm") ?_
        rw [weightF, timesHi, Int.natCast_mul]
        exact r
theorem c_Lnumbered_step {k j : Nat} (T : Tx mg) (D : Df K mg "_law_numbered" s_Lnumbered ["_law_pattern_here", "_law_box"]) (c_Lnumbered : C8.Cal P w K mg base j "_law_numbered" (sp_lnum k) []) : C8.Cal P w K mg base (j + 1) "_law_numbered" (sp_lnum (k + 1)) [] := by
  refine df_mk D sc_Lnumbered (fun vs H Q E h => by obtain ⟨b, v, c, p, rfl, _⟩ := h; rfl) fun f cdv A outer s H vs Q E hr h => ?_
  obtain ⟨b, v, c, p, rfl, hb, hv, hok, qq⟩ := h
  refine ⟨_, (pss_cons (ps_if (pt_cmpR op_eq (pe_ix (ix_tupK (K := K) rfl) (pv 0) pe_int (fun _ _ => rfl)) pe_str (nomark _)) (pss_cons (ps_asg (pe_op op_add (pe_ix (ix_listK (K := K) rfl) (pv 1) pe_int (fun _ _ => rfl)) pe_int) (pg_sub (pv 1) pe_int set_list))
    (pss_cons (ps_set (i := 2) sc_Lnumbered.nd rfl (Or.inl rfl) (pe_op op_sub (pe_ix (ix_listK (K := K) rfl) (pv 1) pe_int (fun _ _ => rfl)) pe_int))
    (pss_one (ps_ret (pe_tup (pa_cons pe_str (pa_cons (C8.pe_c c_Lnumbered hr (by omega) rfl (pa_cons (pe_ix (ix_tupK (K := K) rfl) (pv 0) pe_int (fun _ _ => rfl)) (pa_cons (pv 1) pa_nil))) (pa_cons (pv 2) pa_nil)))))))) pss_nil)
    (pss_cons (ps_if (pt_cmpR op_eq (pe_ix (ix_tupK (K := K) rfl) (pv 0) pe_int (fun _ _ => rfl)) pe_str (nomark _)) (pss_one (ps_ret (pe_op (op_catK (K := K) rfl) (pe_tup (pa_cons (pe_ix (ix_tupK (K := K) rfl) (pv 0) pe_int (fun _ _ => rfl)) (pa_cons (C8.pe_c c_Lnumbered hr (by omega) rfl (pa_cons (pe_ix (ix_tupK (K := K) rfl) (pv 0) pe_int (fun _ _ => rfl)) (pa_cons (pv 1) pa_nil))) pa_nil))) (pe_slice (sl_tupK (K := K) rfl) (pv 0) (po_some pe_int) po_none)))) pss_nil)
    (pss_cons (ps_if (pt_cmpR (op_in_seqK (K := K) rfl) (pe_ix (ix_tupK (K := K) rfl) (pv 0) pe_int (fun _ _ => rfl)) (pe_tup (pa_cons pe_str (pa_cons pe_str pa_nil))) rfl) (pss_one (ps_ret (pe_op (op_catK (K := K) rfl) (pe_tup (pa_cons (pe_ix (ix_tupK (K := K) rfl) (pv 0) pe_int (fun _ _ => rfl)) pa_nil)) (pe_callTy (call_tuple_ofK (K := K) rfl) rfl T.m_tuple (by decide +kernel) (pa_cons (pe_lc (own := [("_law_part", 3)]) rfl sc_Lnumbered.nd (pi_tupK (K := K) rfl (pe_slice (sl_tupK (K := K) rfl) (pv 0) (po_some pe_int) po_none)) (blkOk_by (N := ["_law_pattern_here", "_law_box", "_law_number_here", "_law_part"]) (sc := C8.fnScope s_Lnumbered) (by decide +kernel)) (fun _ _ _ _ _ => pg_name (i := 3) sc_Lnumbered.nd rfl (Or.inl rfl)) (fun _ _ _ _ _ => pts_nil) (fun _ _ _ _ _ => (C8.pe_c c_Lnumbered hr (by omega) rfl (pa_cons (pv 3) (pa_cons (pv 1) pa_nil))))) pa_nil))))) pss_nil)
    (pss_one (ps_ret (pv 0)))))), ?_⟩
  cases p with
  | group p g =>
    have hv' : ∃ r, Tp H v (.tuple (.str "group" :: enc p :: r)) := by
      cases g
      · exact ⟨_, by simpa [enc] using hv⟩
      · exact ⟨_, by simpa [enc] using hv⟩
    clear hv
    obtain ⟨r, hv⟩ := hv'
    refine sq_yes (by walk_at "eb") (by decide) fun H1 s1 => ?_
    have hb1 := s1 _ _ hb
    refine (et_add (i := (c : Int)) (j := 1) (et_ixL (el_var rfl ⟨b, _, rfl, hb1, .cons (.int _) .nil⟩) et_int atI_0) et_int).use fun v1 H2 s2 r2 => ?_
    cases r2.int_inv
    refine ⟨_, rfl, b, [.int (c : Nat)], 0, 0, rfl, rfl, s2 _ _ hb1, rfl, ?_⟩
    have hb3 : upd H2 b (.lst (([.int (c : Nat)] : List V).set 0 (.int ((c : Int) + 1)))) b = some (.lst [.int ((c + 1 : Nat) : Int)]) := upd_same
    have sb1 : SmB b H (upd H2 b (.lst (([.int (c : Nat)] : List V).set 0 (.int ((c : Int) + 1))))) := (smb (s1.trans s2)).trans (smb_upd b H2 _)
    have hv1 := hv.mono (sb1.t fun xs q => by rw [hb] at q; cases q)
    revert hb3 sb1 hv1
    generalize upd H2 b (.lst (([.int (c : Nat)] : List V).set 0 (.int ((c : Int) + 1)))) = H3
    intro hb3 sb1 hv1
    clear hv
    refine sq_set (et_sub (i := ((c + 1 : Nat) : Int)) (j := 1) (et_ixL (el_var rfl ⟨b, _, rfl, hb3, .cons (.int _) .nil⟩) et_int atI_0) et_int) fun v2 H4 s4 r4 => ?_
    refine ET.use (et_ix (et_var rfl (hv1.mono (tle s4))) et_int atI_1) fun v5 H5 s5 r5 => ⟨_, rfl, ?_⟩
    refine ⟨b, v5, c + 1, p, rfl, s5 _ _ (s4 _ _ hb3), r5, hok, fun v' H6 s6 h6 r6 => ⟨_, rfl, (by show 3 ≤ sizeLine; decide), fun z hz => ?_⟩⟩
    have nt5 : ∀ ys, H5 b ≠ some (.tup ys) := fun ys e => by rw [s5 _ _ (s4 _ _ hb3)] at e; cases e
    have r4' := ((r4.mono (tle s5)).mono (s6.t nt5)).mono (tle (same_new hz (.tup [.str "group", v', v2])))
    have e2 : ((c + 1 : Nat) : Int) - 1 = (c : Nat) := by omega
    rw [e2] at r4'
    refine qq (.ref z) _ ((sb1.trans (smb (s4.trans s5))).trans (s6.trans (smb (same_new hz _)))) ?_ ?_
    · rw [upd_ne (ne_of_none h6 hz)]
      simp only [num]; exact h6
    · simp only [num, enc]
      exact .tup upd_same (.cons (.str _) (.cons (r6.mono (tle (same_new hz _))) (.cons r4' .nil)))
  | again p lo hi m =>
    simp only [enc] at hv
    refine sq_no (by walk_at "eb") (by decide) fun H1 s1 => ?_
    refine sq_yes (by walk_at "eb") (by decide) fun H2 s2 => ?_
    have hb1 := s2 _ _ (s1 _ _ hb)
    have hv1 := hv.mono (tle (s1.trans s2))
    refine ET.use (et_ix (et_var rfl hv1) et_int atI_0) fun v0 H3 s3 r3 => ?_
    refine ET.use (et_ix (et_var rfl (hv1.mono (tle s3))) et_int atI_1) fun v5 H5 s5 r5 => ⟨_, rfl, ?_⟩
    refine ⟨b, v5, c, p, rfl, s5 _ _ (s3 _ _ hb1), r5, hok, fun v' H6 s6 h6 r6 => ⟨(by show 2 ≤ sizeLine; decide), fun z hz => ?_⟩⟩
    have nt5 : ∀ ys, H5 b ≠ some (.tup ys) := fun ys e => by rw [s5 _ _ (s3 _ _ hb1)] at e; cases e
    have tz : TLe H6 (upd H6 z (.tup [v0, v'])) := tle (same_new hz _)
    have hv6 := (((hv1.mono (tle s3)).mono (tle s5)).mono (s6.t nt5)).mono tz
    have rt : TpA (upd H6 z (.tup [v0, v'])) [v0, v'] [.str "again", enc (num p c).1] := .cons (((r3.mono (tle s5)).mono (s6.t nt5)).mono tz) (.cons (r6.mono tz) .nil)
    have h6' : upd H6 z (.tup [v0, v']) b = some (.lst [.int ((num p c).2 : Nat)]) := by rw [upd_ne (ne_of_none h6 hz)]; exact h6
    have hz' : upd H6 z (.tup [v0, v']) z = some (.tup [v0, v']) := upd_same
    have s7 : Same H6 (upd H6 z (.tup [v0, v'])) := same_new hz _
    revert hv6 rt h6' hz' s7
    clear tz
    generalize upd H6 z (.tup [v0, v']) = H7
    intro hv6 rt h6' hz' s7
    refine ET.use (ET.to (e := .tuple [.int (lo : Nat), encHi hi, encWay m]) (et_sl (et_var rfl hv6) (eo_some et_int) eo_none) (by rw [cut2])) fun v8 H8 s8 r8 => ?_
    obtain ⟨pt, ys, rfl, hpt, ry⟩ := r8.tuple_inv
    have lny : ys.length = 3 := ry.length
    refine ⟨z, pt, [v0, v'], ys, rfl, rfl, SqT.of (s8 _ _ hz'), SqT.of hpt, (by rw [lny]; show 5 ≤ sizeLine; decide), (fun e => by cases e), (fun _ e => by rw [e] at lny; cases lny), fun _ _ y hy => ?_⟩
    refine qq (.ref y) _ ((smb ((s1.trans s2).trans (s3.trans s5))).trans (s6.trans (smb ((s7.trans s8).trans (same_new hy _))))) ?_ ?_
    · rw [upd_ne (ne_of_none (s8 _ _ h6') hy)]
      simp only [num]; exact s8 _ _ h6'
    · simp only [num, enc]
      exact .tup upd_same ((rt.mono ((tle s8).trans (tle (same_new hy _)))).append (ry.mono (tle (same_new hy _))))
  | row ps =>
    simp only [enc] at hv
    iterate 2 (refine sq_no (by walk_at "eb") (by decide) fun _ _ => ?_)
    refine sq_yes (by walk_at "eb") (by decide) fun H2 s2 => ?_
    have sm : Same H H2 ∧ True := ⟨by walk_at "sm", trivial⟩
    have hv1 := hv.mono (tle sm.1)
    have hb1 := sm.1 _ _ hb
    refine ET.use (et_ix (et_var rfl hv1) et_int atI_0) fun v0 H3 s3 r3 => ⟨(by show 1 ≤ sizeLine; decide), fun z hz => ?_⟩
    have s3z : Same H3 (upd H3 z (.tup [v0])) := same_new hz _
    have r3z : Tp (upd H3 z (.tup [v0])) v0 (.str "row") := r3.mono (tle s3z)
    have hzz : upd H3 z (.tup [v0]) z = some (.tup [v0]) := upd_same
    have hb3 := s3z _ _ (s3 _ _ hb1)
    have hv3 := (hv1.mono (tle s3)).mono (tle s3z)
    revert s3z r3z hzz hb3 hv3
    generalize upd H3 z (.tup [v0]) = H3'
    intro s3z r3z hzz hb3 hv3
    refine ET.use (ET.to (e := .tuple (encs ps)) (et_sl (et_var rfl hv3) (eo_some et_int) eo_none) (by rw [cut1])) fun v1 H4 s4 r4 => ?_
    obtain ⟨pt, xs, rfl, hpt, rxs⟩ := r4.tuple_inv
    refine ⟨pt, rfl, ⟨xs, SqT.of hpt⟩, fun D hD => ?_⟩
    have hb4 := s4 _ _ hb3
    have hz4 := s4 _ _ hzz
    have nta : ∀ ys, H4 b ≠ some (.tup ys) := fun ys e => by rw [hb4] at e; cases e
    have naD : b ≠ D := ne_of_none hb4 hD
    have elen : (encs ps).length = ps.length := by rw [encs_map, List.length_map]
    simp only [okP, Bool.and_eq_true, List.all_eq_true, decide_eq_true_eq] at hok
    have hlen := hok.1
    replace hok := hok.2
    refine lc_tup (K := K) (a := pt) (xs := xs) (fun i Hc => SmB b H4 Hc ∧ Hc b = some (.lst [.int ((nums (ps.take i) c).2 : Nat)]) ∧ ∃ acc, Hc D = some (.lst acc) ∧ TpA Hc acc (encs (nums (ps.take i) c).1))
      ⟨smb (same_new hD _), by rw [upd_ne naD, List.take_zero, nums]; exact hb4, [], upd_same, by rw [List.take_zero, nums, encs]; exact .nil⟩ (fun i Hc _ h => SqT.of (h.1.t nta _ _ hpt)) (fun i x Hc hx ⟨i1, i2, acc, hacc, ra⟩ => ?_) (fun Hc ⟨i1, i2, acc, hacc, ra⟩ => ?_)
    · obtain ⟨d, hd, rd⟩ := (rxs.mono (i1.t nta)).get hx
      obtain ⟨q, hq, rfl⟩ := encs_get hd
      refine ⟨rfl, _, rfl, _, rfl, b, x, _, q, rfl, i2, rd, hok q (List.mem_of_getElem? hq), fun v' H5 s5 h5 r5 => ?_⟩
      have hD5 : H5 D = some (.lst acc) := s5 D _ naD.symm hacc
      have nta5 : ∀ ys, Hc b ≠ some (.tup ys) := fun ys e => by rw [i2] at e; cases e
      have e1 : nums (ps.take (i + 1)) c = ((nums (ps.take i) c).1 ++ [(num q (nums (ps.take i) c).2).1], (num q (nums (ps.take i) c).2).2) := by
        rw [take_succ hq, nums_app, nums, nums]
      refine ⟨acc, hD5, sz_lt ?_, fun b' o n h => by rw [upd_ne (ne_of_none h hD)]; exact s5 b' o n (i1 b' o n h), ?_, acc ++ [v'], upd_same, ?_⟩
      · rw [ra.length, encs_map, List.length_map, nums_len, List.length_take]
        omega
      · rw [upd_ne naD, e1]; exact h5
      · rw [e1, encs_map, List.map_append, ← encs_map]
        exact ((ra.mono (s5.t nta5)).mono (tle_lst hD5)).append (.cons (r5.mono (tle_lst hD5)) .nil)
    · rw [rxs.length, elen, List.take_length] at i2 ra
      have ntc : ∀ ys, H4 b ≠ some (.tup ys) := nta
      have hzc : Hc z = some (.tup [v0]) := i1.t nta _ _ hz4
      have r0c := (r3z.mono (tle s4)).mono (i1.t nta)
      refine ⟨D, acc, rfl, .inl ⟨SqL.of hacc, fun l hl => ?_⟩⟩
      have tl : TLe Hc (upd Hc l (.tup acc)) := tle (same_new hl _)
      have lacc : acc.length ≤ 4 := by rw [ra.length, encs_map, List.length_map, nums_len]; exact hlen
      refine ⟨z, l, [v0], acc, rfl, rfl, SqT.of (tl _ _ hzc), SqT.of upd_same, sz_ok (by simp; omega), (fun e => by cases e), fun _ e => ?_, fun _ _ y hy => ?_⟩
      · refine qq (.ref z) _ ((smb ((sm.1.trans s3).trans (s3z.trans s4))).trans (i1.trans (smb (same_new hl _)))) ?_ ?_
        · rw [upd_ne (ne_of_none i2 hl)]
          simp only [num]; exact i2
        · have e0 : encs (nums ps c).1 = [] := by
            have := ra.length
            rw [e] at this
            exact List.length_eq_zero_iff.mp this.symm
          simp only [num, enc, e0]
          exact .tup (tl _ _ hzc) (.cons (r0c.mono tl) .nil)
      · refine qq (.ref y) _ ((smb ((sm.1.trans s3).trans (s3z.trans s4))).trans (i1.trans (smb ((same_new hl _).trans (same_new hy _))))) ?_ ?_
        · rw [upd_ne (ne_of_none ((same_new hl _) _ _ i2) hy), upd_ne (ne_of_none i2 hl)]
          simp only [num]; exact i2
        · simp only [num, enc]
          have ty : TLe Hc (upd (upd Hc l (.tup acc)) y (.tup ([v0] ++ acc))) := tl.trans (tle (same_new hy _))
          exact .tup upd_same (.cons (r0c.mono ty) (ra.mono ty))
  | any ps =>
    simp only [enc] at hv
    iterate 2 (refine sq_no (by walk_at "eb") (by decide) fun _ _ => ?_)
    refine sq_yes (by walk_at "eb") (by decide) fun H2 s2 => ?_
    have sm : Same H H2 ∧ True := ⟨by walk_at "sm", trivial⟩
    have hv1 := hv.mono (tle sm.1)
    have hb1 := sm.1 _ _ hb
    refine ET.use (et_ix (et_var rfl hv1) et_int atI_0) fun v0 H3 s3 r3 => ⟨(by show 1 ≤ sizeLine; decide), fun z hz => ?_⟩
    have s3z : Same H3 (upd H3 z (.tup [v0])) := same_new hz _
    have r3z : Tp (upd H3 z (.tup [v0])) v0 (.str "any") := r3.mono (tle s3z)
    have hzz : upd H3 z (.tup [v0]) z = some (.tup [v0]) := upd_same
    have hb3 := s3z _ _ (s3 _ _ hb1)
    have hv3 := (hv1.mono (tle s3)).mono (tle s3z)
    revert s3z r3z hzz hb3 hv3
    generalize upd H3 z (.tup [v0]) = H3'
    intro s3z r3z hzz hb3 hv3
    refine ET.use (ET.to (e := .tuple (encs ps)) (et_sl (et_var rfl hv3) (eo_some et_int) eo_none) (by rw [cut1])) fun v1 H4 s4 r4 => ?_
    obtain ⟨pt, xs, rfl, hpt, rxs⟩ := r4.tuple_inv
    refine ⟨pt, rfl, ⟨xs, SqT.of hpt⟩, fun D hD => ?_⟩
    have hb4 := s4 _ _ hb3
    have hz4 := s4 _ _ hzz
    have nta : ∀ ys, H4 b ≠ some (.tup ys) := fun ys e => by rw [hb4] at e; cases e
    have naD : b ≠ D := ne_of_none hb4 hD
    have elen : (encs ps).length = ps.length := by rw [encs_map, List.length_map]
    simp only [okP, Bool.and_eq_true, List.all_eq_true, decide_eq_true_eq] at hok
    have hlen := hok.1
    replace hok := hok.2
    refine lc_tup (K := K) (a := pt) (xs := xs) (fun i Hc => SmB b H4 Hc ∧ Hc b = some (.lst [.int ((nums (ps.take i) c).2 : Nat)]) ∧ ∃ acc, Hc D = some (.lst acc) ∧ TpA Hc acc (encs (nums (ps.take i) c).1))
      ⟨smb (same_new hD _), by rw [upd_ne naD, List.take_zero, nums]; exact hb4, [], upd_same, by rw [List.take_zero, nums, encs]; exact .nil⟩ (fun i Hc _ h => SqT.of (h.1.t nta _ _ hpt)) (fun i x Hc hx ⟨i1, i2, acc, hacc, ra⟩ => ?_) (fun Hc ⟨i1, i2, acc, hacc, ra⟩ => ?_)
    · obtain ⟨d, hd, rd⟩ := (rxs.mono (i1.t nta)).get hx
      obtain ⟨q, hq, rfl⟩ := encs_get hd
      refine ⟨rfl, _, rfl, _, rfl, b, x, _, q, rfl, i2, rd, hok q (List.mem_of_getElem? hq), fun v' H5 s5 h5 r5 => ?_⟩
      have hD5 : H5 D = some (.lst acc) := s5 D _ naD.symm hacc
      have nta5 : ∀ ys, Hc b ≠ some (.tup ys) := fun ys e => by rw [i2] at e; cases e
      have e1 : nums (ps.take (i + 1)) c = ((nums (ps.take i) c).1 ++ [(num q (nums (ps.take i) c).2).1], (num q (nums (ps.take i) c).2).2) := by
        rw [take_succ hq, nums_app, nums, nums]
      refine ⟨acc, hD5, sz_lt ?_, fun b' o n h => by rw [upd_ne (ne_of_none h hD)]; exact s5 b' o n (i1 b' o n h), ?_, acc ++ [v'], upd_same, ?_⟩
      · rw [ra.length, encs_map, List.length_map, nums_len, List.length_take]
        omega
      · rw [upd_ne naD, e1]; exact h5
      · rw [e1, encs_map, List.map_append, ← encs_map]
        exact ((ra.mono (s5.t nta5)).mono (tle_lst hD5)).append (.cons (r5.mono (tle_lst hD5)) .nil)
    · rw [rxs.length, elen, List.take_length] at i2 ra
      have ntc : ∀ ys, H4 b ≠ some (.tup ys) := nta
      have hzc : Hc z = some (.tup [v0]) := i1.t nta _ _ hz4
      have r0c := (r3z.mono (tle s4)).mono (i1.t nta)
      refine ⟨D, acc, rfl, .inl ⟨SqL.of hacc, fun l hl => ?_⟩⟩
      have tl : TLe Hc (upd Hc l (.tup acc)) := tle (same_new hl _)
      have lacc : acc.length ≤ 4 := by rw [ra.length, encs_map, List.length_map, nums_len]; exact hlen
      refine ⟨z, l, [v0], acc, rfl, rfl, SqT.of (tl _ _ hzc), SqT.of upd_same, sz_ok (by simp; omega), (fun e => by cases e), fun _ e => ?_, fun _ _ y hy => ?_⟩
      · refine qq (.ref z) _ ((smb ((sm.1.trans s3).trans (s3z.trans s4))).trans (i1.trans (smb (same_new hl _)))) ?_ ?_
        · rw [upd_ne (ne_of_none i2 hl)]
          simp only [num]; exact i2
        · have e0 : encs (nums ps c).1 = [] := by
            have := ra.length
            rw [e] at this
            exact List.length_eq_zero_iff.mp this.symm
          simp only [num, enc, e0]
          exact .tup (tl _ _ hzc) (.cons (r0c.mono tl) .nil)
      · refine qq (.ref y) _ ((smb ((sm.1.trans s3).trans (s3z.trans s4))).trans (i1.trans (smb ((same_new hl _).trans (same_new hy _))))) ?_ ?_
        · rw [upd_ne (ne_of_none ((same_new hl _) _ _ i2) hy), upd_ne (ne_of_none i2 hl)]
          simp only [num]; exact i2
        · simp only [num, enc]
          have ty : TLe Hc (upd (upd Hc l (.tup acc)) y (.tup ([v0] ++ acc))) := tl.trans (tle (same_new hy _))
          exact .tup upd_same (.cons (r0c.mono ty) (ra.mono ty))
  | none =>
    simp only [enc] at hv
    iterate 3 (refine sq_no (by walk_at "eb") (by decide) fun _ _ => ?_)
    refine st_ret (by walk_at "et") fun v H' s r => qq v H' (smb (by walk_at "sm")) ?_ r
    exact (by walk_at "sm" : Same H H') _ _ hb
  | empty =>
    simp only [enc] at hv
    iterate 3 (refine sq_no (by walk_at "eb") (by decide) fun _ _ => ?_)
    refine st_ret (by walk_at "et") fun v H' s r => qq v H' (smb (by walk_at "sm")) ?_ r
    exact (by walk_at "sm" : Same H H') _ _ hb
  | one z =>
    simp only [enc] at hv
    iterate 3 (refine sq_no (by walk_at "eb") (by decide) fun _ _ => ?_)
    refine st_ret (by walk_at "et") fun v H' s r => qq v H' (smb (by walk_at "sm")) ?_ r
    exact (by walk_at "sm" : Same H H') _ _ hb
theorem c_Lnumbered_all (T : Tx mg) (D : Df K mg "_law_numbered" s_Lnumbered ["_law_pattern_here", "_law_box"]) : ∀ k, C8.Cal P w K mg base k "_law_numbered" (sp_lnum k) []
  | 0 => cal_none D fun vs H Q E h => by
    obtain ⟨b, v, c, p, _, _, _, hok, _⟩ := h
    exact okP_zero hok
  | k + 1 => c_Lnumbered_step T D (c_Lnumbered_all T D k)
theorem c_Lgroups (T : Tx mg) (D : Df K mg "_law_groups" s_Lgroups ["_law_pattern_here"]) (c_Lnumbered : C8.Cal P w K mg base 19 "_law_numbered" (sp_lnum 19) []) : C8.Cal P w K mg base 20 "_law_groups" (spT 1 F_groups_of) [] := by
  refine df_mk D sc_Lgroups spT.len fun f cdv A outer s H vs Q E hr h => ?_
  obtain ⟨ds, d, hn, hv, ⟨p, rfl, hok, rfl⟩, qq⟩ := h
  obtain _ | @⟨x0, _, _, _, h0, _ | _⟩ := hv
  refine ⟨_, (pss_cons (ps_set (i := 1) sc_Lgroups.nd rfl (Or.inl rfl) (pe_lst (pa_cons pe_int pa_nil)))
    (pss_cons (ps_expr (C8.pe_c c_Lnumbered hr (by omega) rfl (pa_cons (pv 0) (pa_cons (pv 1) pa_nil))))
    (pss_one (ps_ret (pe_ix (ix_listK (K := K) rfl) (pv 1) pe_int (fun _ _ => rfl)))))), ?_⟩
  refine sq_setN (ds := [.int ((0 : Nat) : Int)]) (en_lst (ea_cons et_int ea_nil) (by show 1 ≤ 16000000; omega)) fun b xs H1 hb s1 hl1 t1 => ?_
  have ex := tpa_ints (ns := [((0 : Nat) : Int)]) t1
  subst ex
  refine ⟨_, rfl, _, rfl, b, x0, 0, p, rfl, hl1, h0.mono (tle s1), hok, fun v' H2 s2 h2 r2 => ?_⟩
  have s12 : Same H H2 := fun x o e => s2 x o (ne_of_none e hb) (s1 _ _ e)
  exact st_ret (σ := [some x0, some (.ref b)]) (et_ixL (el_var rfl ⟨b, _, rfl, h2, .cons (.int _) .nil⟩) et_int atI_0) fun v H' s r => qq v H' (s12.trans s) r
end
end

section

abbrev s_Lfirst_stops : Stmt := topS 66
theorem sc_Lfirst_stops : FnScope ["_law_pattern_here"] ["_law_pattern_here"] (C8.fnScope s_Lfirst_stops) := C8.fnScope_by (by decide +kernel)
abbrev s_Lnext_stops : Stmt := topS 67
theorem sc_Lnext_stops : FnScope ["_law_some", "_law_letter", "_law_place", "_law_found", "_law_rest", "_law_marks"] ["_law_some", "_law_letter", "_law_place"] (C8.fnScope s_Lnext_stops) := C8.fnScope_by (by decide +kernel)
abbrev s_Lall_stops : Stmt := topS 68
theorem sc_Lall_stops : FnScope ["_law_pattern_here", "_law_text_here", "_law_found", "_law_at", "_law_letter"] ["_law_pattern_here", "_law_text_here"] (C8.fnScope s_Lall_stops) := C8.fnScope_by (by decide +kernel)
def sp_lall : Sp := fun vs H Q _ => ∃ (p : Pat) (t : Str) (x y : V) (r : Option (List Stop)), vs = [x, y] ∧ Tp H x (enc p) ∧ Tp H y (.str t) ∧ okP 19 p = true ∧ groups p ≤ 1000 ∧ allF p t = some r ∧
  (match r with
   | some S => (∀ s ∈ S, okS s) → S.length ≤ 300 → ∀ v H', Same H H' → Lp H' v (S.map encS) → Q v H'
   | none => ∀ H', Same H H' → Q .non H')
theorem et_lnum {k : Nat} {E : XK} {σ : L2.St} {H : Hp} {te : TE} {p : Pat} (h : ET te σ H (enc p)) (hok : okP k p = true) : ET (tCall (sp_lnum k) [] E (tCons te (tCons (tLst (tCons (tC (.int 0)) tNil)) tNil))) σ H (enc (num p 0).1) := fun H1 a Q q =>
  h H1 a _ fun v H2 s2 r2 => by
    refine ⟨by show 1 ≤ sizeLine; decide, fun b hb => ?_⟩
    have s3 : Same H2 (upd H2 b (.lst [.int 0])) := same_new hb _
    refine ⟨b, v, 0, p, rfl, upd_same, r2.mono (tle s3), hok, fun v' H4 s4 h4 r4 => q v' H4 (s2.trans fun x o e => s4 x o (ne_of_none e hb) (s3 _ _ e)) r4⟩
section
variable {P : Program} {w : World} {K : PySem.W.Frag} {mg : Str → Option Value} {base : Heap}
theorem c_Lfirst_stops (T : Tx mg) (D : Df K mg "_law_first_stops" s_Lfirst_stops ["_law_pattern_here"]) (c_Lstops_of : C8.Cal P w K mg base 111 "_law_stops_of" (spL 3 (F_stops 110)) []) (c_Lnumbered : C8.Cal P w K mg base 19 "_law_numbered" (sp_lnum 19) []) (c_Lgroups : C8.Cal P w K mg base 20 "_law_groups" (spT 1 F_groups_of) []) :
    C8.Cal P w K mg base 112 "_law_first_stops" (spL 1 F_first_stops) [] := by
  refine df_mk D sc_Lfirst_stops spL.len fun f cdv A outer s H vs Q E hr h => ?_
  obtain ⟨ds, es, hn, hv, ⟨p, L, rfl, hok, hg, hL, hz, rfl⟩, qq⟩ := h
  obtain _ | @⟨x0, _, _, _, h0, _ | _⟩ := hv
  refine ⟨_, (pss_one (ps_ret (C8.pe_c c_Lstops_of hr (by omega) rfl (pa_cons (pe_tup (pa_cons (C8.pe_c c_Lnumbered hr (by omega) rfl (pa_cons (pv 0) (pa_cons (pe_lst (pa_cons pe_int pa_nil)) pa_nil))) pa_nil)) (pa_cons (pe_op (op_repAK (K := K) rfl) (pe_tup (pa_cons (pe_tup (pa_cons pe_non (pa_cons pe_non pa_nil))) pa_nil)) (C8.pe_c c_Lgroups hr (by omega) rfl (pa_cons (pv 0) pa_nil))) (pa_cons pe_int pa_nil)))))), ?_⟩
  refine st_retL (el_call (ea_cons (et_tup (ea_cons (et_lnum (p := p) (by walk_at "et") hok) ea_nil) (by walk_at "sz")) (ea_cons (et_rep (d := .tuple [.none, .none]) (by walk_at "et") (et_call (by walk_at "ea") rfl ⟨p, rfl, hok, rfl⟩) hg) (ea_cons et_int ea_nil))) rfl ⟨[.pat (num p 0).1], noM (groups p), 0, L, ?_, ?_, ?_, hL, hz, rfl⟩) fun v H' s l => qq v H' s l
  · simp [encM, noM, encR, encF]
  · exact .cons (okP_mono 19 _ (okP_num 19 p 0 hok)) fun f hf => absurd hf (by simp)
  · rw [noM, List.length_replicate]; exact hg
theorem c_Lnext_stops (T : Tx mg) (D : Df K mg "_law_next_stops" s_Lnext_stops ["_law_some", "_law_letter", "_law_place"]) (c_Lstops_of : C8.Cal P w K mg base 111 "_law_stops_of" (spL 3 (F_stops 110)) []) : C8.Cal P w K mg base 112 "_law_next_stops" (spLL 2 F_next_stops) [] := by
  refine df_mk D sc_Lnext_stops spLL.len fun f cdv A outer s H vs Q E hr h => ?_
  obtain ⟨v, vr, ls, ds, es, rfl, hl, hn, hv, ⟨S, c, p, L, rfl, rfl, hok, hL, hz, rfl⟩, qq⟩ := h
  obtain _ | @⟨x0, _, _, _, h0, _ | @⟨x1, _, _, _, h1, _ | _⟩⟩ := hv
  refine ⟨_, (pss_cons (ps_set (i := 3) sc_Lnext_stops.nd rfl (Or.inl rfl) (pe_lst pa_nil))
    (pss_cons (ps_for PassesOwn.never rfl (pi_listK (K := K) rfl (pv 0)) (pg_tupK (K := K) (n := 2) rfl rfl (pgs_cons (pg_name (i := 4) sc_Lnext_stops.nd rfl (Or.inl rfl)) (pgs_cons (pg_name (i := 5) sc_Lnext_stops.nd rfl (Or.inl rfl)) pgs_nil))) (pss_one (ps_if (PW.pt (pw_and (pt_cmpR (op_neK (K := K) rfl hr.units) (pv 4) (pe_tup pa_nil) (nomark _)) (pw_and1 (pt_cmpR op_inS (pv 1) (pe_ix (ix_tupK (K := K) rfl) (pe_ix (ix_tupK (K := K) rfl) (pv 4) pe_int (fun _ _ => rfl)) pe_int (fun _ _ => rfl)) rfl)))) (pss_one (ps_set (i := 3) sc_Lnext_stops.nd rfl (Or.inl rfl) (pe_op op_cat (pv 3) (C8.pe_c c_Lstops_of hr (by omega) rfl (pa_cons (pe_slice (sl_tupK (K := K) rfl) (pv 4) (po_some pe_int) po_none) (pa_cons (pv 5) (pa_cons (pv 2) pa_nil))))))) pss_nil)))
    (pss_one (ps_ret (pv 3))))), ?_⟩
  obtain ⟨pl, xs, rfl, hpl, tl⟩ := hl
  refine sq_setL (EN.el (en_lst ea_nil (Nat.zero_le _))) fun v3 H1 s1 l3 => ?_
  refine sq_forV (ds := S.map encS) (σ := [some (.ref pl), some x0, some x1, some v3, none, none]) rfl (s1 _ _ hpl) (tl.mono (tle s1)) (fun i σ' H' => Same H H' ∧ Same H1 H' ∧ ∃ (acc : List Stop) (v3 : V) (v4 v5 : Option V), nextF (S.take i) c p = some acc ∧ Lp H' v3 (acc.map encS) ∧
    σ' = [some (.ref pl), some x0, some x1, some v3, v4, v5]) ⟨s1, Same.refl _, [], v3, none, none, rfl, l3, rfl⟩ (fun i σ' H' h => ⟨tle h.2.1, h.1 _ _ hpl⟩) (fun i d v σ' H' hd ⟨i1, i2, acc, v3, v4, v5, ha, l3, e7⟩ rv => ?_) (fun σ' H' ⟨i1, i2, acc, v3, v4, v5, ha, l3, e7⟩ => ?_)
  · subst e7
    obtain ⟨⟨R, M⟩, hq, rfl⟩ := encS_get hd
    obtain ⟨a, b, c', ha', hb, hab, hLe⟩ := catO_at hL hq
    have ha2 : catO (fun s => behindF s c p) (S.take i) = some acc := ha
    rw [ha2] at ha'
    cases ha'
    have hokq := hok _ (List.mem_of_getElem? hq)
    have hz' : acc.length + b.length ≤ 10000000 := by rw [hLe] at hz; simp at hz; omega
    have g0 := h0.mono (tle i1)
    have g1 := h1.mono (tle i1)
    unfold encS at rv
    obtain ⟨a, ys, rfl, hya, ry⟩ := rv.tuple_inv
    obtain _ | @⟨w1, _, _, _, y1, _ | @⟨w2, _, _, _, y2, _ | _⟩⟩ := ry
    refine ⟨a, _, rfl, SqT.of hya, rfl, _, _, rfl, _, _, rfl, rfl, ?_⟩
    have hsh := (okR_shp hokq.1).shaped
    have stay : ∀ H2, Same H' H2 → b = [] → Same H H2 ∧ Same H1 H2 ∧ ∃ (acc' : List Stop) (v3' : V) (v4 v5 : Option V), nextF (S.take (i + 1)) c p = some acc' ∧ Lp H2 v3' (acc'.map encS) ∧ [some (.ref pl), some x0, some x1, some v3, some w1, some w2] = [some (.ref pl), some x0, some x1, some v3', v4, v5] := fun H2 s2 e => by
      subst e
      rw [List.append_nil] at hab
      exact ⟨i1.trans s2, i2.trans s2, acc, v3, _, _, hab, l3.mono s2, rfl⟩
    unfold encR at y1 hsh
    cases R with
    | nil =>
      cases hb
      exact st_ifF (σ := [some (.ref pl), some x0, some x1, some v3, some w1, some w2]) (EB.to (eb_andF (eb_test (et_neNil (by walk_at "et") hsh)) (by rfl)) rfl) fun H2 s2 => stay H2 s2 rfl
    | cons fr R =>
      cases fr with
      | turn q lo hi m d new => cases hb
      | close g => cases hb
      | pat q =>
        cases q with
        | one z =>
          replace hb : (if c ∈ z.cps.toList then stopsF 110 R M p else some []) = some b := hb
          simp only [List.map_cons, encF, enc] at y1 hsh
          have tst : EB _ [some (.ref pl), some x0, some x1, some v3, some w1, some w2] H' _ := eb_andT (eb_test (et_neNil (K := K) (ta := tVar 4) (by walk_at "et") hsh)) (by rfl) (eb_test (et_inSg (ta := tVar 1) (tb := tOp (rIxT K) (tOp (rIxT K) (tVar 4) (tC (.int 0))) (tC (.int 1))) (c := c) (z := z) (by walk_at "et") (by walk_at "et")))
          by_cases hc : c ∈ z.cps.toList
          · rw [if_pos hc] at hb
            rw [decide_eq_true hc] at tst
            refine st_ifT tst fun H2 s2 => ?_
            refine st_setL (i := 3) (σ := [some (.ref pl), some x0, some x1, some v3, some w1, some w2]) (el_cat (by walk_at "el") (el_call (F := F_stops 110) (ea_cons (ET.to (e := encR R) (et_sl (by walk_at "et") (eo_some et_int) eo_none) (by rw [cut1]; rfl)) (by walk_at "ea")) rfl ⟨R, M, p, b, rfl, hokq.1.tail, hokq.2.1, hb, by omega, rfl⟩) (by simp; omega)) fun v7 H7 s7 l7 => ?_
            exact ⟨(i1.trans s2).trans s7, (i2.trans s2).trans s7, acc ++ b, v7, _, _, hab, by rw [List.map_append]; exact l7, rfl⟩
          · rw [if_neg hc] at hb
            cases hb
            rw [decide_eq_false hc] at tst
            exact st_ifF tst fun H2 s2 => stay H2 s2 rfl
        | _ => cases hb
  · subst e7
    rw [List.length_map, List.take_length, hL] at ha
    cases ha
    exact ⟨_, rfl, qq _ _ i1 l3⟩
theorem c_Lall_stops (T : Tx mg) (D : Df K mg "_law_all_stops" s_Lall_stops ["_law_pattern_here", "_law_text_here"]) (c_Lfirst_stops : C8.Cal P w K mg base 112 "_law_first_stops" (spL 1 F_first_stops) []) (c_Lnext_stops : C8.Cal P w K mg base 112 "_law_next_stops" (spLL 2 F_next_stops) []) :
    C8.Cal P w K mg base 113 "_law_all_stops" sp_lall [] := by
  refine df_mk D sc_Lall_stops (fun vs H Q E h => by obtain ⟨p, t, x, y, r, rfl, _⟩ := h; rfl) fun f cdv A outer s H vs Q E hr h => ?_
  obtain ⟨p, t, x, y, r, rfl, hx, hy, hok, hg, hr1, q⟩ := h
  refine ⟨_, (pss_cons (ps_set (i := 2) sc_Lall_stops.nd rfl (Or.inl rfl) (C8.pe_c c_Lfirst_stops hr (by omega) rfl (pa_cons (pv 0) pa_nil)))
    (pss_cons (ps_for PassesOwn.never rfl (pi_enumS rfl T.m_enumerate (pa_cons (pv 1) pa_nil)) (pg_tupK (K := K) (n := 2) rfl rfl (pgs_cons (pg_name (i := 3) sc_Lall_stops.nd rfl (Or.inl rfl)) (pgs_cons (pg_name (i := 4) sc_Lall_stops.nd rfl (Or.inl rfl)) pgs_nil))) (pss_cons (ps_if (pt_cmpR op_gt (pe_callB (call_len_seqK (K := K) rfl) rfl T.m_len PySem.boot_len (pa_cons (pv 2) pa_nil)) pe_int (nomark _)) (pss_one (ps_ret pe_non)) pss_nil)
    (pss_one (ps_set (i := 2) sc_Lall_stops.nd rfl (Or.inl rfl) (C8.pe_c c_Lnext_stops hr (by omega) rfl (pa_cons (pv 2) (pa_cons (pv 4) (pa_cons (pe_op op_add (pv 3) pe_int) pa_nil))))))))
    (pss_one (ps_ret (pe_ifExp (pt_cmpR op_le (pe_callB (call_len_seqK (K := K) rfl) rfl T.m_len PySem.boot_len (pa_cons (pv 2) pa_nil)) pe_int (nomark _)) (pv 2) pe_non))))), ?_⟩
  obtain ⟨L0, hL0, hr1⟩ := Option.bind_eq_some_iff.mp hr1
  by_cases hz : 10000000 < L0.length
  · rw [if_pos hz] at hr1; cases hr1
  rw [if_neg hz] at hr1
  have hS0 := firstF_ok hL0 hok hg
  refine sq_setL (el_call (F := F_first_stops) (ds := [enc p]) (by walk_at "ea") rfl ⟨p, L0, rfl, hok, hg, hL0, by omega, rfl⟩) fun v0 H1 s1 l0 => ?_
  show tSeq (tFor (iEnumS (tCons (tVar 1) tNil)) _ _) _ _ [some x, some y, some v0, none, none] H1
  refine sq_forE (x := t) (by walk_at "ea") fun H2 s2 => ⟨fun i σ' H' => Same H H' ∧ ∃ (S : List Stop) (vf : V) (v3 v4 : Option V), σ' = [some x, some y, some vf, v3, v4] ∧ Lp H' vf (S.map encS) ∧ (∀ s ∈ S, okS s) ∧ S.length ≤ 10000000 ∧ (if 300 < S.length then some none else runF (t.cps.toList.drop i) i S) = some r, ⟨s1.trans s2, L0, v0, none, none, rfl, l0.mono s2, hS0, by omega, by simpa using hr1⟩, fun i c T σ' H' hc ⟨sm, S, vf, v3, v4, e, lf, hS, hlS, hr⟩ hT => ?_, fun σ' H' ⟨sm, S, vf, v3, v4, e, lf, hS, hlS, hr⟩ => ?_⟩
  · subst e
    have sT : Same H (upd H' T (.tup [.int (i : Nat), .str ⟨#[c]⟩])) := sm.trans (same_new hT _)
    have sT' : Same H' (upd H' T (.tup [.int (i : Nat), .str ⟨#[c]⟩])) := same_new hT _
    refine ⟨T, _, rfl, SqT.of upd_same, rfl, _, _, rfl, _, _, rfl, rfl, ?_⟩
    have lf' := lf.mono sT'
    have hdr : t.cps.toList.drop i = c :: t.cps.toList.drop (i + 1) := by
      have hc' : t.cps.toList[i]? = some c := by simpa using hc
      obtain ⟨hi, rfl⟩ := List.getElem?_eq_some_iff.mp hc'
      exact List.drop_eq_getElem_cons hi
    refine sq_if (σ := [some x, some y, some vf, some (.int (i : Nat)), some (.str ⟨#[c]⟩)]) (b := decide (300 < ((S.map encS).length : Int))) (eb_test (et_gt (et_lenL (by walk_at "el")) et_int)) (fun e H3 s3 => ?_) (fun e H3 s3 => ?_)
    · have e' : 300 < S.length := by simp at e; omega
      rw [if_pos e'] at hr
      cases hr
      exact q _ (sT.trans s3)
    · have e' : ¬ 300 < S.length := by simp at e; omega
      rw [if_neg e', hdr] at hr
      obtain ⟨L, hL, hr2⟩ := Option.bind_eq_some_iff.mp hr
      by_cases hz2 : 10000000 < L.length
      · rw [if_pos hz2] at hr2; cases hr2
      rw [if_neg hz2] at hr2
      refine st_setL (i := 2) (σ := [some x, some y, some vf, some (.int (i : Nat)), some (.str ⟨#[c]⟩)]) (el_callL (F := F_next_stops) (ls := S.map encS) (by walk_at "el") (ea_cons (et_var rfl (.str _)) (ea_cons (et_add (et_var rfl (.int _)) et_int) ea_nil)) rfl ⟨S, c, i + 1, L, rfl, rfl, hS, hL, by omega, rfl⟩) fun v7 H7 s7 l7 => ?_
      exact ⟨(sT.trans s3).trans s7, L, v7, _, _, rfl, l7, nextF_ok hL hS, by omega, hr2⟩
  · subst e
    have e0 : t.cps.toList.drop t.cps.size = [] := by simp
    rw [e0] at hr
    by_cases e' : 300 < S.length
    · rw [if_pos e'] at hr
      cases hr
      refine st_ret (σ := [some x, some y, some vf, v3, v4]) (et_ifF (eb_test (et_le (et_lenL (ds := S.map encS) (by walk_at "el")) et_int)) (decide_eq_false (by simp; omega)) et_non) fun v H' s r => ?_
      cases r.none_inv
      exact q _ (sm.trans s)
    · rw [if_neg e'] at hr
      cases hr
      exact st_retL (σ := [some x, some y, some vf, v3, v4]) (el_ifT (eb_test (et_le (et_lenL (ds := S.map encS) (by walk_at "el")) et_int)) (decide_eq_true (by simp; omega)) (by walk_at "el")) fun v H' s l => q hS (by omega) v H' (sm.trans s) l
end
end

section

abbrev s_Lgone : Stmt := topS 69
theorem sc_Lgone : FnScope ["_law_pattern_here", "_law_text_here", "_law_at", "_law_spans", "_law_base", "_law_word", "_law_found", "_law_end", "_law_late", "_law_lots", "_law_part"] ["_law_pattern_here", "_law_text_here", "_law_at", "_law_spans", "_law_base"] (C8.fnScope s_Lgone) := C8.fnScope_by (by decide +kernel)
abbrev s_Lgone_all : Stmt := topS 70
theorem sc_Lgone_all : FnScope ["_law_part", "_law_text_here", "_law_lots", "_law_base", "_law_found", "_law_at", "_law_spans"] ["_law_part", "_law_text_here", "_law_lots", "_law_base"] (C8.fnScope s_Lgone_all) := C8.fnScope_by (by decide +kernel)
abbrev s_Lgone_again : Stmt := topS 71
theorem sc_Lgone_again : FnScope ["_law_pattern_here", "_law_text_here", "_law_at", "_law_spans", "_law_base", "_law_done", "_law_going", "_law_end", "_law_late", "_law_staying"] ["_law_pattern_here", "_law_text_here", "_law_at", "_law_spans", "_law_base", "_law_done"] (C8.fnScope s_Lgone_again) := C8.fnScope_by (by decide +kernel)
abbrev s_Lall_ways : Stmt := topS 72
theorem sc_Lall_ways : FnScope ["_law_pattern_here", "_law_text_here", "_law_found", "_law_end", "_law_spans"] ["_law_pattern_here", "_law_text_here"] (C8.fnScope s_Lall_ways) := C8.fnScope_by (by decide +kernel)
/-- an end and what groups have -/
abbrev Lot := Nat × List PyData
def encLot (l : Lot) : PyData := .tuple [.int (l.1 : Nat), .tuple l.2]
def capF (x : Option (List Lot)) : Option (List Lot) := x.bind fun L => if 10000000 < L.length then none else some L
def anyG (f : Pat → Nat → Option (List Lot)) : List Pat → Nat → Option (List Lot)
  | [], _ => some []
  | q :: qs, b => (f q b).bind fun x => (anyG f qs (b + groups q)).bind fun y => some (x ++ y)
def rowG (f : Pat → Nat → Lot → Option (List Lot)) : List Pat → Nat → List Lot → Option (List Lot)
  | [], _, lots => some lots
  | q :: qs, b, lots => (capF (catO (f q b) lots)).bind fun l => rowG f qs (b + groups q) l
mutual
def goneF : Nat → List Nat → Pat → Nat → Lot → Option (List Lot)
  | 0, _, _, _, _ => none
  | _ + 1, _, .none, _, _ => some []
  | _ + 1, _, .empty, _, l => some [l]
  | _ + 1, t, .one z, _, l => some (match t[l.1]? with | some c => if c ∈ z.cps.toList then [(l.1 + 1, l.2)] else [] | none => [])
  | n + 1, t, .group q _, b, l => if l.2.length ≤ b then none else (capF (goneF n t q (b + 1) l)).bind fun L => some (L.map fun x => (x.1, x.2.set b (.tuple [.int (l.1 : Nat), .int (x.1 : Nat)])))
  | n + 1, t, .again q lo hi m, b, l => againF n t q lo hi m b l 0
  | n + 1, t, .any ps, b, l => anyG (fun q b => goneF n t q b l) ps b
  | n + 1, t, .row ps, b, l => rowG (fun q b x => goneF n t q b x) ps b [l]
def againF : Nat → List Nat → Pat → Nat → Option Nat → Bool → Nat → Lot → Nat → Option (List Lot)
  | 0, _, _, _, _, _, _, _, _ => none
  | n + 1, t, q, lo, hi, m, b, l, d => (if goOn hi d = true then (capF (goneF n t q b l)).bind fun L => catO (fun x => if l.1 < x.1 ∨ d < lo then againF n t q lo hi m b x (d + 1) else some []) L else some []).bind fun going =>
    some (if m = true then going ++ (if lo ≤ d then [l] else []) else (if lo ≤ d then [l] else []) ++ going)
end
theorem capF_some {x : Option (List Lot)} {L : List Lot} : capF x = some L ↔ x = some L ∧ L.length ≤ 10000000 := by
  unfold capF
  cases x with
  | none => simp
  | some M =>
    rw [Option.bind_some]
    by_cases h : 10000000 < M.length
    · rw [if_pos h]
      constructor
      · intro e; cases e
      · rintro ⟨e, h2⟩; cases e; omega
    · rw [if_neg h]
      constructor
      · intro e; cases e; exact ⟨rfl, by omega⟩
      · rintro ⟨e, _⟩; exact e
theorem anyG_len {f : Pat → Nat → Option (List Lot)} {k : Nat} : ∀ (ps : List Pat) (b : Nat) (L : List Lot), anyG f ps b = some L → (∀ q ∈ ps, ∀ b L, f q b = some L → ∀ x ∈ L, x.2.length = k) → ∀ x ∈ L, x.2.length = k
  | [], _, _, h, _, x, hx => by cases h; cases hx
  | q :: qs, b, L, h, hf, x, hx => by
    obtain ⟨u, hu, h⟩ := Option.bind_eq_some_iff.mp h
    obtain ⟨v, hv, h⟩ := Option.bind_eq_some_iff.mp h
    cases h
    rcases List.mem_append.mp hx with hx | hx
    · exact hf q List.mem_cons_self _ _ hu x hx
    · exact anyG_len qs _ v hv (fun q hq => hf q (List.mem_cons_of_mem _ hq)) x hx
theorem rowG_len {f : Pat → Nat → Lot → Option (List Lot)} {k : Nat} : ∀ (ps : List Pat) (b : Nat) (lots L : List Lot), rowG f ps b lots = some L → (∀ x ∈ lots, x.2.length = k) → (∀ q ∈ ps, ∀ b l L, f q b l = some L → l.2.length = k → ∀ x ∈ L, x.2.length = k) → ∀ x ∈ L, x.2.length = k
  | [], _, _, _, h, hl, _, x, hx => by cases h; exact hl x hx
  | q :: qs, b, lots, L, h, hl, hf, x, hx => by
    obtain ⟨u, hu, h⟩ := Option.bind_eq_some_iff.mp h
    refine rowG_len qs _ u L h (fun y hy => ?_) (fun q hq => hf q (List.mem_cons_of_mem _ hq)) x hx
    obtain ⟨z, hz, l, hl2, hm⟩ := catO_mem (capF_some.mp hu).1 hy
    exact hf q List.mem_cons_self _ z l hl2 (hl z hz) y hm
mutual
theorem goneF_len : ∀ (n : Nat) (t : List Nat) (p : Pat) (b : Nat) (l : Lot) (L : List Lot), goneF n t p b l = some L → ∀ x ∈ L, x.2.length = l.2.length
  | 0, _, _, _, _, _, h, _, _ => by rw [goneF] at h; cases h
  | n + 1, t, p, b, l, L, h, x, hx => by
    cases p with
    | none => rw [goneF] at h; cases h; cases hx
    | empty => rw [goneF] at h; cases h; rw [List.mem_singleton.mp hx]
    | one z =>
      rw [goneF] at h
      cases e : t[l.1]? with
      | none => rw [e] at h; cases h; cases hx
      | some c =>
        rw [e] at h
        by_cases hc : c ∈ z.cps.toList
        · simp only [if_pos hc] at h
          cases h; rw [List.mem_singleton.mp hx]
        · simp only [if_neg hc] at h
          cases h; cases hx
    | group q g =>
      rw [goneF] at h
      by_cases hb : l.2.length ≤ b
      · rw [if_pos hb] at h; cases h
      rw [if_neg hb] at h
      obtain ⟨u, hu, h⟩ := Option.bind_eq_some_iff.mp h
      cases h
      obtain ⟨y, hy, rfl⟩ := List.mem_map.mp hx
      rw [List.length_set]
      exact goneF_len n t q _ l u (capF_some.mp hu).1 y hy
    | again q lo hi m => rw [goneF] at h; exact againF_len n t q lo hi m b l 0 L h x hx
    | any ps => rw [goneF] at h; exact anyG_len ps b L h (fun q _ b L hL => goneF_len n t q b l L hL) x hx
    | row ps => rw [goneF] at h; exact rowG_len ps b [l] L h (fun y hy => by rw [List.mem_singleton.mp hy]) (fun q _ b l' L' hL e x hx => by rw [goneF_len n t q b l' L' hL x hx, e]) x hx
theorem againF_len : ∀ (n : Nat) (t : List Nat) (q : Pat) (lo : Nat) (hi : Option Nat) (m : Bool) (b : Nat) (l : Lot) (d : Nat) (L : List Lot), againF n t q lo hi m b l d = some L → ∀ x ∈ L, x.2.length = l.2.length
  | 0, _, _, _, _, _, _, _, _, _, h, _, _ => by rw [againF] at h; cases h
  | n + 1, t, q, lo, hi, m, b, l, d, L, h, x, hx => by
    rw [againF] at h
    obtain ⟨g, hg, h⟩ := Option.bind_eq_some_iff.mp h
    cases h
    have hst : x ∈ (if lo ≤ d then [l] else []) → x.2.length = l.2.length := fun hx => by
      split at hx
      · rw [List.mem_singleton.mp hx]
      · cases hx
    have hgo : x ∈ g → x.2.length = l.2.length := fun hx => by
      by_cases c : goOn hi d = true
      · rw [if_pos c] at hg
        obtain ⟨u, hu, hg⟩ := Option.bind_eq_some_iff.mp hg
        obtain ⟨z, hz, l2, hl2, hm⟩ := catO_mem hg hx
        have e1 := goneF_len n t q b l u (capF_some.mp hu).1 z hz
        by_cases c2 : l.1 < z.1 ∨ d < lo
        · rw [if_pos c2] at hl2
          rw [againF_len n t q lo hi m b z (d + 1) l2 hl2 x hm, e1]
        · rw [if_neg c2] at hl2; cases hl2; cases hm
      · rw [if_neg c] at hg; cases hg; cases hx
    by_cases cm : m = true
    · rw [if_pos cm] at hx
      exact (List.mem_append.mp hx).elim hgo hst
    · rw [if_neg cm] at hx
      exact (List.mem_append.mp hx).elim hst hgo
end
end

section

def F_gone (n : Nat) (ds es : List PyData) : Prop := ∃ (p : Pat) (t : Str) (b : Nat) (l : Lot) (L : List Lot), ds = [enc p, .str t, .int (l.1 : Nat), .tuple l.2, .int (b : Nat)] ∧ okP 19 p = true ∧ t.length ≤ 1000000 ∧ l.2.length ≤ 1000 ∧ goneF n t.cps.toList p b l = some L ∧ L.length ≤ 10000000 ∧ es = L.map encLot
def F_gone_again (n : Nat) (ds es : List PyData) : Prop := ∃ (q : Pat) (lo : Nat) (hi : Option Nat) (m : Bool) (t : Str) (b : Nat) (l : Lot) (d : Nat) (L : List Lot), ds = [enc (.again q lo hi m), .str t, .int (l.1 : Nat), .tuple l.2, .int (b : Nat), .int (d : Nat)] ∧ okP 19 (.again q lo hi m) = true ∧ t.length ≤ 1000000 ∧ l.2.length ≤ 1000 ∧
  againF n t.cps.toList q lo hi m b l d = some L ∧ L.length ≤ 10000000 ∧ es = L.map encLot
def sp_gall (n : Nat) : Sp := fun vs H Q _ => ∃ (p : Pat) (t : Str) (b : Nat) (lots L : List Lot) (x y v z : V), vs = [x, y, v, z] ∧ Tp H x (enc p) ∧ Tp H y (.str t) ∧ Lp H v (lots.map encLot) ∧ Tp H z (.int (b : Nat)) ∧ okP 19 p = true ∧ t.length ≤ 1000000 ∧ (∀ l ∈ lots, l.2.length ≤ 1000) ∧
  catO (fun l => goneF n t.cps.toList p b l) lots = some L ∧ L.length ≤ 10000000 ∧ ∀ v' H', Same H H' → Lp H' v' (L.map encLot) → Q v' H'
theorem encLot_get {S : List Lot} {i : Nat} {d : PyData} (h : (S.map encLot)[i]? = some d) : ∃ s, S[i]? = some s ∧ d = encLot s := by
  rw [List.getElem?_map] at h
  cases e : S[i]? with
  | none => rw [e] at h; cases h
  | some q =>
    rw [e] at h
    exact ⟨q, rfl, (Option.some.inj h).symm⟩
section
variable {P : Program} {w : World} {K : PySem.W.Frag} {mg : Str → Option Value} {base : Heap}
theorem c_Lgone_all {n k : Nat} (T : Tx mg) (D : Df K mg "_law_gone_all" s_Lgone_all ["_law_part", "_law_text_here", "_law_lots", "_law_base"]) (c_Lgone : C8.Cal P w K mg base k "_law_gone" (spL 5 (F_gone n)) []) : C8.Cal P w K mg base (k + 1) "_law_gone_all" (sp_gall n) [] := by
  refine df_mk D sc_Lgone_all (fun vs H Q E h => by obtain ⟨p, t, b, lots, L, x, y, v, z, rfl, _⟩ := h; rfl) fun f cdv A outer s H vs Q E hr h => ?_
  obtain ⟨p, t, b, lots, L, x, y, v, z, rfl, h0, h1, hl, h3, hok, ht, hsp, hL, hz, qq⟩ := h
  refine ⟨_, (pss_cons (ps_set (i := 4) sc_Lgone_all.nd rfl (Or.inl rfl) (pe_lst pa_nil))
    (pss_cons (ps_for PassesOwn.never rfl (pi_listK (K := K) rfl (pv 2)) (pg_tupK (K := K) (n := 2) rfl rfl (pgs_cons (pg_name (i := 5) sc_Lgone_all.nd rfl (Or.inl rfl)) (pgs_cons (pg_name (i := 6) sc_Lgone_all.nd rfl (Or.inl rfl)) pgs_nil))) (pss_one (ps_set (i := 4) sc_Lgone_all.nd rfl (Or.inl rfl) (pe_op op_cat (pv 4) (C8.pe_c c_Lgone hr (by omega) rfl (pa_cons (pv 0) (pa_cons (pv 1) (pa_cons (pv 5) (pa_cons (pv 6) (pa_cons (pv 3) pa_nil))))))))))
    (pss_one (ps_ret (pv 4))))), ?_⟩
  obtain ⟨pl, xs, rfl, hpl, tl⟩ := hl
  refine sq_setL (EN.el (en_lst ea_nil (Nat.zero_le _))) fun v4 H1 s1 l4 => ?_
  refine sq_forV (ds := lots.map encLot) (σ := [some x, some y, some (.ref pl), some z, some v4, none, none]) rfl (s1 _ _ hpl) (tl.mono (tle s1)) (fun i σ' H' => Same H H' ∧ Same H1 H' ∧ ∃ (acc : List Lot) (v4 : V) (v5 v6 : Option V), catO (fun l => goneF n t.cps.toList p b l) (lots.take i) = some acc ∧ Lp H' v4 (acc.map encLot) ∧
    σ' = [some x, some y, some (.ref pl), some z, some v4, v5, v6]) ⟨s1, Same.refl _, [], v4, none, none, rfl, l4, rfl⟩ (fun i σ' H' h => ⟨tle h.2.1, h.1 _ _ hpl⟩) (fun i d v σ' H' hd ⟨i1, i2, acc, v4, v5, v6, ha, l4, e7⟩ rv => ?_) (fun σ' H' ⟨i1, i2, acc, v4, v5, v6, ha, l4, e7⟩ => ?_)
  · subst e7
    obtain ⟨l, hq, rfl⟩ := encLot_get hd
    obtain ⟨a, b', c', ha', hb, hab, hLe⟩ := catO_at hL hq
    rw [ha] at ha'
    cases ha'
    have hz' : acc.length + b'.length ≤ 10000000 := by rw [hLe] at hz; simp at hz; omega
    have g0 := h0.mono (tle i1)
    have g1 := h1.mono (tle i1)
    have g3 := h3.mono (tle i1)
    unfold encLot at rv
    obtain ⟨a, ys, rfl, hya, ry⟩ := rv.tuple_inv
    obtain _ | @⟨w1, _, _, _, y1, _ | @⟨w2, _, _, _, y2, _ | _⟩⟩ := ry
    refine ⟨a, _, rfl, SqT.of hya, rfl, _, _, rfl, _, _, rfl, rfl, ?_⟩
    refine st_setL (i := 4) (σ := [some x, some y, some (.ref pl), some z, some v4, some w1, some w2]) (el_cat (by walk_at "el") (el_call (F := F_gone n) (by walk_at "ea") rfl ⟨p, t, b, l, b', rfl, hok, ht, hsp l (List.mem_of_getElem? hq), hb, by omega, rfl⟩) (by simp; omega)) fun v7 H7 s7 l7 => ?_
    exact ⟨i1.trans s7, i2.trans s7, acc ++ b', v7, _, _, hab, by rw [List.map_append]; exact l7, rfl⟩
  · subst e7
    rw [List.length_map, List.take_length, hL] at ha
    cases ha
    exact ⟨_, rfl, qq _ _ i1 l4⟩
theorem c_Lgone_again_step {n k : Nat} (T : Tx mg) (D : Df K mg "_law_gone_again" s_Lgone_again ["_law_pattern_here", "_law_text_here", "_law_at", "_law_spans", "_law_base", "_law_done"]) (c_Lgone : C8.Cal P w K mg base k "_law_gone" (spL 5 (F_gone n)) []) (c_Lgone_again : C8.Cal P w K mg base k "_law_gone_again" (spL 6 (F_gone_again n)) []) :
    C8.Cal P w K mg base (k + 1) "_law_gone_again" (spL 6 (F_gone_again (n + 1))) [] := by
  refine df_mk D sc_Lgone_again spL.len fun f cdv A outer s H vs Q E hr h => ?_
  obtain ⟨ds, es, hn, hv, ⟨q, lo, hi, m, t, b, l, d, L, rfl, hok, ht, hsp, hL, hz, rfl⟩, qq⟩ := h
  obtain _ | @⟨x0, _, _, _, h0, _ | @⟨x1, _, _, _, h1, _ | @⟨x2, _, _, _, h2, _ | @⟨x3, _, _, _, h3, _ | @⟨x4, _, _, _, h4, _ | @⟨x5, _, _, _, h5, _ | _⟩⟩⟩⟩⟩⟩ := hv
  refine ⟨_, (pss_cons (ps_set (i := 6) sc_Lgone_again.nd rfl (Or.inl rfl) (pe_lst pa_nil))
    (pss_cons (ps_if (PW.pt (pw_or (pt_cmpR op_isN (pe_ix (ix_tupK (K := K) rfl) (pv 0) pe_int (fun _ _ => rfl)) pe_non (nomark _)) (pw_or1 (pt_cmpR op_lt (pv 5) (pe_ix (ix_tupK (K := K) rfl) (pv 0) pe_int (fun _ _ => rfl)) (nomark _))))) (pss_one (ps_for PassesOwn.never rfl (pi_listK (K := K) rfl (C8.pe_c c_Lgone hr (by omega) rfl (pa_cons (pe_ix (ix_tupK (K := K) rfl) (pv 0) pe_int (fun _ _ => rfl)) (pa_cons (pv 1) (pa_cons (pv 2) (pa_cons (pv 3) (pa_cons (pv 4) pa_nil))))))) (pg_tupK (K := K) (n := 2) rfl rfl (pgs_cons (pg_name (i := 7) sc_Lgone_again.nd rfl (Or.inl rfl)) (pgs_cons (pg_name (i := 8) sc_Lgone_again.nd rfl (Or.inl rfl)) pgs_nil))) (pss_one (ps_if (PW.pt (pw_or (pt_cmpR op_gt (pv 7) (pv 2) (nomark _)) (pw_or1 (pt_cmpR op_lt (pv 5) (pe_ix (ix_tupK (K := K) rfl) (pv 0) pe_int (fun _ _ => rfl)) (nomark _))))) (pss_one (ps_set (i := 6) sc_Lgone_again.nd rfl (Or.inl rfl) (pe_op op_cat (pv 6) (C8.pe_c c_Lgone_again hr (by omega) rfl (pa_cons (pv 0) (pa_cons (pv 1) (pa_cons (pv 7) (pa_cons (pv 8) (pa_cons (pv 4) (pa_cons (pe_op op_add (pv 5) pe_int) pa_nil)))))))))) pss_nil)))) pss_nil)
    (pss_cons (ps_set (i := 9) sc_Lgone_again.nd rfl (Or.inl rfl) (pe_ifExp (pt_cmpR op_ge (pv 5) (pe_ix (ix_tupK (K := K) rfl) (pv 0) pe_int (fun _ _ => rfl)) (nomark _)) (pe_lst (pa_cons (pe_tup (pa_cons (pv 2) (pa_cons (pv 3) pa_nil))) pa_nil)) (pe_lst pa_nil)))
    (pss_one (ps_ret (pe_ifExp (pt_cmpR op_eq (pe_ix (ix_tupK (K := K) rfl) (pv 0) pe_int (fun _ _ => rfl)) pe_str (nomark _)) (pe_op op_cat (pv 6) (pv 9)) (pe_op op_cat (pv 9) (pv 6)))))))), ?_⟩
  rw [againF] at hL
  obtain ⟨g, hg, hL⟩ := Option.bind_eq_some_iff.mp hL
  cases hL
  have hglen : g.length ≤ 10000000 := by split at hz <;> simp at hz <;> omega
  have h0' := h0
  rw [enc] at h0'
  refine sq_setL (EN.el (en_lst ea_nil (Nat.zero_le _))) fun v6 H1 s1 l6 => ?_
  /- behind the turns -/
  have rest : ∀ (H2 : Hp) (vg : V) (v7 v8 : Option V), Same H H2 → Lp H2 vg (g.map encLot) → tSeq (tAsg (tIf (tTest (tOp (rI0 fun i j => .bl (decide (j ≤ i))) (tVar 5) (tOp (rIxT K) (tVar 0) (tC (.int 2))))) (tLst (tCons (tTup (tCons (tVar 2) (tCons (tVar 3) tNil))) tNil)) (tLst tNil)) (gName 9))
      (tRet (tIf (tTest (tOp rEq (tOp (rIxT K) (tVar 0) (tC (.int 4))) (tC (.str "many")))) (tOp rCat (tVar 6) (tVar 9)) (tOp rCat (tVar 9) (tVar 6)))) { nx := fun _ H' => Q .non H', rt := Q } [some x0, some x1, some x2, some x3, some x4, some x5, some vg, v7, v8, none] H2 := fun H2 vg v7 v8 s2 lg => by
    have k0 := h0'.mono (tle s2)
    have k2 := h2.mono (tle s2)
    have k3 := h3.mono (tle s2)
    have k5 := h5.mono (tle s2)
    clear h0 h0' h1 h2 h3 h4 h5 s1 l6
    have fin : ∀ (H3 : Hp) (v9 : V), Same H H3 → Lp H3 v9 ((if lo ≤ d then [l] else []).map encLot) → Lp H3 vg (g.map encLot) → Tp H3 x0 (.tuple [.str "again", enc q, .int (lo : Nat), encHi hi, encWay m]) → tRet (tIf (tTest (tOp rEq (tOp (rIxT K) (tVar 0) (tC (.int 4))) (tC (.str "many")))) (tOp rCat (tVar 6) (tVar 9)) (tOp rCat (tVar 9) (tVar 6))) { nx := fun _ H' => Q .non H', rt := Q } [some x0, some x1, some x2, some x3, some x4, some x5, some vg, v7, v8, some v9] H3 := fun H3 v9 s3 l9 lg3 k0 => by
      have hs1 : (if lo ≤ d then [l] else []).length ≤ 1 := by split <;> simp
      cases m with
      | true =>
        rw [show encWay true = .str "many" from rfl] at k0
        exact st_retL (el_ifT (eb_test (et_eqS (x := "many") (y := "many") (et_ix (et_var rfl k0) et_int rfl) et_str)) (by rfl) (el_cat (ds := g.map encLot) (by walk_at "el") (by walk_at "el") (by rw [List.length_map, List.length_map]; omega))) fun v H' s l' => qq v H' (s3.trans s) (by simpa using l')
      | false =>
        rw [show encWay false = .str "few" from rfl] at k0
        exact st_retL (el_ifF (eb_test (et_eqS (x := "few") (y := "many") (et_ix (et_var rfl k0) et_int rfl) et_str)) (by rfl) (el_cat (es := g.map encLot) (by walk_at "el") (by walk_at "el") (by rw [List.length_map, List.length_map]; omega))) fun v H' s l' => qq v H' (s3.trans s) (by simpa using l')
    by_cases c : lo ≤ d
    · rw [if_pos c] at fin
      refine sq_setL (el_ifT (eb_test (et_ge (i := (d : Int)) (j := (lo : Int)) (by walk_at "et") (by walk_at "et"))) (decide_eq_true (by omega)) (EN.el (en_lst (ds := [encLot l]) (ea_cons (et_tup (by walk_at "ea") (by simp)) ea_nil) (by simp)))) fun v9 H3 s3 l9 => ?_
      exact fin H3 v9 (s2.trans s3) l9 (lg.mono s3) (k0.mono (tle s3))
    · rw [if_neg c] at fin
      refine sq_setL (el_ifF (eb_test (et_ge (i := (d : Int)) (j := (lo : Int)) (by walk_at "et") (by walk_at "et"))) (decide_eq_false (by omega)) (EN.el (en_lst ea_nil (by simp)))) fun v9 H3 s3 l9 => ?_
      exact fin H3 v9 (s2.trans s3) l9 (lg.mono s3) (k0.mono (tle s3))
  have tst : EB (tOr (tTest (tOp (fun x y H Q => y = .non ∧ Q (.bl (decide (x = .non))) H) (tOp (rIxT K) (tVar 0) (tC (.int 3))) (tC .non))) (tTest (tOp (rI0 fun i j => .bl (decide (i < j))) (tVar 5) (tOp (rIxT K) (tVar 0) (tC (.int 3)))))) [some x0, some x1, some x2, some x3, some x4, some x5, some v6, none, none, none] H1 (goOn hi d) := by
    have k0 := h0'.mono (tle s1)
    have k5 := h5.mono (tle s1)
    clear h0 h0'
    cases hi with
    | none =>
      rw [show encHi .none = .none from rfl] at k0
      exact eb_orT (by walk_at "eb") (by rfl)
    | some h =>
      rw [show encHi (some h) = .int (h : Nat) from rfl] at k0
      refine EB.to (eb_orF (by walk_at "eb") (by rfl) (by walk_at "eb")) ?_
      simp [goOn]
  by_cases cg : goOn hi d = true
  · rw [if_pos cg] at hg
    obtain ⟨u, hu, hg⟩ := Option.bind_eq_some_iff.mp hg
    obtain ⟨hu, hul⟩ := capF_some.mp hu
    rw [cg] at tst
    refine st_ifT tst fun H2 s2 => ?_
    have spl := goneF_len n _ _ _ _ _ hu
    have a0 := (h0.mono (tle s1)).mono (tle s2)
    have a0' := (h0'.mono (tle s1)).mono (tle s2)
    have a1 := (h1.mono (tle s1)).mono (tle s2)
    have a2 := (h2.mono (tle s1)).mono (tle s2)
    have a3 := (h3.mono (tle s1)).mono (tle s2)
    have a4 := (h4.mono (tle s1)).mono (tle s2)
    have a5 := (h5.mono (tle s1)).mono (tle s2)
    have s12 : Same H H2 ∧ True := ⟨s1.trans s2, trivial⟩
    have l6' := l6.mono s2
    clear h0 h0' h1 h2 h3 h4 h5 l6 tst s1 s2
    refine sq_forL (ds := u.map encLot) (el_call (F := F_gone n) (ds := [enc q, .str t, .int (l.1 : Nat), .tuple l.2, .int (b : Nat)]) (ea_cons (et_ix (et_var rfl a0') et_int atI_1) (by walk_at "ea")) rfl ⟨q, t, b, l, u, rfl, okP_le (show okP 18 q = true from hok) (by decide), ht, hsp, hu, hul, rfl⟩) fun pu xu H3 s3 hpu tu =>
      ⟨fun i σ' H' => Same H2 H' ∧ Same H3 H' ∧ ∃ (acc : List Lot) (v6 : V) (v7 v8 : Option V), catO (fun x => if l.1 < x.1 ∨ d < lo then againF n t.cps.toList q lo hi m b x (d + 1) else some []) (u.take i) = some acc ∧ Lp H' v6 (acc.map encLot) ∧
        σ' = [some x0, some x1, some x2, some x3, some x4, some x5, some v6, v7, v8, none], ⟨s3, Same.refl _, [], v6, none, none, rfl, l6'.mono s3, rfl⟩, fun i σ' H' h => ⟨tle h.2.1, h.2.1 _ _ hpu⟩, fun i dd v σ' H' hd ⟨i1, i2, acc, v6, v7, v8, ha, l6, e7⟩ rv => ?_, fun σ' H' ⟨i1, i2, acc, v6, v7, v8, ha, l6, e7⟩ => ?_⟩
    · subst e7
      obtain ⟨x, hq, rfl⟩ := encLot_get hd
      obtain ⟨a, b', c', ha', hb, hab, hLe⟩ := catO_at hg hq
      rw [ha] at ha'
      cases ha'
      have hz' : acc.length + b'.length ≤ 10000000 := by rw [hLe] at hglen; simp at hglen; omega
      have g0 := a0.mono (tle i1)
      have g0' := a0'.mono (tle i1)
      have g1 := a1.mono (tle i1)
      have g2 := a2.mono (tle i1)
      have g4 := a4.mono (tle i1)
      have g5 := a5.mono (tle i1)
      clear a0 a0' a1 a2 a3 a4 a5
      unfold encLot at rv
      obtain ⟨a, ys, rfl, hya, ry⟩ := rv.tuple_inv
      obtain _ | @⟨w1, _, _, _, y1, _ | @⟨w2, _, _, _, y2, _ | _⟩⟩ := ry
      refine ⟨a, _, rfl, SqT.of hya, rfl, _, _, rfl, _, _, rfl, rfl, ?_⟩
      have tst2 : EB (tOr (tTest (tOp (rI0 fun i j => .bl (decide (j < i))) (tVar 7) (tVar 2))) (tTest (tOp (rI0 fun i j => .bl (decide (i < j))) (tVar 5) (tOp (rIxT K) (tVar 0) (tC (.int 2)))))) [some x0, some x1, some x2, some x3, some x4, some x5, some v6, some w1, some w2, none] H' (decide (l.1 < x.1 ∨ d < lo)) := by
        refine EB.to (eb_or (eb_test (et_gt (i := (x.1 : Int)) (j := (l.1 : Int)) (by walk_at "et") (by walk_at "et"))) fun _ => eb_test (et_lt (i := (d : Int)) (j := (lo : Int)) (by walk_at "et") (et_ix (et_var rfl g0') et_int rfl))) ?_
        simp only [Bool.decide_or, Int.ofNat_lt]
      by_cases c : l.1 < x.1 ∨ d < lo
      · rw [if_pos c] at hb
        rw [decide_eq_true c] at tst2
        refine st_ifT tst2 fun H6 s6 => ?_
        have e1 : x.2.length ≤ 1000 := by rw [spl x (List.mem_of_getElem? hq)]; exact hsp
        refine st_setL (i := 6) (σ := [some x0, some x1, some x2, some x3, some x4, some x5, some v6, some w1, some w2, none]) (el_cat (by walk_at "el") (el_call (F := F_gone_again n) (ea_cons (et_var rfl (g0.mono (tle s6))) (ea_cons (by walk_at "et") (ea_cons (by walk_at "et") (ea_cons (by walk_at "et") (ea_cons (by walk_at "et") (ea_cons (et_add (et_var rfl (g5.mono (tle s6))) et_int) ea_nil)))))) rfl ⟨q, lo, hi, m, t, b, x, d + 1, b', rfl, hok, ht, e1, hb, by omega, rfl⟩) (by simp; omega)) fun v7 H7 s7 l7 => ?_
        exact ⟨(i1.trans s6).trans s7, (i2.trans s6).trans s7, acc ++ b', v7, _, _, hab, by rw [List.map_append]; exact l7, rfl⟩
      · rw [if_neg c] at hb
        cases hb
        rw [decide_eq_false c] at tst2
        rw [List.append_nil] at hab
        exact st_ifF tst2 fun H6 s6 => ⟨i1.trans s6, i2.trans s6, acc, v6, _, _, hab, l6.mono s6, rfl⟩
    · subst e7
      rw [List.length_map, List.take_length, hg] at ha
      cases ha
      exact rest H' v6 v7 v8 (s12.1.trans i1) l6
  · rw [if_neg cg] at hg
    cases hg
    rw [show goOn hi d = false by simpa using cg] at tst
    exact sq_no tst rfl fun H2 s2 => rest H2 v6 none none (s1.trans s2) (l6.mono s2)
end
end

section

theorem el_gall {n : Nat} {E : XK} {σ : L2.St} {H : Hp} {ta tb tc td : TE} {p : Pat} {t : Str} {b : Nat} {lots L : List Lot} (h0 : ET ta σ H (enc p)) (h1 : ET tb σ H (.str t)) (hl : EL tc σ H (lots.map encLot)) (h3 : ET td σ H (.int (b : Nat))) (hok : okP 19 p = true) (ht : t.length ≤ 1000000) (hsp : ∀ l ∈ lots, l.2.length ≤ 1000)
    (hL : catO (fun l => goneF n t.cps.toList p b l) lots = some L) (hz : L.length ≤ 10000000) : EL (tCall (sp_gall n) [] E (tCons ta (tCons tb (tCons tc (tCons td tNil))))) σ H (L.map encLot) := fun H1 a Q q =>
  h0 H1 a _ fun v0 H2 s2 r0 => h1 H2 (a.trans s2) _ fun v1 H3 s3 r1 => hl H3 ((a.trans s2).trans s3) _ fun v2 H4 s4 l2 => h3 H4 (((a.trans s2).trans s3).trans s4) _ fun v3 H5 s5 r3 =>
    ⟨p, t, b, lots, L, v0, v1, v2, v3, rfl, ((r0.mono (tle s3)).mono (tle s4)).mono (tle s5), (r1.mono (tle s4)).mono (tle s5), l2.mono s5, r3, hok, ht, hsp, hL, hz, fun v' H' s' l' => q v' H' ((((s2.trans s3).trans s4).trans s5).trans s') l'⟩
section
variable {P : Program} {w : World} {K : PySem.W.Frag} {mg : Str → Option Value} {base : Heap}
theorem c_Lgone_step {n k : Nat} (hk : 21 ≤ k) (T : Tx mg) (D : Df K mg "_law_gone" s_Lgone ["_law_pattern_here", "_law_text_here", "_law_at", "_law_spans", "_law_base"]) (c_Lgone : C8.Cal P w K mg base k "_law_gone" (spL 5 (F_gone n)) []) (c_Lgone_again : C8.Cal P w K mg base k "_law_gone_again" (spL 6 (F_gone_again n)) [])
    (c_Lgone_all : C8.Cal P w K mg base (k + 1) "_law_gone_all" (sp_gall n) []) (c_Lwith : C8.Cal P w K mg base 1 "_law_with" (spT 3 F_marked) []) (c_Lgroups : C8.Cal P w K mg base 20 "_law_groups" (spT 1 F_groups_of) []) :
    C8.Cal P w K mg base (k + 2) "_law_gone" (spL 5 (F_gone (n + 1))) [] := by
  refine df_mk D sc_Lgone spL.len fun f cdv A outer s H vs Q E hr h => ?_
  obtain ⟨ds, es, hn, hv, ⟨p, t, b, l, L, rfl, hok, ht, hsp, hL, hz, rfl⟩, qq⟩ := h
  obtain _ | @⟨x0, _, _, _, h0, _ | @⟨x1, _, _, _, h1, _ | @⟨x2, _, _, _, h2, _ | @⟨x3, _, _, _, h3, _ | @⟨x4, _, _, _, h4, _ | _⟩⟩⟩⟩⟩ := hv
  refine ⟨_, (pss_cons (ps_set (i := 5) sc_Lgone.nd rfl (Or.inl rfl) (pe_ix (ix_tupK (K := K) rfl) (pv 0) pe_int (fun _ _ => rfl)))
    (pss_cons (ps_if (pt_cmpR (op_in_seqK (K := K) rfl) (pv 5) (pe_tup (pa_cons pe_str (pa_cons pe_str pa_nil))) rfl) (pss_one (ps_ret (pe_ifExp (pt_cmpR op_eq (pv 5) pe_str (nomark _)) (pe_lst pa_nil) (pe_lst (pa_cons (pe_tup (pa_cons (pv 2) (pa_cons (pv 3) pa_nil))) pa_nil))))) pss_nil)
    (pss_cons (ps_if (pt_cmpR op_eq (pv 5) pe_str (nomark _)) (pss_one (ps_ret (pe_ifExp (PW.pt (pw_and (pt_cmpR op_lt (pv 2) (pe_callB call_len_str rfl T.m_len PySem.boot_len (pa_cons (pv 1) pa_nil)) (nomark _)) (pw_and1 (pt_cmpR op_inS (pe_ix ix_str (pv 1) (pv 2) (fun _ _ => rfl)) (pe_ix (ix_tupK (K := K) rfl) (pv 0) pe_int (fun _ _ => rfl)) rfl)))) (pe_lst (pa_cons (pe_tup (pa_cons (pe_op op_add (pv 2) pe_int) (pa_cons (pv 3) pa_nil))) pa_nil)) (pe_lst pa_nil)))) pss_nil)
    (pss_cons (ps_if (pt_cmpR op_eq (pv 5) pe_str (nomark _)) (pss_cons (ps_set (i := 6) sc_Lgone.nd rfl (Or.inl rfl) (pe_lst pa_nil))
    (pss_cons (ps_for PassesOwn.never rfl (pi_listK (K := K) rfl (C8.pe_c c_Lgone hr (by omega) rfl (pa_cons (pe_ix (ix_tupK (K := K) rfl) (pv 0) pe_int (fun _ _ => rfl)) (pa_cons (pv 1) (pa_cons (pv 2) (pa_cons (pv 3) (pa_cons (pe_op op_add (pv 4) pe_int) pa_nil))))))) (pg_tupK (K := K) (n := 2) rfl rfl (pgs_cons (pg_name (i := 7) sc_Lgone.nd rfl (Or.inl rfl)) (pgs_cons (pg_name (i := 8) sc_Lgone.nd rfl (Or.inl rfl)) pgs_nil))) (pss_one (ps_expr (pe_bm PySem.F.plainAttrs_list PySem.F.slot_list_append PySem.F.type_list_append mt_append (pv 6) (pa_cons (pe_tup (pa_cons (pv 7) (pa_cons (C8.pe_c c_Lwith hr (by omega) rfl (pa_cons (pv 8) (pa_cons (pv 4) (pa_cons (pe_tup (pa_cons (pv 2) (pa_cons (pv 7) pa_nil))) pa_nil)))) pa_nil))) pa_nil)))))
    (pss_one (ps_ret (pv 6))))) pss_nil)
    (pss_cons (ps_if (pt_cmpR op_eq (pv 5) pe_str (nomark _)) (pss_one (ps_ret (C8.pe_c c_Lgone_again hr (by omega) rfl (pa_cons (pv 0) (pa_cons (pv 1) (pa_cons (pv 2) (pa_cons (pv 3) (pa_cons (pv 4) (pa_cons pe_int pa_nil))))))))) pss_nil)
    (pss_cons (ps_set (i := 9) sc_Lgone.nd rfl (Or.inl rfl) (pe_lst (pa_cons (pe_tup (pa_cons (pv 2) (pa_cons (pv 3) pa_nil))) pa_nil)))
    (pss_cons (ps_set (i := 6) sc_Lgone.nd rfl (Or.inl rfl) (pe_lst pa_nil))
    (pss_cons (ps_for PassesOwn.never rfl (pi_tupK (K := K) rfl (pe_slice (sl_tupK (K := K) rfl) (pv 0) (po_some pe_int) po_none)) (pg_name (i := 10) sc_Lgone.nd rfl (Or.inl rfl)) (pss_cons (ps_if (pt_cmpR op_eq (pv 5) pe_str (nomark _)) (pss_one (ps_set (i := 6) sc_Lgone.nd rfl (Or.inl rfl) (pe_op op_cat (pv 6) (C8.pe_c c_Lgone hr (by omega) rfl (pa_cons (pv 10) (pa_cons (pv 1) (pa_cons (pv 2) (pa_cons (pv 3) (pa_cons (pv 4) pa_nil))))))))) (pss_one (ps_set (i := 9) sc_Lgone.nd rfl (Or.inl rfl) (C8.pe_c c_Lgone_all hr (by omega) rfl (pa_cons (pv 10) (pa_cons (pv 1) (pa_cons (pv 9) (pa_cons (pv 4) pa_nil))))))))
    (pss_one (ps_set (i := 4) sc_Lgone.nd rfl (Or.inl rfl) (pe_op op_add (pv 4) (C8.pe_c c_Lgroups hr (by omega) rfl (pa_cons (pv 10) pa_nil)))))))
    (pss_one (ps_ret (pe_ifExp (pt_cmpR op_eq (pv 5) pe_str (nomark _)) (pv 6) (pv 9)))))))))))), ?_⟩
  cases p with
  | none =>
    rw [goneF] at hL
    cases hL
    rw [enc] at h0
    refine sq_set (by walk_at "et") fun v5 H1 s1 r5 => ?_
    refine sq_yes (by walk_at "eb") (by decide) fun H2 s2 => ?_
    exact st_retL (el_ifT (by walk_at "eb") (by rfl) (by walk_at "el")) fun v H' s l => qq v H' (by walk_at "sm") (by exact l)
  | empty =>
    rw [goneF] at hL
    cases hL
    rw [enc] at h0
    refine sq_set (by walk_at "et") fun v5 H1 s1 r5 => ?_
    refine sq_yes (by walk_at "eb") (by decide) fun H2 s2 => ?_
    exact st_retL (el_ifF (by walk_at "eb") (by rfl) (EN.el (en_lst (ds := [encLot l]) (ea_cons (et_tup (by walk_at "ea") (by simp)) ea_nil) (by simp)))) fun v H' s l => qq v H' (by walk_at "sm") (by exact l)
  | one z =>
    rw [goneF] at hL
    cases hL
    rw [enc] at h0
    refine sq_set (by walk_at "et") fun v5 H1 s1 r5 => ?_
    refine sq_no (by walk_at "eb") (by decide) fun H2 s2 => ?_
    refine sq_yes (by walk_at "eb") (by decide) fun H3 s3 => ?_
    have hle : t.length = t.cps.toList.length := by rw [Array.length_toList]; rfl
    cases e : t.cps.toList[l.1]? with
    | none =>
      have hge : t.length ≤ l.1 := by rw [hle]; exact List.getElem?_eq_none_iff.mp e
      exact st_retL (el_ifF (eb_andF (eb_test (et_lt (i := (l.1 : Int)) (j := (t.length : Nat)) (by walk_at "et") (et_lenS (by walk_at "et") (by omega)))) (decide_eq_false (by omega))) rfl (by walk_at "el")) fun v H' s l' => qq v H' (by walk_at "sm") (by rw [e]; exact l')
    | some c =>
      have hlt : l.1 < t.length := by rw [hle]; exact (List.getElem?_eq_some_iff.mp e).1
      have tst : EB _ [some x0, some x1, some x2, some x3, some x4, some v5, none, none, none, none, none] H3 _ := eb_andT (eb_test (et_lt (ta := tVar 2) (tb := tCB (fun xs H Q => ∃ z, xs = [.str z] ∧ z.length ≤ sizeLine ∧ Q (.int z.length) H) (tCons (tVar 1) tNil)) (i := (l.1 : Int)) (j := (t.length : Nat)) (by walk_at "et") (et_lenS (by walk_at "et") (by omega)))) (decide_eq_true (by omega)) (eb_test (et_inSg (ta := tOp rIxS (tVar 1) (tVar 2)) (tb := tOp (rIxT K) (tVar 0) (tC (.int 1))) (c := c) (z := z) (et_ixS (z := t) (i := (l.1 : Int)) (by walk_at "et") (by walk_at "et") (by omega) (atI_nat e)) (by walk_at "et")))
      by_cases hc : c ∈ z.cps.toList
      · exact st_retL (el_ifT tst (decide_eq_true hc) (EN.el (en_lst (ds := [encLot (l.1 + 1, l.2)]) (ea_cons (et_tup (ea_cons (et_add (et_var rfl (((h2.mono (tle s1)).mono (tle s2)).mono (tle s3))) et_int) (by walk_at "ea")) (by simp)) ea_nil) (by simp)))) fun v H' s l' => qq v H' (by walk_at "sm") (by rw [e]; simp only [if_pos hc]; exact l')
      · exact st_retL (el_ifF tst (decide_eq_false hc) (by walk_at "el")) fun v H' s l' => qq v H' (by walk_at "sm") (by rw [e]; simp only [if_neg hc]; exact l')
  | again q lo hi m =>
    rw [goneF] at hL
    have h0' := h0
    rw [enc] at h0'
    refine sq_set (et_ix (et_var rfl h0') et_int atI_0) fun v5 H1 s1 r5 => ?_
    clear h0'
    refine sq_no (by walk_at "eb") (by decide) fun H2 s2 => ?_
    refine sq_no (by walk_at "eb") (by decide) fun H3 s3 => ?_
    refine sq_no (by walk_at "eb") (by decide) fun H4 s4 => ?_
    refine sq_yes (by walk_at "eb") (by decide) fun H5 s5 => ?_
    exact st_retL (el_call (F := F_gone_again n) (ea_cons (by walk_at "et") (ea_cons (by walk_at "et") (ea_cons (by walk_at "et") (ea_cons (by walk_at "et") (ea_cons (by walk_at "et") (ea_cons et_int ea_nil)))))) rfl ⟨q, lo, hi, m, t, b, l, 0, L, rfl, hok, ht, hsp, hL, hz, rfl⟩) fun v H' s l => qq v H' (by walk_at "sm") l
  | group q g =>
    have hv' : ∃ r, Tp H x0 (.tuple (.str "group" :: enc q :: r)) := by
      cases g
      · exact ⟨_, by simpa [enc] using h0⟩
      · exact ⟨_, by simpa [enc] using h0⟩
    clear h0
    obtain ⟨r, h0⟩ := hv'
    rw [goneF] at hL
    by_cases hb : l.2.length ≤ b
    · rw [if_pos hb] at hL; cases hL
    rw [if_neg hb] at hL
    obtain ⟨u, hu, hL⟩ := Option.bind_eq_some_iff.mp hL
    cases hL
    obtain ⟨hu, hul⟩ := capF_some.mp hu
    have spl := goneF_len n _ _ _ _ _ hu
    refine sq_set (by walk_at "et") fun v5 H1 s1 r5 => ?_
    refine sq_no (by walk_at "eb") (by decide) fun H2 s2 => ?_
    refine sq_no (by walk_at "eb") (by decide) fun H3 s3 => ?_
    refine sq_yes (by walk_at "eb") (by decide) fun H4 s4 => ?_
    have a0 := (((h0.mono (tle s1)).mono (tle s2)).mono (tle s3)).mono (tle s4)
    have a1 := (((h1.mono (tle s1)).mono (tle s2)).mono (tle s3)).mono (tle s4)
    have a2 := (((h2.mono (tle s1)).mono (tle s2)).mono (tle s3)).mono (tle s4)
    have a3 := (((h3.mono (tle s1)).mono (tle s2)).mono (tle s3)).mono (tle s4)
    have a4 := (((h4.mono (tle s1)).mono (tle s2)).mono (tle s3)).mono (tle s4)
    have s14 : Same H H4 ∧ True := ⟨((s1.trans s2).trans s3).trans s4, trivial⟩
    clear h0 h1 h2 h3 h4 s1 s2 s3 s4 r5
    refine sq_setN (en_lst ea_nil (Nat.zero_le _)) fun pl xs H5 hpl s5 hl5 t5 => ?_
    have ex : xs = [] := by cases t5; rfl
    subst ex
    refine sq_forL (ds := u.map encLot) (el_call (F := F_gone n) (ds := [enc q, .str t, .int (l.1 : Nat), .tuple l.2, .int ((b + 1 : Nat) : Int)]) (ea_cons (by walk_at "et") (ea_cons (by walk_at "et") (ea_cons (by walk_at "et") (ea_cons (by walk_at "et") (ea_cons (et_add (et_var rfl (a4.mono (tle s5))) et_int) ea_nil))))) rfl ⟨q, t, b + 1, l, u, rfl, okP_le (show okP 18 q = true from hok) (by decide), ht, hsp, hu, hul, rfl⟩) fun pu xu H6 s6 hpu tu =>
      ⟨fun i σ' H' => Same H4 H' ∧ TLe H6 H' ∧ H' pu = some (.lst xu) ∧ (∃ ys : List V, H' pl = some (.lst ys) ∧ TpA H' ys (((u.take i).map fun x => (x.1, x.2.set b (.tuple [.int (l.1 : Nat), .int (x.1 : Nat)]))).map encLot)) ∧
        ∃ v7 v8, σ' = [some x0, some x1, some x2, some x3, some x4, some v5, some (.ref pl), v7, v8, none, none], ⟨s5.trans s6, TLe.refl _, hpu, ⟨[], s6 _ _ hl5, .nil⟩, none, none, rfl⟩, fun i σ' H' h => ⟨h.2.1, h.2.2.1⟩, fun i dd v σ' H' hd ⟨i1, i2, i3, ⟨ys, hy, ty⟩, v7, v8, e7⟩ rv => ?_, fun σ' H' ⟨i1, i2, i3, ⟨ys, hy, ty⟩, v7, v8, e7⟩ => ?_⟩
    · subst e7
      obtain ⟨x, hq, rfl⟩ := encLot_get hd
      have hi : i < u.length := (List.getElem?_eq_some_iff.mp hq).1
      have npl : pu ≠ pl := ne_of (hpu) (s6 _ _ hl5) (fun e => by
        cases e
        have := tu.length
        rw [List.length_map] at this
        simp at this
        omega)
      have g2 := a2.mono (tle i1)
      have g4 := a4.mono (tle i1)
      unfold encLot at rv
      obtain ⟨a, zs, rfl, hya, ry⟩ := rv.tuple_inv
      obtain _ | @⟨w1, _, _, _, y1, _ | @⟨w2, _, _, _, y2, _ | _⟩⟩ := ry
      refine ⟨a, _, rfl, SqT.of hya, rfl, _, _, rfl, _, _, rfl, rfl, ?_⟩
      have e1 : x.2.length = l.2.length := spl x (List.mem_of_getElem? hq)
      refine st_append (d := encLot (x.1, x.2.set b (.tuple [.int (l.1 : Nat), .int (x.1 : Nat)]))) (σ := [some x0, some x1, some x2, some x3, some x4, some v5, some (.ref pl), some w1, some w2, none, none]) rfl hy ty (et_tup (ea_cons (by walk_at "et") (ea_cons (et_call (F := F_marked) (ea_cons (by walk_at "et") (ea_cons (by walk_at "et") (ea_cons (et_tup (by walk_at "ea") (by simp)) ea_nil))) rfl ⟨x.2, b, .tuple [.int (l.1 : Nat), .int (x.1 : Nat)], rfl, by omega, by omega, rfl⟩) ea_nil)) (by simp)) (by simp; omega) fun xs' H7 s7 hp7 t7 => ?_
      refine ⟨same_mut (i1.trans s7) hpl, (i2.trans (tle s7)).trans (tle_lst hp7), by rw [upd_ne npl]; exact s7 _ _ i3, ⟨xs', upd_same, ?_⟩, _, _, rfl⟩
      rw [take_succ hq, List.map_append, List.map_append]
      exact t7
    · subst e7
      rw [List.length_map, List.take_length] at ty
      exact ⟨_, rfl, qq _ _ (s14.1.trans i1) ⟨pl, ys, rfl, hy, ty⟩⟩
  | any ps =>
    rw [goneF] at hL
    rw [enc] at h0
    simp only [okP, Bool.and_eq_true, List.all_eq_true, decide_eq_true_eq] at hok
    refine sq_set (by walk_at "et") fun v5 H1 s1 r5 => ?_
    iterate 4 (refine sq_no (by walk_at "eb") (by decide) fun _ _ => ?_)
    refine sq_setL (EN.el (en_lst (ds := [encLot l]) (ea_cons (et_tup (by walk_at "ea") (by simp)) ea_nil) (by simp))) fun v9 H2 s2 l9 => ?_
    refine sq_setL (EN.el (en_lst ea_nil (by simp))) fun v6 H3 s3 l6 => ?_
    have s03 : Same H H3 ∧ True := ⟨by walk_at "sm", trivial⟩
    have a0 := h0.mono (tle s03.1)
    have a1 := h1.mono (tle s03.1)
    have a2 := h2.mono (tle s03.1)
    have a3 := h3.mono (tle s03.1)
    have a4 := h4.mono (tle s03.1)
    have a5 : Tp H3 v5 (.str "any") := by walk_at "tp"
    have l9' := l9.mono s3
    clear h0 h1 h2 h3 h4 r5 l9 s1 s2 s3
    have elen : (encs ps).length = ps.length := by rw [encs_map, List.length_map]
    refine sq_forT (ds := encs ps) (ET.to (et_sl (et_var rfl a0) (eo_some et_int) eo_none) (by rw [cut1])) fun H4 s4 => ⟨fun i σ' H' => Same H3 H' ∧ TLe H4 H' ∧ ∃ (acc rest : List Lot) (v4 v6 : V) (v10 : Option V) (bi : Nat), anyG (fun q b => goneF n t.cps.toList q b l) (ps.drop i) bi = some rest ∧ L = acc ++ rest ∧ Lp H' v6 (acc.map encLot) ∧ Tp H' v4 (.int (bi : Nat)) ∧
      σ' = [some x0, some x1, some x2, some x3, some v4, some v5, some v6, none, none, some v9, v10], ⟨s4, TLe.refl _, [], L, x4, v6, none, b, hL, rfl, l6.mono s4, a4.mono (tle s4), rfl⟩, fun i σ' H' h => h.2.1, fun i d v σ' H' hd ⟨i1, i2, acc, rest, v4, v6, v10, bi, hr', hLe, l6, r4, e7⟩ rv => ?_, fun σ' H' ⟨i1, i2, acc, rest, v4, v6, v10, bi, hr', hLe, l6, r4, e7⟩ => ?_⟩
    · subst e7
      obtain ⟨q, hq, rfl⟩ := encs_get hd
      have hdr : ps.drop i = q :: ps.drop (i + 1) := by
        obtain ⟨hi, rfl⟩ := List.getElem?_eq_some_iff.mp hq
        exact List.drop_eq_getElem_cons hi
      rw [hdr] at hr'
      obtain ⟨u, hu, hr'⟩ := Option.bind_eq_some_iff.mp hr'
      obtain ⟨w', hw, hr'⟩ := Option.bind_eq_some_iff.mp hr'
      cases hr'
      have hlen : acc.length + u.length ≤ 10000000 := by rw [hLe] at hz; simp at hz; omega
      have g1 := a1.mono (tle i1)
      have g2 := a2.mono (tle i1)
      have g3 := a3.mono (tle i1)
      have g5 := a5.mono (tle i1)
      have okq : okP 19 q = true := okP_le (hok.2 q (List.mem_of_getElem? hq)) (by decide)
      clear a0 a1 a2 a3 a4 a5
      refine st_ifT (σ := [some x0, some x1, some x2, some x3, some v4, some v5, some v6, none, none, some v9, some v]) (EB.to (eb_test (et_eqS (x := "any") (y := "any") (by walk_at "et") et_str)) (by rfl)) fun H5 s5 => ?_
      refine st_setL (i := 6) (σ := [some x0, some x1, some x2, some x3, some v4, some v5, some v6, none, none, some v9, some v]) (el_cat (by walk_at "el") (el_call (F := F_gone n) (ea_cons (by walk_at "et") (ea_cons (by walk_at "et") (ea_cons (by walk_at "et") (ea_cons (by walk_at "et") (ea_cons (by walk_at "et") ea_nil))))) rfl ⟨q, t, bi, l, u, rfl, okq, ht, hsp, hu, by omega, rfl⟩) (by simp; omega)) fun v6' H6 s6 l6' => ?_
      refine st_set (i := 4) (σ := [some x0, some x1, some x2, some x3, some v4, some v5, some v6', none, none, some v9, some v]) (d := .int ((bi + groups q : Nat) : Int)) (ET.to (et_add (i := (bi : Int)) (j := (groups q : Nat)) (et_var rfl ((r4.mono (tle s5)).mono (tle s6))) (et_call (F := F_groups_of) (ea_cons (et_var rfl ((rv.mono (tle s5)).mono (tle s6))) ea_nil) rfl ⟨q, rfl, okq, rfl⟩)) (by rw [Int.natCast_add])) fun v4' H7 s7 r4' => ?_
      exact ⟨((i1.trans s5).trans s6).trans s7, ((i2.trans (tle s5)).trans (tle s6)).trans (tle s7), acc ++ u, w', v4', v6', _, bi + groups q, hw, by rw [hLe, List.append_assoc], by rw [List.map_append]; exact l6'.mono s7, r4', rfl⟩
    · subst e7
      rw [elen, List.drop_length] at hr'
      cases hr'
      rw [List.append_nil] at hLe
      subst hLe
      exact st_retL (σ := [some x0, some x1, some x2, some x3, some v4, some v5, some v6, none, none, some v9, v10]) (el_ifT (eb_test (et_eqS (x := "any") (y := "any") (et_var rfl (a5.mono (tle i1))) et_str)) (by rfl) (el_var rfl l6)) fun v H' s l' => qq v H' ((s03.1.trans i1).trans s) l'
  | row ps =>
    rw [goneF] at hL
    rw [enc] at h0
    simp only [okP, Bool.and_eq_true, List.all_eq_true, decide_eq_true_eq] at hok
    refine sq_set (by walk_at "et") fun v5 H1 s1 r5 => ?_
    iterate 4 (refine sq_no (by walk_at "eb") (by decide) fun _ _ => ?_)
    refine sq_setL (EN.el (en_lst (ds := [encLot l]) (ea_cons (et_tup (by walk_at "ea") (by simp)) ea_nil) (by simp))) fun v9 H2 s2 l9 => ?_
    refine sq_setL (EN.el (en_lst ea_nil (by simp))) fun v6 H3 s3 l6 => ?_
    have s03 : Same H H3 ∧ True := ⟨by walk_at "sm", trivial⟩
    have a0 := h0.mono (tle s03.1)
    have a1 := h1.mono (tle s03.1)
    have a2 := h2.mono (tle s03.1)
    have a3 := h3.mono (tle s03.1)
    have a4 := h4.mono (tle s03.1)
    have a5 : Tp H3 v5 (.str "row") := by walk_at "tp"
    have l9' := l9.mono s3
    clear h0 h1 h2 h3 h4 r5 l9 s1 s2 s3
    have elen : (encs ps).length = ps.length := by rw [encs_map, List.length_map]
    refine sq_forT (ds := encs ps) (ET.to (et_sl (et_var rfl a0) (eo_some et_int) eo_none) (by rw [cut1])) fun H4 s4 => ⟨fun i σ' H' => Same H3 H' ∧ TLe H4 H' ∧ ∃ (lots : List Lot) (v4 v9 : V) (v10 : Option V) (bi : Nat), rowG (fun q b x => goneF n t.cps.toList q b x) (ps.drop i) bi lots = some L ∧ (∀ x ∈ lots, x.2.length = l.2.length) ∧ lots.length ≤ 10000000 ∧ Lp H' v9 (lots.map encLot) ∧ Tp H' v4 (.int (bi : Nat)) ∧
      σ' = [some x0, some x1, some x2, some x3, some v4, some v5, some v6, none, none, some v9, v10], ⟨s4, TLe.refl _, [l], x4, v9, none, b, hL, (fun x hx => by rw [List.mem_singleton.mp hx]), (by simp), l9'.mono s4, a4.mono (tle s4), rfl⟩, fun i σ' H' h => h.2.1, fun i d v σ' H' hd ⟨i1, i2, lots, v4, v9, v10, bi, hr', hls, hlz, l9, r4, e7⟩ rv => ?_, fun σ' H' ⟨i1, i2, lots, v4, v9, v10, bi, hr', hls, hlz, l9, r4, e7⟩ => ?_⟩
    · subst e7
      obtain ⟨q, hq, rfl⟩ := encs_get hd
      have hdr : ps.drop i = q :: ps.drop (i + 1) := by
        obtain ⟨hi, rfl⟩ := List.getElem?_eq_some_iff.mp hq
        exact List.drop_eq_getElem_cons hi
      rw [hdr] at hr'
      obtain ⟨u, hu, hr'⟩ := Option.bind_eq_some_iff.mp hr'
      obtain ⟨hu, hul⟩ := capF_some.mp hu
      have g1 := a1.mono (tle i1)
      have g2 := a2.mono (tle i1)
      have g3 := a3.mono (tle i1)
      have g5 := a5.mono (tle i1)
      have okq : okP 19 q = true := okP_le (hok.2 q (List.mem_of_getElem? hq)) (by decide)
      have hus : ∀ x ∈ u, x.2.length = l.2.length := fun x hx => by
        obtain ⟨y, hy, l', hl', hm⟩ := catO_mem hu hx
        rw [goneF_len n _ _ _ _ _ hl' x hm, hls y hy]
      clear a0 a1 a2 a3 a4 a5
      refine st_ifF (σ := [some x0, some x1, some x2, some x3, some v4, some v5, some v6, none, none, some v9, some v]) (EB.to (eb_test (et_eqS (x := "row") (y := "any") (by walk_at "et") et_str)) (by rfl)) fun H5 s5 => ?_
      refine st_setL (i := 9) (σ := [some x0, some x1, some x2, some x3, some v4, some v5, some v6, none, none, some v9, some v]) (ds := u.map encLot) (el_gall (n := n) (p := q) (t := t) (b := bi) (lots := lots) (et_var rfl (rv.mono (tle s5))) (et_var rfl (g1.mono (tle s5))) (el_var rfl (l9.mono s5)) (et_var rfl (r4.mono (tle s5))) okq ht (fun x hx => by rw [hls x hx]; exact hsp) hu hul) fun v9' H6 s6 l9' => ?_
      refine st_set (i := 4) (σ := [some x0, some x1, some x2, some x3, some v4, some v5, some v6, none, none, some v9', some v]) (d := .int ((bi + groups q : Nat) : Int)) (ET.to (et_add (i := (bi : Int)) (j := (groups q : Nat)) (et_var rfl ((r4.mono (tle s5)).mono (tle s6))) (et_call (F := F_groups_of) (ea_cons (et_var rfl ((rv.mono (tle s5)).mono (tle s6))) ea_nil) rfl ⟨q, rfl, okq, rfl⟩)) (by rw [Int.natCast_add])) fun v4' H7 s7 r4' => ?_
      exact ⟨((i1.trans s5).trans s6).trans s7, ((i2.trans (tle s5)).trans (tle s6)).trans (tle s7), u, v4', v9', _, bi + groups q, hr', hus, hul, l9'.mono s7, r4', rfl⟩
    · subst e7
      rw [elen, List.drop_length] at hr'
      cases hr'
      exact st_retL (σ := [some x0, some x1, some x2, some x3, some v4, some v5, some v6, none, none, some v9, v10]) (el_ifF (eb_test (et_eqS (x := "row") (y := "any") (et_var rfl (a5.mono (tle i1))) et_str)) (by rfl) (el_var rfl l9)) fun v H' s l' => qq v H' ((s03.1.trans i1).trans s) l'
end
end

section

/-- all ways by the law's own recursion -/
def allG (p : Pat) (t : Str) : Option (List Lot) := goneF 100 t.cps.toList p 0 (0, List.replicate (groups p) .none)
def F_all_ways (ds es : List PyData) : Prop := ∃ (p : Pat) (t : Str) (L : List Lot), ds = [enc p, .str t] ∧ okP 19 p = true ∧ groups p ≤ 1000 ∧ t.length ≤ 1000000 ∧ allG p t = some L ∧ L.length ≤ 10000000 ∧ es = (L.filter fun l => decide (l.1 = t.length)).map fun l => .tuple l.2
theorem cal_up {P : Program} {w : World} {K : PySem.W.Frag} {mg : Str → Option Value} {base : Heap} {j k : Nat} {x : Str} {sp : Sp} {dvs : List V} (c : C8.Cal P w K mg base j x sp dvs) (h : j ≤ k) : C8.Cal P w K mg base k x sp dvs := by
  obtain ⟨f, fd, ps, ds, ⟨F1, F2⟩, r⟩ := c
  exact ⟨f, fd, ps, ds, ⟨F1, fun A outer s H args us vs Q E hr => F2 A outer s H args us vs Q E (hr.mono h)⟩, r⟩
section
variable {P : Program} {w : World} {K : PySem.W.Frag} {mg : Str → Option Value} {base : Heap}
theorem c_Lgone_alls (T : Tx mg) (D : Df K mg "_law_gone" s_Lgone ["_law_pattern_here", "_law_text_here", "_law_at", "_law_spans", "_law_base"]) (D2 : Df K mg "_law_gone_all" s_Lgone_all ["_law_part", "_law_text_here", "_law_lots", "_law_base"]) (D3 : Df K mg "_law_gone_again" s_Lgone_again ["_law_pattern_here", "_law_text_here", "_law_at", "_law_spans", "_law_base", "_law_done"])
    (c_Lwith : C8.Cal P w K mg base 1 "_law_with" (spT 3 F_marked) []) (c_Lgroups : C8.Cal P w K mg base 20 "_law_groups" (spT 1 F_groups_of) []) :
    ∀ n, C8.Cal P w K mg base (2 * n + 21) "_law_gone" (spL 5 (F_gone n)) [] ∧ C8.Cal P w K mg base (2 * n + 21) "_law_gone_again" (spL 6 (F_gone_again n)) []
  | 0 => by
    refine ⟨cal_none D fun vs H Q E h => ?_, cal_none D3 fun vs H Q E h => ?_⟩
    · obtain ⟨ds, es, _, _, ⟨p, t, b, l, L, _, _, _, _, hL, _⟩, _⟩ := h
      rw [goneF] at hL; cases hL
    · obtain ⟨ds, es, _, _, ⟨q, lo, hi, m, t, b, l, d, L, _, _, _, _, hL, _⟩, _⟩ := h
      rw [againF] at hL; cases hL
  | n + 1 => by
    obtain ⟨h1, h2⟩ := c_Lgone_alls T D D2 D3 c_Lwith c_Lgroups n
    exact ⟨c_Lgone_step (by omega) T D h1 h2 (c_Lgone_all T D2 h1) c_Lwith c_Lgroups, cal_up (c_Lgone_again_step T D3 h1 h2) (by omega)⟩
theorem c_Lall_ways (T : Tx mg) (D : Df K mg "_law_all_ways" s_Lall_ways ["_law_pattern_here", "_law_text_here"]) (c_Lgone : C8.Cal P w K mg base 221 "_law_gone" (spL 5 (F_gone 100)) []) (c_Lgroups : C8.Cal P w K mg base 20 "_law_groups" (spT 1 F_groups_of) []) : C8.Cal P w K mg base 222 "_law_all_ways" (spL 2 F_all_ways) [] := by
  refine df_mk D sc_Lall_ways spL.len fun f cdv A outer s H vs Q E hr h => ?_
  obtain ⟨ds, es, hn, hv, ⟨p, t, L, rfl, hok, hg, ht, hL, hz, rfl⟩, qq⟩ := h
  obtain _ | @⟨x0, _, _, _, h0, _ | @⟨x1, _, _, _, h1, _ | _⟩⟩ := hv
  refine ⟨_, (pss_cons (ps_set (i := 2) sc_Lall_ways.nd rfl (Or.inl rfl) (C8.pe_c c_Lgone hr (by omega) rfl (pa_cons (pv 0) (pa_cons (pv 1) (pa_cons pe_int (pa_cons (pe_op (op_repAK (K := K) rfl) (pe_tup (pa_cons pe_non pa_nil)) (C8.pe_c c_Lgroups hr (by omega) rfl (pa_cons (pv 0) pa_nil))) (pa_cons pe_int pa_nil)))))))
    (pss_one (ps_ret (pe_lc (own := [("_law_end", 3), ("_law_spans", 4)]) (g := gTup K 2 (gCons (gName 3) (gCons (gName 4) gNil))) rfl sc_Lall_ways.nd (pi_listK (K := K) rfl (pv 2)) (blkOk_by (N := ["_law_pattern_here", "_law_text_here", "_law_found", "_law_end", "_law_spans"]) (sc := C8.fnScope s_Lall_ways) (by decide +kernel)) (fun _ _ _ _ _ => (pg_tupK (K := K) (n := 2) rfl rfl (pgs_cons (pg_name (i := 3) sc_Lall_ways.nd rfl (Or.inl rfl)) (pgs_cons (pg_name (i := 4) sc_Lall_ways.nd rfl (Or.inl rfl)) pgs_nil)))) (fun _ _ _ _ _ => (pts_one (pt_cmpR op_eq (pv 3) (pe_callB call_len_str rfl T.m_len PySem.boot_len (pa_cons (pv 1) pa_nil)) (nomark _)))) (fun _ _ _ _ _ => (pv 4)))))), ?_⟩
  refine sq_setL (σ := [some x0, some x1, none, none, none]) (el_call (F := F_gone 100) (ea_cons (et_var rfl h0) (ea_cons (et_var rfl h1) (ea_cons et_int (ea_cons (et_rep (d := .none) (k := groups p) (et_tup (ea_cons et_non ea_nil) (by simp)) (et_call (F := F_groups_of) (ea_cons (et_var rfl h0) ea_nil) rfl ⟨p, rfl, hok, rfl⟩) hg) (ea_cons et_int ea_nil))))) rfl ⟨p, t, 0, (0, List.replicate (groups p) .none), L, rfl, hok, ht, by rw [List.length_replicate]; exact hg, hL, hz, rfl⟩) fun v2 H1 s1 l2 => ?_
  refine st_retL (σ := [some x0, some x1, some v2, none, none]) (EN.el (en_lcL L encLot (fun l => decide (l.1 = t.length)) (fun l => .tuple l.2) (el_var rfl l2) (by omega) fun l hl => lcT2 (by decide) (fun v1 v2 H2 s2 r1 r2 => ?_) fun _ v1 v2 H2 s2 r1 r2 => et_var rfl r2)) fun v H' s l => qq v H' (s1.trans s) l
  have e := et_eqI (ta := tVar 3) (tb := tCB (fun xs H Q => ∃ z, xs = [.str z] ∧ z.length ≤ sizeLine ∧ Q (.int z.length) H) (tCons (tVar 1) tNil)) (i := (l.1 : Int)) (j := (t.length : Nat)) (σ := (((wipe [some x0, some x1, some v2, none, none] [3, 4]).set 3 (some v1)).set 4 (some v2))) (H := H2) (et_var rfl r1) (et_lenS (et_var rfl ((h1.mono (tle s1)).mono (tle s2))) (by omega))
  refine EB.to (eb_test e) ?_
  simp only [Int.ofNat_inj]
end
end

section

abbrev s_Lcell_at : Stmt := topS 48
theorem sc_Lcell_at : FnScope ["_law_script", "_law_k"] ["_law_script", "_law_k"] (C8.fnScope s_Lcell_at) := C8.fnScope_by (by decide +kernel)
abbrev s_Ldraw : Stmt := topS 49
theorem sc_Ldraw : FnScope ["_law_cell", "_law_k", "_law_bound", "_law_primes"] ["_law_cell", "_law_k", "_law_bound"] (C8.fnScope s_Ldraw) := C8.fnScope_by (by decide +kernel)
abbrev s_Lnumber : Stmt := topS 50
theorem sc_Lnumber : FnScope ["_law_cell", "_law_k", "_law_bound", "_law_power", "_law_lap", "_law_remains", "_law_small"] ["_law_cell", "_law_k", "_law_bound"] (C8.fnScope s_Lnumber) := C8.fnScope_by (by decide +kernel)
section
variable {σ : L2.St} {H : Hp} {te ta tb : TE} {i j : Int} {D : Ends} {r : TS}
theorem et_mod (ha : ET ta σ H (.int i)) (hb : ET tb σ H (.int j)) (h : 0 < j) : ET (tOp (rI (fun _ j => 0 < j) fun i j => .int (i % j)) ta tb) σ H (.int (i % j)) := fun H1 a Q q =>
  ha H1 a _ fun v H2 s2 r2 => hb H2 (a.trans s2) _ fun w H3 s3 r3 => by
    cases r2.int_inv
    cases r3.int_inv
    exact ⟨i, j, rfl, rfl, h, q _ H3 (s2.trans s3) (.int _)⟩
theorem et_fdiv (ha : ET ta σ H (.int i)) (hb : ET tb σ H (.int j)) (h : CDivW i j) : ET (tOp (rI CDivW fun i j => .int (i / j)) ta tb) σ H (.int (i / j)) := fun H1 a Q q =>
  ha H1 a _ fun v H2 s2 r2 => hb H2 (a.trans s2) _ fun w H3 s3 r3 => by
    cases r2.int_inv
    cases r3.int_inv
    exact ⟨i, j, rfl, rfl, h, q _ H3 (s2.trans s3) (.int _)⟩
theorem et_powI (ha : ET ta σ H (.int i)) (hb : ET tb σ H (.int j)) (h : CPow i j) : ET (tOp (rI CPow fun i j => .int (i ^ j.toNat)) ta tb) σ H (.int (i ^ j.toNat)) := fun H1 a Q q =>
  ha H1 a _ fun v H2 s2 r2 => hb H2 (a.trans s2) _ fun w H3 s3 r3 => by
    cases r2.int_inv
    cases r3.int_inv
    exact ⟨i, j, rfl, rfl, h, q _ H3 (s2.trans s3) (.int _)⟩
theorem et_int1 (ha : ET ta σ H (.int i)) : ET (tCB (fun xs H Q => (∃ i, xs = [.int i] ∧ Q (.int i) H) ∨ ∃ k, xs = [.bl k] ∧ Q (.int (if k then 1 else 0)) H) (tCons ta tNil)) σ H (.int i) := fun H1 a Q q =>
  ha H1 a _ fun v H2 s2 r2 => by
    cases r2.int_inv
    exact .inl ⟨i, rfl, q _ H2 s2 (.int _)⟩
/-- for x in range(n) -/
theorem sq_forR {g : TG} {tb : TS} {n : Nat} {ta : TA} (ha : EA ta σ H [.int (n : Nat)]) (hn : n < 1000000000) (h : ∀ H1, Same H H1 → ∃ Pv : Nat → L2.St → Hp → Prop, Pv 0 σ H1 ∧
      (∀ i σ' H', i < n → Pv i σ' H' → g (.int (i : Nat)) σ' H' fun σ2 H2 => tb { D with nx := Pv (i + 1), ct := Pv (i + 1), bk := r D } σ2 H2) ∧ ∀ σ' H', Pv n σ' H' → r D σ' H') :
    tSeq (tFor (iRng1 ta) g tb) r D σ H := ha.use fun vs H1 s1 r1 => by
  obtain _ | ⟨r0, _ | _⟩ := r1
  cases r0.int_inv
  obtain ⟨Pv, h0, hs, hd⟩ := h H1 s1
  refine ⟨(n : Int), rfl, by omega, by omega, ?_⟩
  rw [Int.toNat_natCast]
  exact for_it (D := { D with nx := r D }) walk_range Pv h0 (fun _ _ _ _ _ => trivial) (fun i v σ' H' H2 hi p ⟨e1, e2⟩ => by
    have h2 := hs i σ' H' hi p
    rw [show V.int ((i : Nat) : Int) = V.int (0 + ((i : Nat) : Int)) by rw [Int.zero_add]] at h2
    subst e1; subst e2; exact h2) hd
end
def sp_cell : Sp := fun vs H Q _ => ∃ (v : V) (ns : List Int) (k : Nat), vs = [v, .int (k : Nat)] ∧ Lp H v (ns.map PyData.int) ∧ ∀ (i : Int) H', Same H H' → Q (.int i) H'
def sp_draw : Sp := fun vs H Q _ => ∃ (c k b : Nat), vs = [.int (c : Nat), .int (k : Nat), .int (b : Nat)] ∧ c < 2 ^ 60 ∧ k < 1024 ∧ 0 < b ∧ ∀ (r : Nat) H', r < b → Same H H' → Q (.int (r : Nat)) H'
def sp_number : Sp := fun vs H Q _ => ∃ (c : Int) (k b : Nat), vs = [.int c, .int (k : Nat), .int (b : Nat)] ∧ k < 24 ∧ 0 < b ∧ ∀ (r : Nat) H', r < b → Same H H' → Q (.int (r : Nat)) H'
def primes : List Int := [1000003, 1000033, 1000037, 1000039, 1000081, 1000099, 1000117, 1000121, 1000133, 1000151, 1000159, 1000171, 1000183, 1000187, 1000193, 1000199]
theorem primes_at (k : Nat) : ∃ q : Int, atI (primes.map PyData.int) ((k : Int) % 16) = some (.int q) ∧ 0 < q := by
  have h : k % 16 < 16 := Nat.mod_lt _ (by decide)
  rw [show (k : Int) % 16 = ((k % 16 : Nat) : Int) by omega]
  have all : ∀ j, j < 16 → ∃ q : Int, (primes.map PyData.int)[j]? = some (.int q) ∧ 0 < q := by
    intro j hj
    have : j = 0 ∨ j = 1 ∨ j = 2 ∨ j = 3 ∨ j = 4 ∨ j = 5 ∨ j = 6 ∨ j = 7 ∨ j = 8 ∨ j = 9 ∨ j = 10 ∨ j = 11 ∨ j = 12 ∨ j = 13 ∨ j = 14 ∨ j = 15 := by omega
    rcases this with e | e | e | e | e | e | e | e | e | e | e | e | e | e | e | e <;> subst e <;> exact ⟨_, rfl, by omega⟩
  obtain ⟨q, hq, h0⟩ := all _ h
  exact ⟨q, atI_nat hq, h0⟩
theorem mod_nat {i : Int} {b : Nat} (h : 0 < b) : ∃ r : Nat, i % (b : Int) = (r : Nat) ∧ r < b := by
  have h1 := Int.emod_nonneg i (show (b : Int) ≠ 0 by omega)
  have h2 := Int.emod_lt_of_pos i (show (0 : Int) < b by omega)
  exact ⟨(i % (b : Int)).toNat, by omega, by omega⟩
section
variable {P : Program} {w : World} {K : PySem.W.Frag} {mg : Str → Option Value} {base : Heap}
theorem nd_draw {E : XK} {σ : L2.St} {H : Hp} {ta : TA} {c k b : Nat} (ea : EA ta σ H [.int (c : Nat), .int (k : Nat), .int (b : Nat)]) (hc : c < 2 ^ 60) (hk : k < 1024) (hb : 0 < b) {Q : VK} (q : ∀ (r : Nat) H7, r < b → Same H H7 → Q (.int (r : Nat)) H7) : tCall sp_draw [] E ta σ H Q :=
  ea H (Same.refl _) _ fun vs H1 s1 r1 => by
    obtain _ | ⟨u0, _ | ⟨u1, _ | ⟨u2, _ | _⟩⟩⟩ := r1
    have w0 := u0.int_inv
    have w1 := u1.int_inv
    have w2 := u2.int_inv
    subst w0 w1 w2
    exact ⟨c, k, b, rfl, hc, hk, hb, fun r H8 h s8 => q r H8 h (s1.trans s8)⟩
theorem c_Lcell_at (T : Tx mg) (D : Df K mg "_law_cell_at" s_Lcell_at ["_law_script", "_law_k"]) : C8.Cal P w K mg base 1 "_law_cell_at" sp_cell [] := by
  refine df_mk D sc_Lcell_at (fun vs H Q E h => by obtain ⟨v, ns, k, rfl, _⟩ := h; rfl) fun f cdv A outer s H vs Q E hr h => ?_
  obtain ⟨v, ns, k, rfl, hl, q⟩ := h
  refine ⟨_, (pss_cons (ps_if (pt_cmpR op_lt (pv 1) (pe_callB (call_len_seqK (K := K) rfl) rfl T.m_len PySem.boot_len (pa_cons (pv 0) pa_nil)) (nomark _)) (pss_one (ps_ret (pe_ix (ix_listK (K := K) rfl) (pv 0) (pv 1) (fun _ _ => rfl)))) pss_nil)
    (pss_one (ps_ret pe_int))), ?_⟩
  refine sq_if (σ := [some v, some (.int (k : Nat))]) (b := decide ((k : Int) < ((ns.map PyData.int).length : Nat))) (eb_test (et_lt (et_var rfl (.int _)) (et_lenL (el_var rfl hl)))) (fun e H1 s1 => ?_) (fun e H1 s1 => ?_)
  · have hk : k < ns.length := by simp at e; omega
    have hg : (ns.map PyData.int)[k]? = some (.int ns[k]) := by rw [List.getElem?_map, List.getElem?_eq_getElem hk]; rfl
    refine st_ret (σ := [some v, some (.int (k : Nat))]) (et_ixL (el_var rfl (hl.mono s1)) (et_var rfl (.int _)) (atI_nat hg)) fun v' H' s r => ?_
    cases r.int_inv
    exact q _ _ (s1.trans s)
  · refine st_ret (et_int (i := 0)) fun v' H' s r => ?_
    cases r.int_inv
    exact q _ _ (s1.trans s)
theorem c_Ldraw (T : Tx mg) (D : Df K mg "_law_draw" s_Ldraw ["_law_cell", "_law_k", "_law_bound"]) : C8.Cal P w K mg base 1 "_law_draw" sp_draw [] := by
  refine df_mk D sc_Ldraw (fun vs H Q E h => by obtain ⟨c, k, b, rfl, _⟩ := h; rfl) fun f cdv A outer s H vs Q E hr h => ?_
  obtain ⟨c, k, b, rfl, hc, hk, hb, q⟩ := h
  refine ⟨_, (pss_cons (ps_set (i := 3) sc_Ldraw.nd rfl (Or.inl rfl) (pe_tup (pa_cons pe_int (pa_cons pe_int (pa_cons pe_int (pa_cons pe_int (pa_cons pe_int (pa_cons pe_int (pa_cons pe_int (pa_cons pe_int (pa_cons pe_int (pa_cons pe_int (pa_cons pe_int (pa_cons pe_int (pa_cons pe_int (pa_cons pe_int (pa_cons pe_int (pa_cons pe_int pa_nil))))))))))))))))))
    (pss_one (ps_ret (pe_op op_mod (pe_op op_mod (pe_callTy call_int1 rfl T.m_int (by decide +kernel) (pa_cons (pe_op op_add (pe_op op_mulW (pv 0) pe_int) (pe_op op_mulW (pv 1) pe_int)) pa_nil)) (pe_ix (ix_tupK (K := K) rfl) (pv 3) (pe_op op_mod (pe_callTy call_int1 rfl T.m_int (by decide +kernel) (pa_cons (pv 1) pa_nil)) pe_int) (fun _ _ => rfl))) (pv 2))))), ?_⟩
  refine sq_set (d := .tuple (primes.map PyData.int)) (et_tup (ds := primes.map PyData.int) (ea_cons et_int (ea_cons et_int (ea_cons et_int (ea_cons et_int (ea_cons et_int (ea_cons et_int (ea_cons et_int (ea_cons et_int (ea_cons et_int (ea_cons et_int (ea_cons et_int (ea_cons et_int (ea_cons et_int (ea_cons et_int (ea_cons et_int (ea_cons et_int ea_nil)))))))))))))))) (by show 16 ≤ 16000000; omega)) fun v3 H1 s1 r3 => ?_
  obtain ⟨pr, hp, hp0⟩ := primes_at k
  have b1 : ((c : Nat) : Int).natAbs < 2 ^ 60 := by rw [Int.natAbs_natCast]; exact hc
  have b2 : ((k : Nat) : Int).natAbs < 2 ^ 10 := by rw [Int.natAbs_natCast]; exact hk
  refine st_ret (σ := [some (.int (c : Nat)), some (.int (k : Nat)), some (.int (b : Nat)), some v3]) (et_mod (et_mod (et_int1 (et_add (et_mul (et_var rfl (.int _)) et_int (wide_mul (b := 20) b1 (by decide) (by omega) (by omega) (by omega))) (et_mul (et_var rfl (.int _)) et_int (wide_mul (b := 20) b2 (by decide) (by omega) (by omega) (by omega))))) (et_ix (et_var rfl r3) (et_mod (et_int1 (et_var rfl (.int _))) et_int (by omega)) hp) hp0) (et_var rfl (.int (b : Nat))) (by omega)) fun v' H' s r => ?_
  obtain ⟨rr, e, hlt⟩ := mod_nat (i := ((c : Int) * 48271 + (k : Int) * 69621) % pr) hb
  rw [e] at r
  cases r.int_inv
  exact q rr _ hlt (s1.trans s)
theorem c_Lnumber (T : Tx mg) (D : Df K mg "_law_number" s_Lnumber ["_law_cell", "_law_k", "_law_bound"]) (c_Ldraw : C8.Cal P w K mg base 1 "_law_draw" sp_draw []) : C8.Cal P w K mg base 2 "_law_number" sp_number [] := by
  refine df_mk D sc_Lnumber (fun vs H Q E h => by obtain ⟨c, k, b, rfl, _⟩ := h; rfl) fun f cdv A outer s H vs Q E hr h => ?_
  obtain ⟨c, k, b, rfl, hk, hb, q⟩ := h
  refine ⟨_, (pss_cons (ps_set (i := 3) sc_Lnumber.nd rfl (Or.inl rfl) pe_int)
    (pss_cons (ps_for PassesOwn.never rfl (pi_range1 rfl T.m_range (pa_cons (pe_op op_mod (pe_callTy call_int1 rfl T.m_int (by decide +kernel) (pa_cons (pv 1) pa_nil)) pe_int) pa_nil)) (pg_name (i := 4) sc_Lnumber.nd rfl (Or.inl rfl)) (pss_one (ps_set (i := 3) sc_Lnumber.nd rfl (Or.inl rfl) (pe_op op_mulW (pv 3) pe_int))))
    (pss_cons (ps_set (i := 5) sc_Lnumber.nd rfl (Or.inl rfl) (pe_op op_fdivW (pe_op op_sub (pv 0) (pe_op op_pow pe_int pe_int)) (pv 3)))
    (pss_cons (ps_if (pt_cmpR op_gt (pv 5) pe_int (nomark _)) (pss_one (ps_ret (pe_op op_mod (pe_op op_mod (pe_callTy call_int1 rfl T.m_int (by decide +kernel) (pa_cons (pv 5) pa_nil)) pe_int) (pv 2)))) pss_nil)
    (pss_cons (ps_set (i := 6) sc_Lnumber.nd rfl (Or.inl rfl) (pe_op op_mod (pe_callTy call_int1 rfl T.m_int (by decide +kernel) (pa_cons (pv 0) pa_nil)) pe_int))
    (pss_one (ps_ret (pe_op op_mod (C8.pe_c c_Ldraw hr (by omega) rfl (pa_cons (pe_op op_mulW (pe_op op_add (pv 6) (pe_op op_mulW pe_int (pv 1))) (pe_op op_add (pe_op op_add (pv 6) (pe_op op_mulW pe_int (pv 1))) pe_int)) (pa_cons (pe_op op_add (pe_op op_mod (pe_callTy call_int1 rfl T.m_int (by decide +kernel) (pa_cons (pv 1) pa_nil)) pe_int) pe_int) (pa_cons pe_int pa_nil)))) (pv 2))))))))), ?_⟩
  refine sq_set (et_int (i := 1)) fun v3 H1 s1 r3 => ?_
  have v3e := r3.int_inv
  subst v3e
  refine sq_forR (n := k) (σ := [some (.int c), some (.int (k : Nat)), some (.int (b : Nat)), some (.int 1), none, none, none]) (ea_cons (ET.to (et_mod (et_int1 (et_var rfl (.int (k : Nat)))) et_int (by omega)) (by congr 1; omega)) ea_nil) (by omega) fun H2 s2 => ⟨fun i σ' H' => Same H H' ∧ ∃ (v4 : Option V), σ' = [some (.int c), some (.int (k : Nat)), some (.int (b : Nat)), some (.int ((1009 ^ i : Nat) : Int)), v4, none, none], ⟨s1.trans s2, none, rfl⟩, fun i σ' H' hi ⟨i1, v4, e⟩ => ?_, fun σ' H' ⟨i1, v4, e⟩ => ?_⟩
  · subst e
    have hp : (1009 : Nat) ^ i ≤ 1009 ^ 24 := Nat.pow_le_pow_right (by omega) (by omega)
    have hb1 : ((1009 ^ i : Nat) : Int).natAbs < 2 ^ 250 := by rw [Int.natAbs_natCast]; exact Nat.lt_of_le_of_lt hp (by decide +kernel)
    refine st_set (i := 3) (σ := [some (.int c), some (.int (k : Nat)), some (.int (b : Nat)), some (.int ((1009 ^ i : Nat) : Int)), some (.int (i : Nat)), none, none]) (et_mul (i := ((1009 ^ i : Nat) : Int)) (et_var rfl (.int _)) et_int (wide_mul (b := 20) hb1 (by decide) (by omega) (by omega) (by omega))) fun v' H' s r => ?_
    have e2 := r.int_inv
    subst e2
    refine ⟨i1.trans s, some (.int (i : Nat)), ?_⟩
    rw [show ((1009 ^ (i + 1) : Nat) : Int) = ((1009 ^ i : Nat) : Int) * 1009 by rw [Nat.pow_succ, Int.natCast_mul]; rfl]
    rfl
  · subst e
    have hb1 : ((1009 ^ k : Nat) : Int).natAbs < 2 ^ 250 := by rw [Int.natAbs_natCast]; exact Nat.lt_of_le_of_lt (Nat.pow_le_pow_right (by omega) (show k ≤ 24 by omega)) (by decide +kernel)
    have h0 : 0 < ((1009 ^ k : Nat) : Int) := by have := Nat.pow_pos (n := k) (show 0 < 1009 by omega); omega
    refine sq_set (σ := [some (.int c), some (.int (k : Nat)), some (.int (b : Nat)), some (.int ((1009 ^ k : Nat) : Int)), v4, none, none]) (et_fdiv (et_sub (et_var rfl (.int _)) (et_powI (i := 10) (j := 18) et_int et_int ⟨by omega, by omega, by decide⟩)) (et_var rfl (.int ((1009 ^ k : Nat) : Int))) (wide_div h0 hb1 (by omega) (by omega))) fun v5 H3 s3 r5 => ?_
    have e5 := r5.int_inv
    subst e5
    generalize (c - 10 ^ (18 : Int).toNat) / ((1009 ^ k : Nat) : Int) = m at r5
    refine sq_if (σ := [some (.int c), some (.int (k : Nat)), some (.int (b : Nat)), some (.int ((1009 ^ k : Nat) : Int)), v4, some (.int m), none]) (eb_test (et_gt (et_var rfl (.int _)) et_int)) (fun e H4 s4 => ?_) (fun e H4 s4 => ?_)
    · refine st_ret (σ := [some (.int c), some (.int (k : Nat)), some (.int (b : Nat)), some (.int ((1009 ^ k : Nat) : Int)), v4, some (.int m), none]) (et_mod (et_mod (et_int1 (et_var rfl (.int _))) et_int (by omega)) (et_var rfl (.int (b : Nat))) (by omega)) fun v' H' s r => ?_
      obtain ⟨rr, e, hlt⟩ := mod_nat (i := m % 1009) hb
      rw [e] at r
      have er := r.int_inv
      subst er
      exact q rr _ hlt (((i1.trans s3).trans s4).trans s)
    · refine sq_set (σ := [some (.int c), some (.int (k : Nat)), some (.int (b : Nat)), some (.int ((1009 ^ k : Nat) : Int)), v4, some (.int m), none]) (et_mod (et_int1 (et_var rfl (.int c))) et_int (by omega)) fun v6 H5 s5 r6 => ?_
      have h1 := Int.emod_nonneg c (show (1000003 : Int) ≠ 0 by omega)
      have h2 := Int.emod_lt_of_pos c (show (0 : Int) < 1000003 by omega)
      have e6 := r6.int_inv
      obtain ⟨sm, hsm⟩ : ∃ sm : Nat, c % 1000003 = (sm : Nat) := ⟨(c % 1000003).toNat, by omega⟩
      rw [hsm] at e6
      subst e6
      have lsm : sm < 1000003 := by omega
      have bk : ((k : Nat) : Int).natAbs < 2 ^ 10 := by rw [Int.natAbs_natCast]; omega
      have m1 : ∀ x : Nat, x < 2 ^ 21 → ((x : Nat) : Int).natAbs < 2 ^ 21 := fun x h => by rw [Int.natAbs_natCast]; exact h
      have ecell : ((sm : Int) + 977 * (k : Int)) * ((sm : Int) + 31 * (k : Int) + 5) = (((sm + 977 * k) * (sm + 31 * k + 5) : Nat) : Int) := by
        rw [Int.natCast_mul]; rfl
      have hcell : (sm + 977 * k) * (sm + 31 * k + 5) < 2 ^ 60 := by
        have a1 : sm + 977 * k ≤ 2 ^ 21 := by omega
        have a2 : sm + 31 * k + 5 ≤ 2 ^ 21 := by omega
        exact Nat.lt_of_le_of_lt (Nat.mul_le_mul a1 a2) (by decide)
      have e9 : (k : Int) % 9 + 1 = ((k % 9 + 1 : Nat) : Int) := by omega
      have ea : EA (tCons (tOp (rI CMulW fun i j => .int (i * j)) (tOp (rI0 fun i j => .int (i + j)) (tVar 6) (tOp (rI CMulW fun i j => .int (i * j)) (tC (.int 977)) (tVar 1))) (tOp (rI0 fun i j => .int (i + j)) (tOp (rI0 fun i j => .int (i + j)) (tVar 6) (tOp (rI CMulW fun i j => .int (i * j)) (tC (.int 31)) (tVar 1))) (tC (.int 5)))) (tCons (tOp (rI0 fun i j => .int (i + j)) (tOp (rI (fun _ j => 0 < j) fun i j => .int (i % j)) (tCB (fun xs H Q => (∃ i, xs = [.int i] ∧ Q (.int i) H) ∨ ∃ k, xs = [.bl k] ∧ Q (.int (if k then 1 else 0)) H) (tCons (tVar 1) tNil)) (tC (.int 9))) (tC (.int 1))) (tCons (tC (.int 999983)) tNil))) [some (.int c), some (.int (k : Nat)), some (.int (b : Nat)), some (.int ((1009 ^ k : Nat) : Int)), v4, some (.int m), some (.int (sm : Nat))] H5
          [.int (((sm + 977 * k) * (sm + 31 * k + 5) : Nat) : Int), .int ((k % 9 + 1 : Nat) : Int), .int ((999983 : Nat) : Int)] :=
        ea_cons (ET.to (et_mul (i := (sm : Int) + 977 * (k : Int)) (j := (sm : Int) + 31 * (k : Int) + 5) (et_add (et_var rfl (.int _)) (et_mul et_int (et_var rfl (.int _)) (wide_mul (a := 20) (by decide) bk (by omega) (by omega) (by omega)))) (et_add (et_add (et_var rfl (.int _)) (et_mul et_int (et_var rfl (.int _)) (wide_mul (a := 20) (by decide) bk (by omega) (by omega) (by omega)))) et_int) (wide_mul (a := 21) (b := 21) (by omega) (by omega) (by omega) (by omega) (by omega))) (congrArg PyData.int ecell))
          (ea_cons (ET.to (et_add (et_mod (et_int1 (et_var rfl (.int (k : Nat)))) et_int (by omega)) et_int) (congrArg PyData.int e9)) (ea_cons et_int ea_nil))
      refine nd_draw ea hcell (by omega) (by omega) fun r H7 _ s7 => ?_
      refine ⟨_, rfl, (r : Int), (b : Int), rfl, rfl, (by omega), ?_⟩
      obtain ⟨rr, e, hlt⟩ := mod_nat (i := (r : Int)) hb
      show Q (.int ((r : Int) % (b : Int))) H7
      rw [e]
      exact q rr _ hlt ((((i1.trans s3).trans s4).trans s5).trans s7)
end
end

section

abbrev s_Lnext : Stmt := topS 51
theorem sc_Lnext : FnScope ["_law_draw_here", "_law_bound", "_law_at", "_law_cell"] ["_law_draw_here", "_law_bound"] (C8.fnScope s_Lnext) := C8.fnScope_by (by decide +kernel)
abbrev s_Lpick : Stmt := topS 52
theorem sc_Lpick : FnScope ["_law_draw_here", "_law_things"] ["_law_draw_here", "_law_things"] (C8.fnScope s_Lpick) := C8.fnScope_by (by decide +kernel)
/-- the draw: the script, 0, how many were drawn; m more may be drawn -/
structure Dr (H : Hp) (a l : Addr) (m : Nat) : Prop where
  st : ∃ c : Nat, H a = some (.lst [.ref l, .int 0, .int (c : Nat)]) ∧ c + m ≤ 2 ^ 60
  sc : ∃ ns : List Int, H l = some (.lst (ns.map V.int))
  ne : l ≠ a
theorem Dr.nt {H : Hp} {a l : Addr} {m : Nat} (d : Dr H a l m) : ∀ xs, H a ≠ some (.tup xs) := fun xs e => by
  obtain ⟨c, h, _⟩ := d.st
  rw [h] at e; cases e
theorem Dr.same {H H' : Hp} {a l : Addr} {m : Nat} (d : Dr H a l m) (s : Same H H') : Dr H' a l m := by
  obtain ⟨⟨c, h, hc⟩, ⟨ns, hl⟩, ne⟩ := d
  exact ⟨⟨c, s _ _ h, hc⟩, ⟨ns, s _ _ hl⟩, ne⟩
theorem Dr.less {H : Hp} {a l : Addr} {m m' : Nat} (d : Dr H a l m) (h : m' ≤ m) : Dr H a l m' := by
  obtain ⟨⟨c, h1, hc⟩, r, ne⟩ := d
  exact ⟨⟨c, h1, by omega⟩, r, ne⟩
def sp_next : Sp := fun vs H Q _ => ∃ (a l : Addr) (b m : Nat), vs = [.ref a, .int (b : Nat)] ∧ Dr H a l (m + 1) ∧ 0 < b ∧ ∀ (r : Nat) H', r < b → SmB a H H' → Dr H' a l m → Q (.int (r : Nat)) H'
def sp_pick : Sp := fun vs H Q _ => ∃ (a l : Addr) (v : V) (ls : List PyData) (m : Nat), vs = [.ref a, v] ∧ v ≠ .ref a ∧ Dr H a l (m + 1) ∧ Lp H v ls ∧ ls ≠ [] ∧ ls.length ≤ 1000 ∧ ∀ v' H' d, SmB a H H' → Dr H' a l m → d ∈ ls → Tp H' v' d → Q v' H'
theorem nd_number {E : XK} {σ : L2.St} {H : Hp} {ta : TA} {c : Int} {k b : Nat} (ea : EA ta σ H [.int c, .int (k : Nat), .int (b : Nat)]) (hk : k < 24) (hb : 0 < b) {Q : VK} (q : ∀ (r : Nat) H7, r < b → Same H H7 → Q (.int (r : Nat)) H7) : tCall sp_number [] E ta σ H Q :=
  ea H (Same.refl _) _ fun vs H1 s1 r1 => by
    obtain _ | ⟨u0, _ | ⟨u1, _ | ⟨u2, _ | _⟩⟩⟩ := r1
    have w0 := u0.int_inv
    have w1 := u1.int_inv
    have w2 := u2.int_inv
    subst w0 w1 w2
    exact ⟨c, k, b, rfl, hk, hb, fun r H8 h s8 => q r H8 h (s1.trans s8)⟩
section
variable {P : Program} {w : World} {K : PySem.W.Frag} {mg : Str → Option Value} {base : Heap}
theorem et_dr2 {σ : L2.St} {H : Hp} {a l : Addr} {c : Nat} {k : Nat} (hs : σ[k]? = some (some (.ref a))) (h : H a = some (.lst [.ref l, .int 0, .int (c : Nat)])) : ET (tOp (rIxL K) (tVar k) (tC (.int 2))) σ H (.int (c : Nat)) := fun H1 s Q q =>
  ⟨_, hs, a, _, 2, .int (c : Nat), rfl, rfl, SqL.of (s _ _ h), rfl, q _ H1 (Same.refl _) (.int _)⟩
theorem et_dr1 {σ : L2.St} {H : Hp} {a l : Addr} {c : Nat} {k : Nat} (hs : σ[k]? = some (some (.ref a))) (h : H a = some (.lst [.ref l, .int 0, .int (c : Nat)])) : ET (tOp (rIxL K) (tVar k) (tC (.int 1))) σ H (.int 0) := fun H1 s Q q =>
  ⟨_, hs, a, _, 1, .int 0, rfl, rfl, SqL.of (s _ _ h), rfl, q _ H1 (Same.refl _) (.int _)⟩
theorem tpa_of_ints {H : Hp} : ∀ ns : List Int, TpA H (ns.map V.int) (ns.map PyData.int)
  | [] => .nil
  | n :: ns => .cons (.int n) (tpa_of_ints ns)
theorem el_dr0 {σ : L2.St} {H : Hp} {a l : Addr} {c : Nat} {k : Nat} {ns : List Int} (hs : σ[k]? = some (some (.ref a))) (h : H a = some (.lst [.ref l, .int 0, .int (c : Nat)])) (hl : H l = some (.lst (ns.map V.int))) : EL (tOp (rIxL K) (tVar k) (tC (.int 0))) σ H (ns.map PyData.int) := fun H1 s Q q =>
  ⟨_, hs, a, _, 0, .ref l, rfl, rfl, SqL.of (s _ _ h), rfl, q _ H1 (Same.refl _) ⟨l, _, rfl, s _ _ hl, tpa_of_ints ns⟩⟩
theorem c_Lnext (T : Tx mg) (D : Df K mg "_law_next" s_Lnext ["_law_draw_here", "_law_bound"]) (c_Lcell_at : C8.Cal P w K mg base 1 "_law_cell_at" sp_cell []) (c_Lnumber : C8.Cal P w K mg base 2 "_law_number" sp_number []) : C8.Cal P w K mg base 3 "_law_next" sp_next [] := by
  refine df_mk D sc_Lnext (fun vs H Q E h => by obtain ⟨a, l, b, m, rfl, _⟩ := h; rfl) fun f cdv A outer s H vs Q E hr h => ?_
  obtain ⟨a, l, b, m, rfl, ⟨⟨c, ha, hc⟩, ⟨ns, hl⟩, ne⟩, hb, q⟩ := h
  refine ⟨_, (pss_cons (ps_asg (pe_op op_add (pe_ix (ix_listK (K := K) rfl) (pv 0) pe_int (fun _ _ => rfl)) pe_int) (pg_sub (pv 0) pe_int set_list))
    (pss_cons (ps_set (i := 2) sc_Lnext.nd rfl (Or.inl rfl) (pe_op op_fdivW (pe_ix (ix_listK (K := K) rfl) (pv 0) pe_int (fun _ _ => rfl)) pe_int))
    (pss_cons (ps_set (i := 3) sc_Lnext.nd rfl (Or.inl rfl) (pe_op op_add (C8.pe_c c_Lcell_at hr (by omega) rfl (pa_cons (pe_ix (ix_listK (K := K) rfl) (pv 0) pe_int (fun _ _ => rfl)) (pa_cons (pe_op op_add (pe_ix (ix_listK (K := K) rfl) (pv 0) pe_int (fun _ _ => rfl)) (pv 2)) pa_nil))) (pe_op op_mulW pe_int (pv 2))))
    (pss_one (ps_ret (C8.pe_c c_Lnumber hr (by omega) rfl (pa_cons (pv 3) (pa_cons (pe_op op_add (pe_op op_mod (pe_callTy call_int1 rfl T.m_int (by decide +kernel) (pa_cons (pe_ix (ix_listK (K := K) rfl) (pv 0) pe_int (fun _ _ => rfl)) pa_nil)) pe_int) pe_int) (pa_cons (pv 1) pa_nil))))))))), ?_⟩
  refine (et_add (i := (c : Int)) (j := 1) (et_dr2 (k := 0) (σ := [some (.ref a), some (.int (b : Nat)), none, none]) rfl ha) et_int).use fun v1 H1 s1 r1 => ?_
  have e1 := r1.int_inv
  subst e1
  refine ⟨_, rfl, a, [.ref l, .int 0, .int (c : Nat)], 2, 2, rfl, rfl, s1 _ _ ha, rfl, ?_⟩
  have ha2 : upd H1 a (.lst (([.ref l, .int 0, .int (c : Nat)] : List V).set 2 (.int ((c : Int) + 1)))) a = some (.lst [.ref l, .int 0, .int ((c + 1 : Nat) : Int)]) := upd_same
  have hl2 : upd H1 a (.lst (([.ref l, .int 0, .int (c : Nat)] : List V).set 2 (.int ((c : Int) + 1)))) l = some (.lst (ns.map V.int)) := by rw [upd_ne ne]; exact s1 _ _ hl
  have sb : SmB a H (upd H1 a (.lst (([.ref l, .int 0, .int (c : Nat)] : List V).set 2 (.int ((c : Int) + 1))))) := (smb s1).trans (smb_upd a H1 _)
  revert ha2 hl2 sb
  generalize upd H1 a (.lst (([.ref l, .int 0, .int (c : Nat)] : List V).set 2 (.int ((c : Int) + 1)))) = H2
  intro ha2 hl2 sb
  clear r1 s1
  refine sq_set (σ := [some (.ref a), some (.int (b : Nat)), none, none]) (et_fdiv (et_dr2 (k := 0) rfl ha2) et_int ⟨by omega, by decide⟩) fun v3 H3 s3 r3 => ?_
  have e3 := r3.int_inv
  have ed : ((c + 1 : Nat) : Int) / 12 = (((c + 1) / 12 : Nat) : Int) := by omega
  rw [ed] at e3
  subst e3
  have hat : (c + 1) / 12 < 2 ^ 60 := by omega
  have bat : ((((c + 1) / 12 : Nat) : Int)).natAbs < 2 ^ 60 := by rw [Int.natAbs_natCast]; exact hat
  have cl : ∀ Q' : VK, (∀ (i : Int) H4, Same H3 H4 → Q' (.int i) H4) → tCall sp_cell [] C8.E0 (tCons (tOp (rIxL K) (tVar 0) (tC (.int 0))) (tCons (tOp (rI0 fun i j => .int (i + j)) (tOp (rIxL K) (tVar 0) (tC (.int 1))) (tVar 2)) tNil)) [some (.ref a), some (.int (b : Nat)), some (.int (((c + 1) / 12 : Nat) : Int)), none] H3 Q' := fun Q' q' => by
    refine (el_dr0 (K := K) (k := 0) (σ := [some (.ref a), some (.int (b : Nat)), some (.int (((c + 1) / 12 : Nat) : Int)), none]) rfl (s3 _ _ ha2) (s3 _ _ hl2)).use fun v4 H4 s4 l4 => ?_
    refine (et_add (i := 0) (j := (((c + 1) / 12 : Nat) : Int)) (et_dr1 (k := 0) (σ := [some (.ref a), some (.int (b : Nat)), some (.int (((c + 1) / 12 : Nat) : Int)), none]) rfl (s4 _ _ (s3 _ _ ha2))) (et_var rfl (.int _))).use fun v5 H5 s5 r5 => ?_
    have e5 := r5.int_inv
    rw [Int.zero_add] at e5
    subst e5
    exact ⟨v4, ns, (c + 1) / 12, rfl, l4.mono s5, fun i H6 s6 => q' i H6 ((s4.trans s5).trans s6)⟩
  refine cl _ fun i H4 s4 => ?_
  refine (et_mul (ta := tC (.int 31)) (tb := tVar 2) (i := 31) (σ := [some (.ref a), some (.int (b : Nat)), some (.int (((c + 1) / 12 : Nat) : Int)), none]) (H := H4) et_int (et_var rfl (.int _)) (wide_mul (a := 20) (by decide) bat (by omega) (by omega) (by omega))).use fun v5 H5 s5 r5 => ?_
  have e5 := r5.int_inv
  subst e5
  refine ⟨i, _, rfl, rfl, ?_⟩
  have s35 := (s3.trans s4).trans s5
  have e12 : ((c + 1 : Nat) : Int) % 12 + 1 = (((c + 1) % 12 + 1 : Nat) : Int) := by omega
  refine nd_number (c := i + 31 * (((c + 1) / 12 : Nat) : Int)) (k := (c + 1) % 12 + 1) (b := b) (σ := [some (.ref a), some (.int (b : Nat)), some (.int (((c + 1) / 12 : Nat) : Int)), some (.int (i + 31 * (((c + 1) / 12 : Nat) : Int)))]) (ea_cons (et_var rfl (.int _)) (ea_cons (ET.to (et_add (et_mod (et_int1 (et_dr2 (k := 0) rfl (s35 _ _ ha2))) et_int (by omega)) et_int) (congrArg PyData.int e12)) (ea_cons (et_var rfl (.int _)) ea_nil))) (by omega) hb fun r H7 hr7 s7 => ?_
  have s27 := s35.trans s7
  exact q r H7 hr7 (sb.trans (smb s27)) ⟨⟨c + 1, s27 _ _ ha2, by omega⟩, ⟨ns, s27 _ _ hl2⟩, ne⟩
theorem c_Lpick (T : Tx mg) (D : Df K mg "_law_pick" s_Lpick ["_law_draw_here", "_law_things"]) (c_Lnext : C8.Cal P w K mg base 3 "_law_next" sp_next []) : C8.Cal P w K mg base 4 "_law_pick" sp_pick [] := by
  refine df_mk D sc_Lpick (fun vs H Q E h => by obtain ⟨a, l, v, ls, m, rfl, _⟩ := h; rfl) fun f cdv A outer s H vs Q E hr h => ?_
  obtain ⟨a, l, v, ls, m, rfl, nv, hd, ⟨p, xs, rfl, hp, tx⟩, h0, hz, q⟩ := h
  refine ⟨_, (pss_one (ps_ret (pe_ix (ix_listK (K := K) rfl) (pv 1) (C8.pe_c c_Lnext hr (by omega) rfl (pa_cons (pv 0) (pa_cons (pe_callB (call_len_seqK (K := K) rfl) rfl T.m_len PySem.boot_len (pa_cons (pv 1) pa_nil)) pa_nil))) (fun _ _ => rfl)))), ?_⟩
  have np : p ≠ a := fun e => nv (by rw [e])
  refine ⟨_, rfl, _, rfl, ?_⟩
  refine (et_lenL (K := K) (ds := ls) (σ := [some (.ref a), some (.ref p)]) (H := H) (el_var (i := 1) rfl ⟨p, xs, rfl, hp, tx⟩)).use fun v1 H1 s1 r1 => ?_
  have e1 := r1.int_inv
  subst e1
  refine ⟨a, l, ls.length, m, rfl, hd.same s1, List.length_pos_iff.mpr h0, fun r H2 hr2 sb hd2 => ?_⟩
  have sb2 := (smb (a := a) s1).trans sb
  have hp2 : H2 p = some (.lst xs) := sb2 p _ np hp
  have tx2 := tx.mono (sb2.t hd.nt)
  have hlx : r < xs.length := by rw [tx.length]; exact hr2
  obtain ⟨d, hd3, rd⟩ := tx2.get (List.getElem?_eq_getElem hlx)
  exact ⟨p, xs, (r : Int), xs[r], rfl, rfl, SqL.of hp2, atI_nat (List.getElem?_eq_getElem hlx), q _ H2 d sb2 hd2 (List.mem_of_getElem? hd3) rd⟩
end
end

section

/-! ### what draws: any outcome -/
def DT (a l : Addr) (m m' : Nat) (te : TE) (σ : L2.St) (H : Hp) (p : PyData → Prop) : Prop := ∀ H1, SmB a H H1 → Dr H1 a l m → ∀ Q : VK, (∀ v H2 d, SmB a H1 H2 → Dr H2 a l m' → p d → Tp H2 v d → Q v H2) → te σ H1 Q
def DA (a l : Addr) (m m' : Nat) (ta : TA) (σ : L2.St) (H : Hp) (p : List PyData → Prop) : Prop := ∀ H1, SmB a H H1 → Dr H1 a l m → ∀ Q : List V → Hp → Prop, (∀ vs H2 ds, SmB a H1 H2 → Dr H2 a l m' → p ds → TpA H2 vs ds → Q vs H2) → ta σ H1 Q
/-- with k draws: the others' data ds, any d with F -/
def spD (k n : Nat) (pre : List PyData → Prop) (F : List PyData → PyData → Prop) : Sp := fun vs H Q _ => ∃ (a l : Addr) (m : Nat) (vr : List V) (ds : List PyData), vs = .ref a :: vr ∧ Dr H a l (m + k) ∧ ds.length = n ∧ TpA H vr ds ∧ pre ds ∧
  ∀ v H' d, SmB a H H' → Dr H' a l m → F ds d → Tp H' v d → Q v H'
theorem spD.len {k n : Nat} {pre : List PyData → Prop} {F : List PyData → PyData → Prop} : ∀ vs H Q E, spD k n pre F vs H Q E → vs.length = n + 1 := fun vs H Q E h => by
  obtain ⟨a, l, m, vr, ds, rfl, _, h1, h2, _⟩ := h
  rw [List.length_cons, h2.length, h1]
section
variable {a l : Addr} {m m1 m' : Nat} {te ta tb : TE} {t : TA} {σ : L2.St} {H : Hp} {p : PyData → Prop} {P : List PyData → Prop} {d : PyData} {K : PySem.W.Frag}
theorem DT.to {p' : PyData → Prop} (h : DT a l m m' te σ H p) (q : ∀ d, p d → p' d) : DT a l m m' te σ H p' := fun H1 s d1 Q k => h H1 s d1 Q fun v H2 d s2 d2 pd r => k v H2 d s2 d2 (q d pd) r
theorem dt_et (nt : ∀ xs, H a ≠ some (.tup xs)) (h : ∀ H1, TLe H H1 → ET te σ H1 d) : DT a l m m te σ H (fun x => x = d) := fun H1 s d1 Q q =>
  (h H1 (s.t nt)).use fun v H2 s2 r2 => q v H2 d (smb s2) (d1.same s2) rfl r2
theorem da_nil : DA a l m m tNil σ H (fun ds => ds = []) := fun H1 _ d1 Q q => q [] H1 [] (SmB.refl _ _) d1 rfl .nil
theorem da_cons (ha : DT a l m m1 ta σ H p) (hr : DA a l m1 m' t σ H P) : DA a l m m' (tCons ta t) σ H (fun ds => ∃ d ds', ds = d :: ds' ∧ p d ∧ P ds') := fun H1 s d1 Q q =>
  ha H1 s d1 _ fun v H2 d s2 d2 pd r2 => hr H2 (s.trans s2) d2 _ fun vs H3 ds s3 d3 pds r3 => q (v :: vs) H3 (d :: ds) (s2.trans s3) d3 ⟨d, ds, rfl, pd, pds⟩ (.cons (r2.mono (s3.t d2.nt)) r3)
theorem dt_tup (h : DA a l m m' t σ H P) (hz : ∀ ds, P ds → ds.length ≤ 16000000) : DT a l m m' (tTup t) σ H (fun d => ∃ ds, d = .tuple ds ∧ P ds) := fun H1 s d1 Q q =>
  h H1 s d1 _ fun vs H2 ds s2 d2 pds r2 => ⟨sz_ok (by rw [r2.length]; exact hz ds pds), fun z hz => q (.ref z) _ (.tuple ds) (s2.trans (smb (same_new hz _))) (d2.same (same_new hz _)) ⟨ds, rfl, pds⟩ (.tup upd_same (r2.mono (tle (same_new hz _))))⟩
theorem dt_next {E : XK} {i b : Nat} (h0 : σ[i]? = some (some (.ref a))) (nt : ∀ xs, H a ≠ some (.tup xs)) (hb : ∀ H1, TLe H H1 → ET tb σ H1 (.int (b : Nat))) (h : 0 < b) : DT a l (m + 1) m (tCall sp_next [] E (tCons (tVar i) (tCons tb tNil))) σ H (fun d => ∃ r : Nat, d = .int (r : Nat) ∧ r < b) := fun H1 s d1 Q q =>
  ⟨_, h0, (hb H1 (s.t nt)).use fun v H2 s2 r2 => by
    have e := r2.int_inv
    subst e
    exact ⟨a, l, b, m, rfl, d1.same s2, h, fun r H3 hr s3 d3 => q _ H3 (.int (r : Nat)) ((smb s2).trans s3) d3 ⟨r, rfl, hr⟩ (.int _)⟩⟩
theorem dt_pick {E : XK} {i : Nat} {ls : List PyData} (h0 : σ[i]? = some (some (.ref a))) (nt : ∀ xs, H a ≠ some (.tup xs)) (hl : ∀ H1, TLe H H1 → EN te σ H1 ls) (hn : ls ≠ []) (hz : ls.length ≤ 1000) : DT a l (m + 1) m (tCall sp_pick [] E (tCons (tVar i) (tCons te tNil))) σ H (fun d => d ∈ ls) := fun H1 s d1 Q q =>
  ⟨_, h0, (hl H1 (s.t nt)).use fun pl xs H2 hpl s2 hl2 t2 => by
    refine ⟨a, l, .ref pl, ls, m, rfl, fun e => ?_, d1.same s2, ⟨pl, xs, rfl, hl2, t2⟩, hn, hz, fun v' H3 d s3 d3 hd r3 => q v' H3 d ((smb s2).trans s3) d3 hd r3⟩
    obtain ⟨c, hc, _⟩ := d1.st
    cases e
    rw [hpl] at hc
    cases hc⟩
theorem dt_call {E : XK} {i k n : Nat} {pre : List PyData → Prop} {F : List PyData → PyData → Prop} (h0 : σ[i]? = some (some (.ref a))) (ha : DA a l m1 (m + k) t σ H P) (hP : ∀ ds, P ds → ds.length = n ∧ pre ds) : DT a l m1 m (tCall (spD k n pre F) [] E (tCons (tVar i) t)) σ H (fun d => ∃ ds, P ds ∧ F ds d) := fun H1 s d1 Q q =>
  ⟨_, h0, ha H1 s d1 _ fun vs H2 ds s2 d2 pds r2 => ⟨a, l, m, vs, ds, by rw [List.append_nil], d2, (hP ds pds).1, r2, (hP ds pds).2, fun v H3 d s3 d3 fd r3 => q v H3 d (s2.trans s3) d3 ⟨ds, pds, fd⟩ r3⟩⟩
theorem sq_setD {D : Ends} {r : TS} {i : Nat} (h : DT a l m m' te σ H p) (d0 : Dr H a l m) (q : ∀ v H' d, SmB a H H' → TLe H H' → Dr H' a l m' → p d → Tp H' v d → r D (σ.set i (some v)) H') : tSeq (tAsg te (gName i)) r D σ H :=
  h H (SmB.refl _ _) d0 _ fun v H2 d s2 d2 pd r2 => q v H2 d s2 (s2.t d0.nt) d2 pd r2
theorem st_setD {D : Ends} {i : Nat} (h : DT a l m m' te σ H p) (d0 : Dr H a l m) (q : ∀ v H' d, SmB a H H' → TLe H H' → Dr H' a l m' → p d → Tp H' v d → D.nx (σ.set i (some v)) H') : tAsg te (gName i) D σ H :=
  h H (SmB.refl _ _) d0 _ fun v H2 d s2 d2 pd r2 => q v H2 d s2 (s2.t d0.nt) d2 pd r2
theorem st_retD {D : Ends} (h : DT a l m m' te σ H p) (d0 : Dr H a l m) (q : ∀ v H' d, SmB a H H' → TLe H H' → Dr H' a l m' → p d → Tp H' v d → D.rt v H') : tRet te D σ H :=
  h H (SmB.refl _ _) d0 _ fun v H2 d s2 d2 pd r2 => q v H2 d s2 (s2.t d0.nt) d2 pd r2
end
end

section

abbrev s_Lmany : Stmt := topS 54
theorem sc_Lmany : FnScope ["_law_draw_here", "_law_part", "_law_low", "_law_high"] ["_law_draw_here", "_law_part"] (C8.fnScope s_Lmany) := C8.fnScope_by (by decide +kernel)
def F_many (ds : List PyData) (d : PyData) : Prop := ∃ (x : PyData) (lo : Nat) (hi : Option Nat) (m : Bool), ds = [x] ∧ lo ≤ 3 ∧ goodHi lo hi = true ∧ d = .tuple [.str "again", x, .int (lo : Nat), encHi hi, encWay m]
def one1 (ds : List PyData) : Prop := ∃ x, ds = [x]
section
variable {P : Program} {w : World} {K : PySem.W.Frag} {mg : Str → Option Value} {base : Heap}
theorem c_Lmany (T : Tx mg) (D : Df K mg "_law_many" s_Lmany ["_law_draw_here", "_law_part"]) (c_Lpick : C8.Cal P w K mg base 4 "_law_pick" sp_pick []) : C8.Cal P w K mg base 5 "_law_many" (spD 3 1 one1 F_many) [] := by
  refine df_mk D sc_Lmany spD.len fun f cdv A outer s H vs Q E hr h => ?_
  obtain ⟨a, l, m, vr, ds, rfl, hd, hn, hv, ⟨x, rfl⟩, q⟩ := h
  obtain _ | @⟨x1, _, _, _, h1, _ | _⟩ := hv
  refine ⟨_, (pss_cons (ps_set (i := 2) sc_Lmany.nd rfl (Or.inl rfl) (C8.pe_c c_Lpick hr (by omega) rfl (pa_cons (pv 0) (pa_cons (pe_lst (pa_cons pe_int (pa_cons pe_int (pa_cons pe_int (pa_cons pe_int (pa_cons pe_int (pa_cons pe_int pa_nil))))))) pa_nil))))
    (pss_cons (ps_set (i := 3) sc_Lmany.nd rfl (Or.inl rfl) (C8.pe_c c_Lpick hr (by omega) rfl (pa_cons (pv 0) (pa_cons (pe_lst (pa_cons pe_non (pa_cons pe_non (pa_cons (pe_callB (cr_maxK (K := K) rfl rfl) rfl T.m_max (by decide +kernel) (pa_cons (pe_lst (pa_cons pe_int (pa_cons (pv 2) pa_nil))) pa_nil)) (pa_cons (pe_callB (cr_min_K (K := K) rfl rfl) rfl T.m_min (by decide +kernel) (pa_cons (pe_lst (pa_cons pe_int (pa_cons (pe_op op_add (pv 2) pe_int) pa_nil))) pa_nil)) (pa_cons pe_int pa_nil)))))) pa_nil))))
    (pss_one (ps_ret (pe_tup (pa_cons pe_str (pa_cons (pv 1) (pa_cons (pv 2) (pa_cons (pv 3) (pa_cons (C8.pe_c c_Lpick hr (by omega) rfl (pa_cons (pv 0) (pa_cons (pe_lst (pa_cons pe_str (pa_cons pe_str pa_nil))) pa_nil))) pa_nil)))))))))), ?_⟩
  refine sq_setD (l := l) (m := m + 3) (m' := m + 2) (σ := [some (.ref a), some x1, none, none]) (dt_pick (ls := [.int 0, .int 0, .int 1, .int 1, .int 2, .int 3]) rfl hd.nt (fun H1 t1 => en_lst (ea_cons et_int (ea_cons et_int (ea_cons et_int (ea_cons et_int (ea_cons et_int (ea_cons et_int ea_nil)))))) (by simp)) (by simp) (by simp)) hd fun v2 H1 d sb1 t1 d1 pd r2 => ?_
  have lo : ∃ lo : Nat, d = .int (lo : Nat) ∧ lo ≤ 3 := by
    simp only [List.mem_cons, List.not_mem_nil, or_false] at pd
    rcases pd with e | e | e | e | e | e
    · exact ⟨0, e, by omega⟩
    · exact ⟨0, e, by omega⟩
    · exact ⟨1, e, by omega⟩
    · exact ⟨1, e, by omega⟩
    · exact ⟨2, e, by omega⟩
    · exact ⟨3, e, by omega⟩
  obtain ⟨lo, rfl, hlo⟩ := lo
  refine sq_setD (l := l) (m := m + 2) (m' := m + 1) (σ := [some (.ref a), some x1, some v2, none]) (dt_pick (ls := [.none, .none, .int (max 1 (lo : Int)), .int (min 3 ((lo : Int) + 1)), .int 3]) rfl d1.nt (fun H2 t2 => en_lst (ea_cons et_non (ea_cons et_non (ea_cons (et_maxL (EN.el (en_lst (ea_cons et_int (ea_cons (et_var rfl (r2.mono t2)) ea_nil)) (by simp)))) (ea_cons (et_minL (EN.el (en_lst (ea_cons et_int (ea_cons (et_add (et_var rfl (r2.mono t2)) et_int) ea_nil)) (by simp)))) (ea_cons et_int ea_nil))))) (by simp)) (by simp) (by simp)) d1 fun v3 H2 d sb2 t2 d2 pd r3 => ?_
  have hi : ∃ hi : Option Nat, d = encHi hi ∧ goodHi lo hi = true := by
    simp only [List.mem_cons, List.not_mem_nil, or_false] at pd
    rcases pd with e | e | e | e | e
    · exact ⟨.none, e, rfl⟩
    · exact ⟨.none, e, rfl⟩
    · refine ⟨some (max 1 lo), by rw [e, encHi]; congr 1; omega, ?_⟩
      simp only [goodHi, Bool.and_eq_true, decide_eq_true_eq]; omega
    · refine ⟨some (min 3 (lo + 1)), by rw [e, encHi]; congr 1; omega, ?_⟩
      simp only [goodHi, Bool.and_eq_true, decide_eq_true_eq]; omega
    · refine ⟨some 3, e, ?_⟩
      simp only [goodHi, Bool.and_eq_true, decide_eq_true_eq]; omega
  obtain ⟨hi, rfl, hhi⟩ := hi
  refine st_retD (l := l) (m := m + 1) (m' := m) (σ := [some (.ref a), some x1, some v2, some v3]) (dt_tup (da_cons (dt_et d2.nt fun H3 t3 => et_str) (da_cons (dt_et d2.nt fun H3 t3 => et_var rfl (((h1.mono t1).mono t2).mono t3)) (da_cons (dt_et d2.nt fun H3 t3 => et_var rfl ((r2.mono t2).mono t3)) (da_cons (dt_et d2.nt fun H3 t3 => et_var rfl (r3.mono t3)) (da_cons (dt_pick (ls := [.str "many", .str "few"]) rfl d2.nt (fun H3 t3 => en_lst (ea_cons et_str (ea_cons et_str ea_nil)) (by simp)) (by simp) (by simp)) da_nil))))) ?_) d2 fun v H3 d sb3 t3 d3 pd r => ?_
  · rintro ds ⟨d0, _, rfl, _, d1, _, rfl, _, d2, _, rfl, _, d3, _, rfl, _, d4, _, rfl, _, rfl⟩
    simp
  · obtain ⟨_, rfl, d0, _, rfl, rfl, d1, _, rfl, rfl, d2, _, rfl, rfl, d3, _, rfl, rfl, d4, _, rfl, pd4, rfl⟩ := pd
    have way : ∃ b : Bool, d4 = encWay b := by
      simp only [List.mem_cons, List.not_mem_nil, or_false] at pd4
      rcases pd4 with e | e
      · exact ⟨true, e⟩
      · exact ⟨false, e⟩
    obtain ⟨b, rfl⟩ := way
    exact q v H3 _ ((sb1.trans sb2).trans sb3) d3 ⟨_, lo, hi, b, rfl, hlo, hhi, rfl⟩ r
end
end

section

abbrev s_Lletters : Stmt := topS 53
theorem sc_Lletters : FnScope ["_law_draw_here", "_law_size", "_law_found", "_law_letter"] ["_law_draw_here", "_law_size"] (C8.fnScope s_Lletters) := C8.fnScope_by (by decide +kernel)
/-- signs as a text -/
def txt (L : List Nat) : Str := ⟨L.toArray⟩
theorem join_signs : ∀ L : List Nat, Str.join "" (L.map fun c => (⟨#[c]⟩ : Str)) = txt L
  | [] => rfl
  | [c] => rfl
  | c :: d :: r => by
    have ih := join_signs (d :: r)
    show (⟨#[c]⟩ : Str) ++ "" ++ Str.join "" ((d :: r).map fun c => (⟨#[c]⟩ : Str)) = _
    rw [ih]
    have e : ∀ x y : Str, x.cps = y.cps → x = y := fun x y h => by cases x; cases y; cases h; rfl
    apply e
    rw [PySem.Str.cps_append, PySem.Str.cps_append]
    apply Array.ext'
    rw [Array.toList_append, Array.toList_append]
    rfl
theorem sign_sum : ∀ L : List Nat, ((L.map fun c => (⟨#[c]⟩ : Str)).map (·.length)).sum = L.length
  | [] => rfl
  | c :: L => by rw [List.map_cons, List.map_cons, List.sum_cons, sign_sum L, List.length_cons]; show 1 + L.length = _; omega
theorem req_int {i j : Int} {H : Hp} {Q : VK} (q : Q (.bl (decide (i = j))) H) : rEq (.int i) (.int j) H Q := by
  refine ⟨rfl, ?_⟩
  have e : decide (V.int i = V.int j) = decide (i = j) := by simp
  rw [e]
  exact q
/-- the letters that are drawn from a text, each or not -/
theorem lc_drawn {K : PySem.W.Frag} {te : TE} {E : XK} {a l : Addr} {m : Nat} {x1 : V} {σ : L2.St} {H : Hp} {z : Str} {Q : VK} (hσ : σ = [some (.ref a), some x1, none, none]) (h : ET te σ H (.str z)) (hz : z.cps.size ≤ 1000) (hd : Dr H a l (m + z.cps.size))
    (q : ∀ (p : Addr) (L : List Nat) (H' : Hp), L.Sublist z.cps.toList → SmB a H H' → Dr H' a l m → H' p = some (.lst (L.map fun c => V.str ⟨#[c]⟩)) → p ≠ a → Q (.ref p) H') :
    tLc (iStr te) (gName 3) (tTest (tOp rEq (tCall sp_next [] E (tCons (tVar 0) (tCons (tC (.int 2)) tNil))) (tC (.int 0)))) (tVar 3) [3] σ H Q := by
  subst hσ
  refine h.use fun v H1 s1 r1 => ?_
  have e1 := r1.str_inv
  subst e1
  have hd1 := hd.same s1
  refine ⟨z, rfl, fun D hD => ?_⟩
  have naD : a ≠ D := by
    obtain ⟨c, hc, _⟩ := hd1.st
    exact ne_of_none hc hD
  have sD : Same H1 (upd H1 D (.lst [])) := same_new hD _
  refine lc_it walk_str (fun i Hc => SmB a H1 Hc ∧ Dr Hc a l (m + (z.cps.size - i)) ∧ ∃ L : List Nat, L.Sublist (z.cps.toList.take i) ∧ Hc D = some (.lst (L.map fun c => V.str ⟨#[c]⟩))) ⟨smb sD, by rw [Nat.sub_zero]; exact hd1.same sD, [], by simp, upd_same⟩ (fun _ _ _ _ => trivial) (fun i x Hc Hc' hi ⟨i1, i2, L, hL, hDL⟩ ⟨e1, c, hc, e2⟩ => ?_) (fun Hc ⟨i1, i2, L, hL, hDL⟩ => ?_)
  · subst e1
    subst e2
    refine ⟨rfl, ?_⟩
    refine ⟨_, rfl, ?_⟩
    refine ⟨a, l, 2, m + (z.cps.size - (i + 1)), rfl, i2.less (by omega), by omega, fun r H3 hr s3 d3 => ?_⟩
    dsimp only [tC]
    refine req_int ?_
    refine ⟨_, rfl, ?_⟩
    have d4 := d3
    have s34 : SmB a Hc' H3 := s3
    have hD4 : H3 D = some (.lst (L.map fun c => V.str ⟨#[c]⟩)) := s34 D _ naD.symm hDL
    have htk : z.cps.toList.take (i + 1) = z.cps.toList.take i ++ [c] := take_succ (by simpa using hc)
    have hLl : L.length ≤ i := Nat.le_trans hL.length_le (by rw [List.length_take]; omega)
    by_cases e : (r : Int) = 0
    · rw [if_pos (by simpa using e)]
      refine ⟨_, rfl, _, hD4, sz_lt (by rw [List.length_map]; omega), fun b o n hb => ?_, ?_, L ++ [c], ?_, ?_⟩
      · have nb : b ≠ D := fun x => by subst x; rw [hD] at hb; cases hb
        rw [upd_ne nb]
        exact s34 b o n (i1 b o n hb)
      · obtain ⟨⟨c0, h0, hc0⟩, ⟨ns, hl⟩, ne⟩ := d4
        have nl : l ≠ D := fun x => by subst x; rw [hD4] at hl; obtain ⟨ns1, hl1⟩ := hd1.sc; rw [hD] at hl1; cases hl1
        exact ⟨⟨c0, by rw [upd_ne naD]; exact h0, hc0⟩, ⟨ns, by rw [upd_ne nl]; exact hl⟩, ne⟩
      · rw [htk]; exact hL.append (List.Sublist.refl _)
      · rw [upd_same, List.map_append]; rfl
    · rw [if_neg (by simpa using e)]
      refine ⟨i1.trans s34, d4, L, ?_, hD4⟩
      rw [htk]; exact hL.trans (List.sublist_append_left _ _)
  · have : z.cps.toList.take z.cps.size = z.cps.toList := by rw [← Array.length_toList, List.take_length]
    rw [this] at hL
    refine q D L Hc hL ((smb s1).trans i1) (i2.less (by omega)) hDL naD.symm
end

section

def pre_size (ds : List PyData) : Prop := ∃ s : Nat, ds = [.int (s : Nat)] ∧ 1 ≤ s ∧ s ≤ 3
def F_letters (ds : List PyData) (d : PyData) : Prop := ∃ (s : Nat) (z : Str), ds = [.int (s : Nat)] ∧ d = .str z ∧ goodZ s z = true ∧ PyData.canLay0 (.str z) = true
theorem subs3 {L : List Nat} (h : L.Sublist [97, 98, 99]) : L = [] ∨ L = [97] ∨ L = [98] ∨ L = [99] ∨ L = [97, 98] ∨ L = [97, 99] ∨ L = [98, 99] ∨ L = [97, 98, 99] := by
  simp only [List.sublist_cons_iff, List.sublist_nil] at h
  rcases h with ((h | ⟨r, rfl, rfl⟩) | ⟨r, rfl, (rfl | ⟨r2, rfl, rfl⟩)⟩) | ⟨r, rfl, ((rfl | ⟨r2, rfl, rfl⟩) | ⟨r2, rfl, (rfl | ⟨r3, rfl, rfl⟩)⟩)⟩ <;> simp_all
theorem abc_list (s : Nat) : (abcS s).cps.toList = [97, 98, 99].take s := by
  unfold abcS cutS
  rw [HT.sIx_none, HT.sIx_nat]
  show (([97, 98, 99].drop 0).take (min s 3 - 0)).toArray.toList = _
  rw [List.drop_zero, Nat.sub_zero]
  have : s ≤ 3 ∨ 3 < s := by omega
  rcases this with h | h
  · rw [Nat.min_eq_left h]
  · rw [Nat.min_eq_right (by omega), List.take_of_length_le (by simp : [97, 98, 99].length ≤ 3), List.take_of_length_le (by simp; omega)]
theorem sub_good {s : Nat} {L : List Nat} (h1 : 1 ≤ s) (h3 : s ≤ 3) (h : L.Sublist (abcS s).cps.toList) (hn : L ≠ []) : goodZ s (txt L) = true ∧ PyData.canLay0 (.str (txt L)) = true := by
  rw [abc_list] at h
  have hs : s = 1 ∨ s = 2 ∨ s = 3 := by omega
  have hL := subs3 (h.trans (List.take_sublist _ _))
  rcases hs with rfl | rfl | rfl <;> rcases hL with rfl | rfl | rfl | rfl | rfl | rfl | rfl | rfl <;> first
    | exact absurd rfl hn
    | exact ⟨by decide +kernel, by decide +kernel⟩
    | (exfalso; revert h; decide)
theorem sq_of {te : TE} {σ : L2.St} {H : Hp} {D : Ends} {r : TS} {i : Nat} (h : te σ H fun v H1 => r D (σ.set i (some v)) H1) : tSeq (tAsg te (gName i)) r D σ H := h
section
variable {P : Program} {w : World} {K : PySem.W.Frag} {mg : Str → Option Value} {base : Heap}
theorem c_Lletters (T : Tx mg) (D : Df K mg "_law_letters" s_Lletters ["_law_draw_here", "_law_size"]) (c_Lnext : C8.Cal P w K mg base 3 "_law_next" sp_next []) : C8.Cal P w K mg base 4 "_law_letters" (spD 4 1 pre_size F_letters) [] := by
  refine df_mk D sc_Lletters spD.len fun f cdv A outer s H vs Q E hr h => ?_
  obtain ⟨a, l, m, vr, ds, rfl, hd, hn, hv, ⟨n, rfl, hn1, hn3⟩, q⟩ := h
  obtain _ | @⟨x1, _, _, _, h1, _ | _⟩ := hv
  refine ⟨_, (pss_cons (ps_setLc (i := 2) (own := [("_law_letter", 3)]) rfl sc_Lletters.nd rfl rfl (sw_true rfl rfl rfl (by decide +kernel)) (pi_str (pe_slice sl_str pe_str po_none (po_some (pv 1)))) (blkOk_by (N := ["_law_draw_here", "_law_size", "_law_found", "_law_letter"]) (sc := C8.fnScope s_Lletters) (by decide +kernel)) (fun _ _ _ _ _ => pg_name (i := 3) sc_Lletters.nd rfl (Or.inl rfl)) (fun _ _ _ _ _ => (pts_one (pt_cmpR op_eq (C8.pe_c c_Lnext hr (by omega) rfl (pa_cons (pv 0) (pa_cons pe_int pa_nil))) pe_int (nomark _)))) (fun _ _ _ _ _ => (pv 3)))
    (pss_one (ps_ret (pe_ifExp (pt_cmpR (op_neK (K := K) rfl hr.units) (pv 2) (pe_lst pa_nil) (nomark _)) (pe_join pe_str (pv 2)) (pe_ix ix_str pe_str (C8.pe_c c_Lnext hr (by omega) rfl (pa_cons (pv 0) (pa_cons (pv 1) pa_nil))) (fun _ _ => rfl)))))), ?_⟩
  have hsz : (abcS n).cps.size ≤ 3 := by rw [← Array.length_toList, abc_list, List.length_take]; simp; omega
  refine sq_of (i := 2) (σ := [some (.ref a), some x1, none, none]) (lc_drawn (K := K) (m := m + 1) (x1 := x1) (z := abcS n) rfl (et_slS (z := "abc") et_str eo_none (eo_some (et_var (i := 1) rfl h1)) (by decide)) (by omega) (hd.less (by omega)) fun p L H1 hL sb hd1 hp np => ?_)
  have hl : Lp H1 (.ref p) (L.map fun c => PyData.str ⟨#[c]⟩) := ⟨p, _, rfl, hp, by
    clear hp hL
    induction L with
    | nil => exact .nil
    | cons c L ih => exact .cons (.str _) ih⟩
  have h11 := h1.mono (sb.t hd.nt)
  have hsh : SeqAt.shaped (.list (L.map fun c => PyData.str ⟨#[c]⟩)) = true := (shp.lst (k := 2) (.of fun d hd => by
    obtain ⟨c, hc, rfl⟩ := List.mem_map.mp hd
    have hc' : c ∈ [97, 98, 99] := by
      have := hL.subset hc
      rw [abc_list] at this
      exact List.mem_of_mem_take this
    simp only [List.mem_cons, List.not_mem_nil, or_false] at hc'
    rcases hc' with rfl | rfl | rfl <;> exact .str (by decide +kernel))).shaped
  have tst := eb_test (et_neNilL (K := K) (ta := tVar 2) (σ := [some (.ref a), some x1, some (.ref p), none]) (H := H1) (el_var rfl hl) hsh)
  cases L with
  | nil =>
    refine tst H1 (Same.refl _) _ fun H2 s2 => iteF ?_
    have hd2 := hd1.same s2
    refine ⟨_, rfl, _, rfl, ?_⟩
    have e1 := (h11.mono (tle s2)).int_inv
    subst e1
    refine ⟨a, l, n, m, rfl, hd2, by omega, fun r H3 hr3 s3 d3 => ?_⟩
    have hr' : r < 3 := by omega
    have hat : ∃ c, atI (Str.ofString "abc").cps.toList (r : Int) = some c ∧ goodZ n ⟨#[c]⟩ = true ∧ PyData.canLay0 (.str ⟨#[c]⟩) = true := by
      have hn' : n = 1 ∨ n = 2 ∨ n = 3 := by omega
      have hr4 : r = 0 ∨ r = 1 ∨ r = 2 := by omega
      rcases hn' with rfl | rfl | rfl <;> rcases hr4 with rfl | rfl | rfl <;> first
        | omega
        | exact ⟨97, by decide +kernel, by decide +kernel, by decide +kernel⟩
        | exact ⟨98, by decide +kernel, by decide +kernel, by decide +kernel⟩
        | exact ⟨99, by decide +kernel, by decide +kernel, by decide +kernel⟩
    obtain ⟨c, hc, g1, g2⟩ := hat
    exact ⟨"abc", (r : Int), c, rfl, rfl, by decide, hc, q _ H3 (.str ⟨#[c]⟩) ((sb.trans (smb s2)).trans s3) d3 ⟨n, _, rfl, rfl, g1, g2⟩ (.str _)⟩
  | cons c L =>
    refine tst H1 (Same.refl _) _ fun H2 s2 => iteT ?_
    obtain ⟨g1, g2⟩ := sub_good hn1 hn3 hL (by simp)
    have hp2 := s2 _ _ hp
    have e2 : ((c :: L).map fun c => V.str ⟨#[c]⟩) = ((c :: L).map fun c => (⟨#[c]⟩ : Str)).map V.str := by rw [List.map_map]; rfl
    rw [e2] at hp2
    have hlen : (c :: L).length ≤ 3 := Nat.le_trans hL.length_le (by rw [Array.length_toList]; exact hsz)
    refine ⟨⟨"", rfl⟩, _, rfl, "", p, (c :: L).map fun c => (⟨#[c]⟩ : Str), rfl, rfl, .inl (SqL.of hp2), ?_, ?_⟩
    · rw [sign_sum]
      have : (Str.ofString "").length = 0 := rfl
      rw [this]; omega
    · rw [TL.join_eq, join_signs]
      exact q _ H2 (.str (txt (c :: L))) (sb.trans (smb s2)) ((hd1.same s2).less (by omega)) ⟨n, _, rfl, rfl, g1, g2⟩ (.str _)
end
end

section

abbrev s_Ltext : Stmt := topS 60
theorem sc_Ltext : FnScope ["_law_draw_here", "_law_size", "_law_most", "_law_turn"] ["_law_draw_here", "_law_size", "_law_most"] (C8.fnScope s_Ltext) := C8.fnScope_by (by decide +kernel)
def pre_text (ds : List PyData) : Prop := ∃ s k : Nat, ds = [.int (s : Nat), .int (k : Nat)] ∧ 1 ≤ s ∧ s ≤ 3 ∧ k ≤ 6
def F_text (ds : List PyData) (d : PyData) : Prop := ∃ (s k : Nat) (z : Str), ds = [.int (s : Nat), .int (k : Nat)] ∧ d = .str z ∧ inAbc s z = true ∧ z.length ≤ k ∧ z.length ≤ 6
theorem abc_at {s r : Nat} (h3 : s ≤ 3) (hr : r < s) : ∃ c, atI (Str.ofString "abc").cps.toList (r : Int) = some c ∧ c ∈ (abcS s).cps.toList := by
  have hl : (abcS s).cps.toList[r]? = [97, 98, 99][r]? := by rw [abc_list, List.getElem?_take, if_pos hr]
  obtain ⟨c, hc⟩ : ∃ c, ([97, 98, 99] : List Nat)[r]? = some c := ⟨_, List.getElem?_eq_getElem (by simp; omega)⟩
  exact ⟨c, atI_nat (xs := (Str.ofString "abc").cps.toList) (j := r) hc, List.mem_of_getElem? (hl.trans hc)⟩
section
variable {P : Program} {w : World} {K : PySem.W.Frag} {mg : Str → Option Value} {base : Heap}
theorem c_Ltext (T : Tx mg) (D : Df K mg "_law_text" s_Ltext ["_law_draw_here", "_law_size", "_law_most"]) (c_Lnext : C8.Cal P w K mg base 3 "_law_next" sp_next []) : C8.Cal P w K mg base 4 "_law_text" (spD 7 2 pre_text F_text) [] := by
  refine df_mk D sc_Ltext spD.len fun f cdv A outer s H vs Q E hr h => ?_
  obtain ⟨a, l, m, vr, ds, rfl, hd, hn, hv, ⟨n, k, rfl, hn1, hn3, hk⟩, q⟩ := h
  obtain _ | @⟨x1, _, _, _, h1, _ | @⟨x2, _, _, _, h2, _ | _⟩⟩ := hv
  have e1 := h1.int_inv
  have e2 := h2.int_inv
  subst e1 e2
  refine ⟨_, (pss_one (ps_ret (pe_join pe_str (pe_lc (own := [("_law_turn", 3)]) rfl sc_Ltext.nd (pi_range1 rfl T.m_range (pa_cons (C8.pe_c c_Lnext hr (by omega) rfl (pa_cons (pv 0) (pa_cons (pe_op op_add (pv 2) pe_int) pa_nil))) pa_nil)) (blkOk_by (N := ["_law_draw_here", "_law_size", "_law_most", "_law_turn"]) (sc := C8.fnScope s_Ltext) (by decide +kernel)) (fun _ _ _ _ _ => pg_name (i := 3) sc_Ltext.nd rfl (Or.inl rfl)) (fun _ _ _ _ _ => pts_nil) (fun _ _ _ _ _ => (pe_ix ix_str pe_str (C8.pe_c c_Lnext hr (by omega) rfl (pa_cons (pv 0) (pa_cons (pv 1) pa_nil))) (fun _ _ => rfl))))))), ?_⟩
  refine ⟨⟨"", rfl⟩, _, rfl, ?_⟩
  refine (et_add (i := (k : Int)) (j := 1) (ta := tVar 2) (tb := tC (.int 1)) (σ := [some (.ref a), some (.int (n : Nat)), some (.int (k : Nat)), none]) (H := H) (et_var rfl (.int _)) et_int).use fun v1 H1 s1 r1 => ?_
  have e1 := r1.int_inv
  rw [show ((k : Int) + 1) = ((k + 1 : Nat) : Int) by omega] at e1
  subst e1
  refine ⟨a, l, k + 1, m + 6, rfl, (hd.same s1).less (by omega), by omega, fun j H2 hj sb2 d2 => ?_⟩
  refine ⟨(j : Int), rfl, by omega, by omega, fun D hD => ?_⟩
  rw [Int.toNat_natCast]
  have naD : a ≠ D := by
    obtain ⟨c, hc, _⟩ := d2.st
    exact ne_of_none hc hD
  have sD : Same H2 (upd H2 D (.lst [])) := same_new hD _
  refine lc_it walk_range (fun i Hc => SmB a H2 Hc ∧ Dr Hc a l (m + (6 - i)) ∧ ∃ L : List Nat, L.length = i ∧ (∀ c ∈ L, c ∈ (abcS n).cps.toList) ∧ Hc D = some (.lst (L.map fun c => V.str ⟨#[c]⟩))) ⟨smb sD, (d2.same sD).less (by omega), [], rfl, by simp, upd_same⟩ (fun _ _ _ _ => trivial) (fun i x Hc Hc' hi ⟨i1, i2, L, hL, hm, hDL⟩ ⟨e1, e2⟩ => ?_) (fun Hc ⟨i1, i2, L, hL, hm, hDL⟩ => ?_)
  · subst e1
    subst e2
    refine ⟨rfl, _, rfl, _, rfl, ?_⟩
    refine ⟨a, l, n, m + (6 - (i + 1)), rfl, i2.less (by omega), by omega, fun r H3 hr3 s3 d3 => ?_⟩
    obtain ⟨c, hc, hmem⟩ := abc_at hn3 hr3
    have hD4 : H3 D = some (.lst (L.map fun c => V.str ⟨#[c]⟩)) := s3 D _ naD.symm hDL
    refine ⟨"abc", (r : Int), c, rfl, rfl, by decide, hc, _, hD4, sz_lt (by rw [List.length_map]; omega), fun b o nb hb => ?_, ?_, L ++ [c], by simp [hL], ?_, ?_⟩
    · have nb2 : b ≠ D := fun x => by subst x; rw [hD] at hb; cases hb
      rw [upd_ne nb2]
      exact s3 b o nb (i1 b o nb hb)
    · obtain ⟨⟨c0, h0, hc0⟩, ⟨ns, hl⟩, ne⟩ := d3
      have nl : l ≠ D := fun x => by subst x; obtain ⟨ns1, hl1⟩ := d2.sc; rw [hD] at hl1; cases hl1
      exact ⟨⟨c0, by rw [upd_ne naD]; exact h0, hc0⟩, ⟨ns, by rw [upd_ne nl]; exact hl⟩, ne⟩
    · intro c' hc'
      rcases List.mem_append.mp hc' with h | h
      · exact hm c' h
      · rw [List.mem_singleton.mp h]; exact hmem
    · rw [upd_same, List.map_append]; rfl
  · have e2 : (L.map fun c => V.str ⟨#[c]⟩) = (L.map fun c => (⟨#[c]⟩ : Str)).map V.str := by rw [List.map_map]; rfl
    rw [e2] at hDL
    refine ⟨"", D, L.map fun c => (⟨#[c]⟩ : Str), rfl, rfl, .inl (SqL.of hDL), ?_, ?_⟩
    · rw [sign_sum]
      have : (Str.ofString "").length = 0 := rfl
      rw [this]; omega
    · rw [TL.join_eq, join_signs]
      have hlen : (txt L).length = L.length := by show L.toArray.size = _; simp
      refine q _ Hc (.str (txt L)) ((smb s1).trans (sb2.trans i1)) (i2.less (by omega)) ⟨n, k, _, rfl, rfl, ?_, by omega, by omega⟩ (.str _)
      unfold inAbc
      rw [List.all_eq_true]
      intro c hc
      have : c ∈ L := by simpa [txt] using hc
      exact decide_eq_true (hm c this)
end
end

section

abbrev s_Lgrown : Stmt := topS 55
theorem sc_Lgrown : FnScope ["_law_draw_here", "_law_size", "_law_deep", "_law_kind", "_law_parts_here", "_law_turn"] ["_law_draw_here", "_law_size", "_law_deep"] (C8.fnScope s_Lgrown) := C8.fnScope_by (by decide +kernel)
def costG : Nat → Nat
  | 0 => 5
  | d + 1 => 3 * costG d + 6
def pre_grown (d : Nat) (ds : List PyData) : Prop := ∃ s : Nat, ds = [.int (s : Nat), .int (d : Nat)] ∧ 1 ≤ s ∧ s ≤ 3
def F_grown (d : Nat) (ds : List PyData) (e : PyData) : Prop := ∃ (s : Nat) (p : Pat), ds = [.int (s : Nat), .int (d : Nat)] ∧ e = enc p ∧ goodP s (d + 1) p = true ∧ okP (d + 1) p = true
theorem costG_pos : ∀ d, 5 ≤ costG d
  | 0 => Nat.le_refl _
  | d + 1 => by have := costG_pos d; rw [costG]; omega
/-- a list of data, each drawn, by range(j) -/
theorem lc_drawR {K : PySem.W.Frag} {ta : TA} {te : TE} {a l : Addr} {k c m : Nat} {σ : L2.St} {H : Hp} {Q : VK} {p : PyData → Prop} (ha : ∀ R : List V → Hp → Prop, (∀ (j : Nat) H1, 2 ≤ j → j ≤ 3 → SmB a H H1 → TLe H H1 → Dr H1 a l (m + 3 * c) → R [.int (j : Nat)] H1) → ta σ H R)
    (hs : ∀ (i m' : Nat) H1, SmB a H H1 → TLe H H1 → Dr H1 a l (m' + c) → DT a l (m' + c) m' te ((wipe σ [k]).set k (some (.int (i : Nat)))) H1 p) (hw : ∀ v, wipe ((wipe σ [k]).set k (some v)) [k] = wipe σ [k])
    (q : ∀ pl xs ds H', SmB a H H' → TLe H H' → Dr H' a l m → H' pl = some (.lst xs) → TpA H' xs ds → 2 ≤ ds.length → ds.length ≤ 3 → (∀ d ∈ ds, p d) → Q (.ref pl) H') :
    tLc (iRng1 ta) (gName k) tYes te [k] σ H Q := by
  refine ha _ fun j H1 hj2 hj sb1 t1 d1 => ?_
  refine ⟨(j : Int), rfl, by omega, by omega, fun D hD => ?_⟩
  rw [Int.toNat_natCast]
  have naD : a ≠ D := by
    obtain ⟨c, hc, _⟩ := d1.st
    exact ne_of_none hc hD
  have sD : Same H1 (upd H1 D (.lst [])) := same_new hD _
  refine lc_it walk_range (fun i Hc => SmB a H1 Hc ∧ Dr Hc a l (m + (3 - i) * c) ∧ ∃ (xs : List V) (ds : List PyData), ds.length = i ∧ (∀ d ∈ ds, p d) ∧ Hc D = some (.lst xs) ∧ TpA Hc xs ds) ⟨smb sD, (d1.same sD).less (by omega), [], [], rfl, by simp, upd_same, .nil⟩ (fun _ _ _ _ => trivial) (fun i x Hc Hc' hi ⟨i1, i2, xs, ds, hl, hp, hDL, tx⟩ ⟨e1, e2⟩ => ?_) (fun Hc ⟨i1, i2, xs, ds, hl, hp, hDL, tx⟩ => ?_)
  · subst e1
    subst e2
    have e3 : (3 - i) * c = (3 - (i + 1)) * c + c := by rw [show 3 - i = (3 - (i + 1)) + 1 by omega, Nat.add_mul, Nat.one_mul]
    have i2' : Dr Hc' a l ((m + (3 - (i + 1)) * c) + c) := i2.less (by omega)
    have tH : TLe H Hc' := t1.trans (i1.t d1.nt)
    have hdt := hs i (m + (3 - (i + 1)) * c) Hc' (sb1.trans i1) tH i2'
    refine ⟨hw _, ?_⟩
    have hx : V.int ((i : Nat) : Int) = (fun i : Nat => V.int (0 + (i : Int))) i := by simp
    rw [hx] at hdt
    refine hdt Hc' (SmB.refl _ _) i2' _ fun v H3 d s3 d3 pd r3 => ?_
    have hD3 : H3 D = some (.lst xs) := s3 D _ naD.symm hDL
    have tl3 : TLe H3 (upd H3 D (.lst (xs ++ [v]))) := tle_lst hD3
    refine ⟨xs, hD3, sz_lt (by rw [tx.length, hl]; omega), fun b o nb hb => ?_, ?_, xs ++ [v], ds ++ [d], by simp [hl], ?_, upd_same, ?_⟩
    · have nb2 : b ≠ D := fun x => by subst x; rw [hD] at hb; cases hb
      rw [upd_ne nb2]
      exact s3 b o nb (i1 b o nb hb)
    · obtain ⟨⟨c0, h0, hc0⟩, ⟨ns, hl⟩, ne⟩ := d3
      have nl : l ≠ D := fun x => by subst x; obtain ⟨ns1, hl1⟩ := d1.sc; rw [hD] at hl1; cases hl1
      exact ⟨⟨c0, by rw [upd_ne naD]; exact h0, hc0⟩, ⟨ns, by rw [upd_ne nl]; exact hl⟩, ne⟩
    · intro d' hd'
      rcases List.mem_append.mp hd' with h | h
      · exact hp d' h
      · rw [List.mem_singleton.mp h]; exact pd
    · exact ((tx.mono (s3.t i2.nt)).mono tl3).append (.cons (r3.mono tl3) .nil)
  · exact q D xs ds Hc (sb1.trans i1) (t1.trans (i1.t d1.nt)) (i2.less (by omega)) hDL tx (by omega) (by omega) hp
end

section

def spG : Nat → Sp
  | 0 => fun _ _ _ _ => False
  | d + 1 => spD (costG d) 2 (pre_grown d) (F_grown d)
theorem good_a {s : Nat} (h1 : 1 ≤ s) (h3 : s ≤ 3) : goodZ s "a" = true := by
  have hs : s = 1 ∨ s = 2 ∨ s = 3 := by omega
  rcases hs with rfl | rfl | rfl <;> decide +kernel
theorem goodP_up {s : Nat} : ∀ (k : Nat) (p : Pat), goodP s k p = true → goodP s (k + 1) p = true
  | 0, _, h => absurd h goodP_zero
  | k + 1, p, h => by
    cases p with
    | none => rfl
    | empty => rfl
    | one z => exact h
    | row ps =>
      simp only [goodP, Bool.and_eq_true, List.all_eq_true] at h ⊢
      exact ⟨h.1, fun q hq => goodP_up k q (h.2 q hq)⟩
    | any ps =>
      simp only [goodP, Bool.and_eq_true, List.all_eq_true] at h ⊢
      exact ⟨h.1, fun q hq => goodP_up k q (h.2 q hq)⟩
    | again p lo hi m =>
      simp only [goodP, Bool.and_eq_true] at h ⊢
      exact ⟨⟨goodP_up k p h.1.1, h.1.2⟩, h.2⟩
    | group p g =>
      simp only [goodP, Bool.and_eq_true] at h ⊢
      exact ⟨goodP_up k p h.1, h.2⟩
theorem pats_of {s k : Nat} : ∀ ds : List PyData, (∀ d ∈ ds, ∃ p, d = enc p ∧ goodP s k p = true ∧ okP k p = true) → ∃ ps : List Pat, ds = ps.map enc ∧ ∀ p ∈ ps, goodP s k p = true ∧ okP k p = true
  | [], _ => ⟨[], rfl, fun _ h => by cases h⟩
  | d :: ds, h => by
    obtain ⟨p, rfl, g1, g2⟩ := h d List.mem_cons_self
    obtain ⟨ps, rfl, g⟩ := pats_of ds fun d hd => h d (List.mem_cons_of_mem _ hd)
    exact ⟨p :: ps, rfl, fun q hq => by
      rcases List.mem_cons.mp hq with rfl | hq
      · exact ⟨g1, g2⟩
      · exact g q hq⟩
theorem ret_of {te : TE} {σ : L2.St} {H : Hp} {D : Ends} (h : te σ H D.rt) : tRet te D σ H := h
theorem op_of {r : R2} {ta tb : TE} {σ : L2.St} {H : Hp} {Q : VK} (h : ta σ H fun x H1 => tb σ H1 fun y H2 => r x y H2 Q) : tOp r ta tb σ H Q := h
section
variable {P : Program} {w : World} {K : PySem.W.Frag} {mg : Str → Option Value} {base : Heap}
theorem c_Lgrown_step (d : Nat) (T : Tx mg) (Df1 : Df K mg "_law_grown" s_Lgrown ["_law_draw_here", "_law_size", "_law_deep"]) (c_Lnext : C8.Cal P w K mg base 3 "_law_next" sp_next []) (c_Lpick : C8.Cal P w K mg base 4 "_law_pick" sp_pick []) (c_Lletters : C8.Cal P w K mg base 4 "_law_letters" (spD 4 1 pre_size F_letters) []) (c_Lmany : C8.Cal P w K mg base 5 "_law_many" (spD 3 1 one1 F_many) [])
    (c_Lgrown : C8.Cal P w K mg base (d + 5) "_law_grown" (spG d) []) : C8.Cal P w K mg base (d + 6) "_law_grown" (spG (d + 1)) [] := by
  refine df_mk (sp := spD (costG d) 2 (pre_grown d) (F_grown d)) Df1 sc_Lgrown spD.len fun f cdv A outer s H vs Q E hr h => ?_
  obtain ⟨a, l, m, vr, ds, rfl, hd, hn, hv, ⟨n, rfl, hn1, hn3⟩, q⟩ := h
  obtain _ | @⟨x1, _, _, _, h1, _ | @⟨x2, _, _, _, h2, _ | _⟩⟩ := hv
  have e1 := h1.int_inv
  have e2 := h2.int_inv
  subst e1 e2
  refine ⟨_, (pss_cons (ps_set (i := 3) sc_Lgrown.nd rfl (Or.inl rfl) (C8.pe_c c_Lnext hr (by omega) rfl (pa_cons (pv 0) (pa_cons pe_int pa_nil))))
    (pss_cons (ps_if (pt_cmpR op_eq (pv 3) pe_int (nomark _)) (pss_one (ps_ret (C8.pe_c c_Lpick hr (by omega) rfl (pa_cons (pv 0) (pa_cons (pe_lst (pa_cons (pe_tup (pa_cons pe_str pa_nil)) (pa_cons (pe_tup (pa_cons pe_str pa_nil)) (pa_cons (pe_tup (pa_cons pe_str (pa_cons pe_str pa_nil))) pa_nil)))) pa_nil))))) pss_nil)
    (pss_cons (ps_if (PW.pt (pw_or (pt_cmpR op_eq (pv 2) pe_int (nomark _)) (pw_or1 (pt_cmpR op_lt (pv 3) pe_int (nomark _))))) (pss_one (ps_ret (pe_tup (pa_cons pe_str (pa_cons (C8.pe_c c_Lletters hr (by omega) rfl (pa_cons (pv 0) (pa_cons (pv 1) pa_nil))) pa_nil))))) pss_nil)
    (pss_cons (ps_if (pt_cmpR op_eq (pv 3) pe_int (nomark _)) (pss_one (ps_ret (pe_tup (pa_cons pe_str (pa_cons (C8.pe_c c_Lgrown hr (by omega) rfl (pa_cons (pv 0) (pa_cons (pv 1) (pa_cons (pe_op op_sub (pv 2) pe_int) pa_nil)))) pa_nil))))) pss_nil)
    (pss_cons (ps_if (pt_cmpR op_lt (pv 3) pe_int (nomark _)) (pss_one (ps_ret (C8.pe_c c_Lmany hr (by omega) rfl (pa_cons (pv 0) (pa_cons (C8.pe_c c_Lgrown hr (by omega) rfl (pa_cons (pv 0) (pa_cons (pv 1) (pa_cons (pe_op op_sub (pv 2) pe_int) pa_nil)))) pa_nil))))) pss_nil)
    (pss_cons (ps_setLc (i := 4) (own := [("_law_turn", 5)]) rfl sc_Lgrown.nd rfl rfl (sw_true rfl rfl rfl (by decide +kernel)) (pi_range1 rfl T.m_range (pa_cons (pe_op op_add pe_int (pe_callTy call_int1 rfl T.m_int (by decide +kernel) (pa_cons (pe_cmpR op_eq (C8.pe_c c_Lnext hr (by omega) rfl (pa_cons (pv 0) (pa_cons pe_int pa_nil))) pe_int (nomark _)) pa_nil))) pa_nil)) (blkOk_by (N := ["_law_draw_here", "_law_size", "_law_deep", "_law_kind", "_law_parts_here", "_law_turn"]) (sc := C8.fnScope s_Lgrown) (by decide +kernel)) (fun _ _ _ _ _ => pg_name (i := 5) sc_Lgrown.nd rfl (Or.inl rfl)) (fun _ _ _ _ _ => pts_nil) (fun _ _ _ _ _ => (C8.pe_c c_Lgrown hr (by omega) rfl (pa_cons (pv 0) (pa_cons (pv 1) (pa_cons (pe_op op_sub (pv 2) pe_int) pa_nil))))))
    (pss_one (ps_ret (pe_op (op_catK (K := K) rfl) (pe_tup (pa_cons (C8.pe_c c_Lpick hr (by omega) rfl (pa_cons (pv 0) (pa_cons (pe_lst (pa_cons pe_str (pa_cons pe_str (pa_cons pe_str pa_nil)))) pa_nil))) pa_nil)) (pe_callTy (call_tuple_ofK (K := K) rfl) rfl T.m_tuple (by decide +kernel) (pa_cons (pv 4) pa_nil))))))))))), ?_⟩
  have hc := costG_pos d
  refine sq_setD (l := l) (m := (m + (costG d - 1)) + 1) (m' := m + (costG d - 1)) (dt_next (b := 12) (i := 0) (σ := [some (.ref a), some (.int (n : Nat)), some (.int (d : Nat)), none, none, none]) rfl hd.nt (fun H1 t1 => et_int) (by omega)) (hd.less (by omega)) fun v3 H1 e sb1 t1 d1 pd r3 => ?_
  obtain ⟨r, rfl, hr12⟩ := pd
  have e3 := r3.int_inv
  subst e3
  clear h1 h2 r3
  have letters : ∀ H2, SmB a H H2 → Dr H2 a l (m + (costG d - 1)) → tRet (tTup (tCons (tC (.str "one")) (tCons (tCall (spD 4 1 pre_size F_letters) [] C8.E0 (tCons (tVar 0) (tCons (tVar 1) tNil))) tNil))) { nx := fun _ H' => Q .non H', rt := Q } [some (.ref a), some (.int (n : Nat)), some (.int (d : Nat)), some (.int (r : Nat)), none, none] H2 := fun H2 sb2 d2 => by
    refine st_retD (l := l) (m := m + 4) (m' := m) (dt_tup (da_cons (dt_et d2.nt fun H3 t3 => et_str) (da_cons (dt_call (k := 4) (n := 1) (i := 0) rfl (da_cons (dt_et d2.nt fun H3 t3 => et_var (i := 1) rfl (.int (n : Nat))) da_nil) ?_) da_nil)) ?_) (d2.less (by omega)) fun v H3 e sb3 t3 d3 pd r => ?_
    · rintro ds ⟨e0, _, rfl, rfl, rfl⟩
      exact ⟨rfl, n, rfl, hn1, hn3⟩
    · rintro ds ⟨e0, _, rfl, _, e1, _, rfl, _, rfl⟩
      simp
    · obtain ⟨_, rfl, e0, _, rfl, rfl, e1, _, rfl, ⟨_, ⟨_, _, rfl, rfl, rfl⟩, s', z, hs, rfl, g1, g2⟩, rfl⟩ := pd
      have es : s' = n := by injection hs with h1; injection h1 with h1; omega
      subst es
      exact q v H3 _ (sb2.trans sb3) d3 ⟨s', .one z, rfl, by rw [enc], g1, g2⟩ r
  refine sq_if (σ := [some (.ref a), some (.int (n : Nat)), some (.int (d : Nat)), some (.int (r : Nat)), none, none]) (b := decide ((r : Int) = 0)) (eb_test (et_eqI (et_var (i := 3) rfl (.int _)) et_int)) (fun e H2 s2 => ?_) (fun e H2 s2 => ?_)
  · refine st_retD (l := l) (m := m + 1) (m' := m) (dt_pick (i := 0) (ls := [.tuple [.str "empty"], .tuple [.str "none"], .tuple [.str "one", .str "a"]]) rfl (d1.same s2).nt (fun H3 t3 => en_lst (ea_cons (et_tup (ea_cons et_str ea_nil) (by simp)) (ea_cons (et_tup (ea_cons et_str ea_nil) (by simp)) (ea_cons (et_tup (ea_cons et_str (ea_cons et_str ea_nil)) (by simp)) ea_nil))) (by simp)) (by simp) (by simp)) ((d1.same s2).less (by omega)) fun v H3 e sb3 t3 d3 pd r => ?_
    simp only [List.mem_cons, List.not_mem_nil, or_false] at pd
    have key : F_grown d [.int (n : Nat), .int (d : Nat)] e := by
      rcases pd with rfl | rfl | rfl
      · exact ⟨n, .empty, rfl, by rw [enc], rfl, rfl⟩
      · exact ⟨n, .none, rfl, by rw [enc], rfl, rfl⟩
      · exact ⟨n, .one "a", rfl, by rw [enc], good_a hn1 hn3, show PyData.canLay0 (.str "a") = true by decide +kernel⟩
    exact q v H3 e ((sb1.trans (smb s2)).trans sb3) d3 key r
  refine sq_if (σ := [some (.ref a), some (.int (n : Nat)), some (.int (d : Nat)), some (.int (r : Nat)), none, none]) (b := decide ((d : Int) = 0) || decide ((r : Int) < 4)) (eb_or (eb_test (et_eqI (et_var (i := 2) rfl (.int _)) et_int)) fun _ => eb_test (et_lt (et_var (i := 3) rfl (.int _)) et_int)) (fun e3 H3 s3 => ?_) (fun e3 H3 s3 => ?_)
  · exact letters H3 (sb1.trans (smb (s2.trans s3))) ((d1.same s2).same s3)
  have hd0 : d ≠ 0 := fun x => by subst x; simp at e3
  obtain ⟨d', rfl⟩ : ∃ d', d = d' + 1 := ⟨d - 1, by omega⟩
  have hcd : costG (d' + 1) = 3 * costG d' + 6 := rfl
  rw [hcd] at d1
  have self : ∀ (m' : Nat) (σ : L2.St) (H2 : Hp), σ[0]? = some (some (.ref a)) → σ[1]? = some (some (.int (n : Nat))) → σ[2]? = some (some (.int ((d' + 1 : Nat) : Int))) → (∀ xs, H2 a ≠ some (.tup xs)) →
      DT a l (m' + costG d') m' (tCall (spG (d' + 1)) [] C8.E0 (tCons (tVar 0) (tCons (tVar 1) (tCons (tOp (rI0 fun i j => .int (i - j)) (tVar 2) (tC (.int 1))) tNil)))) σ H2 (fun e => ∃ p, e = enc p ∧ goodP n (d' + 1) p = true ∧ okP (d' + 1) p = true) := fun m' σ H2 q0 q1 q2 nt => by
    have h := dt_call (E := C8.E0) (k := costG d') (n := 2) (pre := pre_grown d') (F := F_grown d') (m := m') (l := l) (P := fun ds => ds = [.int (n : Nat), .int (d' : Nat)]) q0 (t := tCons (tVar 1) (tCons (tOp (rI0 fun i j => .int (i - j)) (tVar 2) (tC (.int 1))) tNil)) (m1 := m' + costG d') (H := H2) (fun H3 s3 d3 Q' q' => ?_) (fun ds e => ⟨by rw [e]; rfl, n, e, hn1, hn3⟩)
    · refine h.to ?_
      rintro e ⟨ds, rfl, s', p, hs, rfl, g1, g2⟩
      have es : s' = n := by injection hs with h1; injection h1 with h1; omega
      subst es
      exact ⟨p, rfl, g1, g2⟩
    · have e1 : (((d' + 1 : Nat) : Int)) - 1 = (d' : Nat) := by omega
      refine EA.use (ea_cons (et_var (H := H3) q1 (.int (n : Nat))) (ea_cons (ET.to (et_sub (et_var q2 (.int ((d' + 1 : Nat) : Int))) et_int) (congrArg PyData.int e1)) ea_nil)) fun vs H4 s4 r4 => ?_
      exact q' vs H4 _ (smb s4) (d3.same s4) rfl r4
  have d4 := (d1.same s2).same s3
  have sb4 := sb1.trans (smb (a := a) (s2.trans s3))
  have fin : ∀ (v : V) (H' : Hp) (p : Pat), SmB a H H' → Dr H' a l m → goodP n (d' + 2) p = true → okP (d' + 2) p = true → Tp H' v (enc p) → Q v H' := fun v H' p s d g1 g2 r => q v H' (enc p) s d ⟨n, p, rfl, rfl, g1, g2⟩ r
  clear letters
  refine sq_if (σ := [some (.ref a), some (.int (n : Nat)), some (.int ((d' + 1 : Nat) : Int)), some (.int (r : Nat)), none, none]) (b := decide ((r : Int) = 4)) (eb_test (et_eqI (et_var (i := 3) rfl (.int _)) et_int)) (fun e5 H5 s5 => ?_) (fun e5 H5 s5 => ?_)
  · refine st_retD (l := l) (m := m + costG d') (m' := m) (dt_tup (da_cons (dt_et (d4.same s5).nt fun H3 t3 => et_str) (da_cons (self m _ _ rfl rfl rfl (d4.same s5).nt) da_nil)) ?_) ((d4.same s5).less (by omega)) fun v H6 e sb6 t6 d6 pd r6 => ?_
    · rintro ds ⟨e0, _, rfl, _, e1, _, rfl, _, rfl⟩
      simp
    · obtain ⟨_, rfl, e0, _, rfl, rfl, e1, _, rfl, ⟨p, rfl, g1, g2⟩, rfl⟩ := pd
      refine fin v H6 (.group p .none) ((sb4.trans (smb s5)).trans sb6) d6 ?_ g2 (by rw [enc]; exact r6)
      show (goodP n (d' + 1) p && decide ((none : Option Nat) = none)) = true
      rw [g1]; rfl
  refine sq_if (σ := [some (.ref a), some (.int (n : Nat)), some (.int ((d' + 1 : Nat) : Int)), some (.int (r : Nat)), none, none]) (b := decide ((r : Int) < 7)) (eb_test (et_lt (et_var (i := 3) rfl (.int _)) et_int)) (fun e6 H6 s6 => ?_) (fun e6 H6 s6 => ?_)
  · have d6 := (d4.same s5).same s6
    refine st_retD (l := l) (m := (m + 3) + costG d') (m' := m) (dt_call (k := 3) (n := 1) (i := 0) rfl (da_cons (self (m + 3) _ _ rfl rfl rfl d6.nt) da_nil) ?_) (d6.less (by omega)) fun v H7 e sb7 t7 d7 pd r7 => ?_
    · rintro ds ⟨e0, _, rfl, _, rfl⟩
      exact ⟨rfl, e0, rfl⟩
    · obtain ⟨_, ⟨e0, _, rfl, ⟨p, rfl, g1, g2⟩, rfl⟩, x, lo, hi, mm, hx, hlo, hhi, rfl⟩ := pd
      cases hx
      refine fin v H7 (.again p lo hi mm) ((sb4.trans (smb (s5.trans s6))).trans sb7) d7 ?_ g2 (by rw [enc]; exact r7)
      show (goodP n (d' + 1) p && decide (lo ≤ 3) && goodHi lo hi) = true
      rw [g1, hhi, decide_eq_true hlo]; rfl
  have d6 := (d4.same s5).same s6
  refine sq_of (i := 4) (σ := [some (.ref a), some (.int (n : Nat)), some (.int ((d' + 1 : Nat) : Int)), some (.int (r : Nat)), none, none]) (lc_drawR (K := K) (a := a) (l := l) (m := m + 1) (c := costG d') (k := 5) (p := fun e => ∃ p, e = enc p ∧ goodP n (d' + 1) p = true ∧ okP (d' + 1) p = true) (fun R hR => ?_) (fun i m' H7 sb7 t7 d7 => self m' _ H7 rfl rfl rfl d7.nt) (fun v => rfl) fun pl xs ds H7 sb7 t7 d7 hpl tx hl2 hl3 hp => ?_)
  · refine ⟨_, rfl, a, l, 4, m + 1 + 3 * costG d', rfl, d6.less (by omega), by omega, fun r4 H7 hr4 sb7 d7 => ?_⟩
    dsimp only [tC]
    refine req_int ?_
    by_cases e7 : (r4 : Int) = 0
    · rw [decide_eq_true e7]
      exact .inr ⟨true, rfl, 2, 1, rfl, rfl, hR 3 H7 (by omega) (by omega) sb7 (sb7.t d6.nt) d7⟩
    · rw [decide_eq_false e7]
      exact .inr ⟨false, rfl, 2, 0, rfl, rfl, hR 2 H7 (by omega) (by omega) sb7 (sb7.t d6.nt) d7⟩
  obtain ⟨ps, rfl, hps⟩ := pats_of ds hp
  rw [List.length_map] at hl2 hl3
  have sb8 := (sb4.trans (smb (s5.trans s6))).trans sb7
  refine ret_of (op_of (dt_tup (l := l) (m := m + 1) (m' := m) (σ := [some (.ref a), some (.int (n : Nat)), some (.int ((d' + 1 : Nat) : Int)), some (.int (r : Nat)), some (.ref pl), none]) (da_cons (dt_pick (E := C8.E0) (i := 0) (te := tLst (tCons (tC (.str "row")) (tCons (tC (.str "row")) (tCons (tC (.str "any")) tNil)))) (ls := [.str "row", .str "row", .str "any"]) rfl d7.nt (fun H3 t3 => en_lst (ea_cons et_str (ea_cons et_str (ea_cons et_str ea_nil))) (by simp)) (by simp) (by simp)) da_nil) ?_ H7 (SmB.refl _ _) d7 _ fun v H8 e sb9 d8 pd r8 => ?_))
  · rintro ds ⟨e0, _, rfl, _, rfl⟩
    simp
  obtain ⟨_, rfl, e0, _, rfl, pe0, rfl⟩ := pd
  have npl : pl ≠ a := fun x => by
    subst x
    obtain ⟨c, hc, _⟩ := d7.st
    rw [hpl] at hc
    have hx : xs = [.ref l, .int 0, .int (c : Nat)] := by injection hc with h; injection h
    subst hx
    obtain ⟨ds', tx'⟩ : ∃ ds, TpA H7 [V.ref l, .int 0, .int (c : Nat)] ds := ⟨_, tx⟩
    cases tx' with
    | cons h _ =>
      obtain ⟨ns, hl⟩ := d7.sc
      cases h with
      | tup hh _ => rw [hl] at hh; cases hh
  have hpl8 := sb9 _ _ npl hpl
  have tx8 := tx.mono (sb9.t d7.nt)
  obtain ⟨pt, ys, rfl, hpt, ry⟩ := r8.tuple_inv
  refine ⟨_, rfl, pl, xs, rfl, .inl ⟨SqL.of hpl8, fun z hz => ?_⟩⟩
  have tz : Same H8 (upd H8 z (.tup xs)) := same_new hz _
  have ly : ys.length = 1 := ry.length
  have lx : xs.length = ps.length := by rw [tx.length, List.length_map]
  refine ⟨pt, z, ys, xs, rfl, rfl, SqT.of (tz _ _ hpt), SqT.of upd_same, sz_ok (by omega), (fun e => by rw [e] at ly; cases ly), (fun _ e => by rw [e] at lx; simp at lx; omega), fun _ _ y hy => ?_⟩
  have ty : TLe H8 (upd (upd H8 z (.tup xs)) y (.tup (ys ++ xs))) := (tle tz).trans (tle (same_new hy _))
  have rr : Tp (upd (upd H8 z (.tup xs)) y (.tup (ys ++ xs))) (.ref y) (.tuple (e0 :: ps.map enc)) := .tup upd_same ((ry.mono ty).append (tx8.mono ty))
  have hall : goodP n (d' + 2) (.row ps) = true ∧ okP (d' + 2) (.row ps) = true := by
    simp only [goodP, okP, Bool.and_eq_true, decide_eq_true_eq, List.all_eq_true]
    exact ⟨⟨⟨hl2, by omega⟩, fun q hq => (hps q hq).1⟩, by omega, fun q hq => (hps q hq).2⟩
  have sbf := (sb8.trans sb9).trans (smb (tz.trans (same_new hy (.tup (ys ++ xs)))))
  have df := (d8.same tz).same (same_new hy (.tup (ys ++ xs)))
  simp only [List.mem_cons, List.not_mem_nil, or_false] at pe0
  rcases pe0 with rfl | rfl | rfl
  · exact fin _ _ (.row ps) sbf df hall.1 hall.2 (by rw [enc, encs_map]; exact rr)
  · exact fin _ _ (.row ps) sbf df hall.1 hall.2 (by rw [enc, encs_map]; exact rr)
  · exact fin _ _ (.any ps) sbf df hall.1 hall.2 (by rw [enc, encs_map]; exact rr)
end
end

section

abbrev s_Lpattern : Stmt := topS 59
theorem sc_Lpattern : FnScope ["_law_draw_here", "_law_size", "_law_most", "_law_found"] ["_law_draw_here", "_law_size", "_law_most"] (C8.fnScope s_Lpattern) := C8.fnScope_by (by decide +kernel)
def pre_pattern (ds : List PyData) : Prop := ∃ s : Nat, ds = [.int (s : Nat), .int 8] ∧ 1 ≤ s ∧ s ≤ 3
def drawnP (s : Nat) (p : Pat) : Prop := goodAll s p ∧ goodP s 4 p = true ∧ okP 4 p = true
def F_pattern (ds : List PyData) (e : PyData) : Prop := ∃ (s : Nat) (p : Pat), ds = [.int (s : Nat), .int 8] ∧ e = enc p ∧ drawnP s p
theorem goodP_le {s j k : Nat} {p : Pat} (h : goodP s j p = true) (e : j ≤ k) : goodP s k p = true := by
  induction k with
  | zero =>
    have : j = 0 := by omega
    subst this; exact h
  | succ k ih =>
    by_cases c : j ≤ k
    · exact goodP_up k p (ih c)
    · have : j = k + 1 := by omega
      subst this; exact h
theorem parts1 {s : Nat} {p : Pat} (h : goodP s 1 p = true) : partsF p = 1 := by
  cases p with
  | none => rfl
  | empty => rfl
  | one z => rfl
  | row ps =>
    simp only [goodP, Bool.and_eq_true, decide_eq_true_eq, List.all_eq_true] at h
    cases ps with
    | nil => simp at h
    | cons q qs => exact absurd (h.2 q List.mem_cons_self) (by simp [goodP])
  | any ps =>
    simp only [goodP, Bool.and_eq_true, decide_eq_true_eq, List.all_eq_true] at h
    cases ps with
    | nil => simp at h
    | cons q qs => exact absurd (h.2 q List.mem_cons_self) (by simp [goodP])
  | again p lo hi m =>
    simp only [goodP, Bool.and_eq_true] at h
    exact absurd h.1.1 (by simp)
  | group p g =>
    simp only [goodP, Bool.and_eq_true] at h
    exact absurd h.1 (by simp)
theorem partsL_le : ∀ (ps : List Pat), (∀ q ∈ ps, partsF q = 1) → partsL ps = ps.length
  | [], _ => rfl
  | q :: ps, h => by rw [partsL, h q List.mem_cons_self, partsL_le ps fun q hq => h q (List.mem_cons_of_mem _ hq), List.length_cons]; omega
theorem parts2 {s : Nat} {p : Pat} (h : goodP s 2 p = true) : partsF p ≤ 5 := by
  have h1 := goodP_inner h
  have h2 := inner_len h
  rw [parts_inner, partsL_le _ fun q hq => parts1 (h1 q hq)]
  omega
section
variable {P : Program} {w : World} {K : PySem.W.Frag} {mg : Str → Option Value} {base : Heap}
theorem c_Lgrown_all (T : Tx mg) (Df1 : Df K mg "_law_grown" s_Lgrown ["_law_draw_here", "_law_size", "_law_deep"]) (c_Lnext : C8.Cal P w K mg base 3 "_law_next" sp_next []) (c_Lpick : C8.Cal P w K mg base 4 "_law_pick" sp_pick []) (c_Lletters : C8.Cal P w K mg base 4 "_law_letters" (spD 4 1 pre_size F_letters) []) (c_Lmany : C8.Cal P w K mg base 5 "_law_many" (spD 3 1 one1 F_many) []) :
    ∀ d, C8.Cal P w K mg base (d + 5) "_law_grown" (spG d) []
  | 0 => cal_none Df1 fun vs H Q E h => h
  | d + 1 => c_Lgrown_step d T Df1 c_Lnext c_Lpick c_Lletters c_Lmany (c_Lgrown_all T Df1 c_Lnext c_Lpick c_Lletters c_Lmany d)
end
end

section

section
variable {P : Program} {w : World} {K : PySem.W.Frag} {mg : Str → Option Value} {base : Heap}
theorem c_Lpattern (T : Tx mg) (Df1 : Df K mg "_law_pattern" s_Lpattern ["_law_draw_here", "_law_size", "_law_most"]) (c_Lgrown : ∀ d, C8.Cal P w K mg base (d + 5) "_law_grown" (spG d) []) (c_Lletters : C8.Cal P w K mg base 4 "_law_letters" (spD 4 1 pre_size F_letters) [])
    (c_Lparts : C8.Cal P w K mg base 13 "_law_parts" (spT 1 (F_parts_of 12)) []) (c_Lweight : C8.Cal P w K mg base 13 "_law_weight" (spT 1 (F_weight_of 12)) []) : C8.Cal P w K mg base 14 "_law_pattern" (spD 300 2 pre_pattern F_pattern) [] := by
  refine df_mk Df1 sc_Lpattern spD.len fun f cdv A outer s H vs Q E hr h => ?_
  obtain ⟨a, l, m, vr, ds, rfl, hd, hn, hv, ⟨n, rfl, hn1, hn3⟩, q⟩ := h
  obtain _ | @⟨x1, _, _, _, h1, _ | @⟨x2, _, _, _, h2, _ | _⟩⟩ := hv
  have e1 := h1.int_inv
  have e2 := h2.int_inv
  subst e1 e2
  refine ⟨_, (pss_cons (ps_set (i := 3) sc_Lpattern.nd rfl (Or.inl rfl) (C8.pe_c (c_Lgrown 4) hr (by omega) rfl (pa_cons (pv 0) (pa_cons (pv 1) (pa_cons pe_int pa_nil)))))
    (pss_cons (ps_if (PW.pt (pw_or (pt_cmpR op_gt (C8.pe_c c_Lparts hr (by omega) rfl (pa_cons (pv 3) pa_nil)) pe_int (nomark _)) (pw_or1 (pt_cmpR op_gt (C8.pe_c c_Lweight hr (by omega) rfl (pa_cons (pv 3) pa_nil)) (pv 2) (nomark _))))) (pss_one (ps_set (i := 3) sc_Lpattern.nd rfl (Or.inl rfl) (C8.pe_c (c_Lgrown 2) hr (by omega) rfl (pa_cons (pv 0) (pa_cons (pv 1) (pa_cons pe_int pa_nil)))))) pss_nil)
    (pss_cons (ps_if (pt_cmpR op_gt (C8.pe_c c_Lweight hr (by omega) rfl (pa_cons (pv 3) pa_nil)) (pv 2) (nomark _)) (pss_one (ps_set (i := 3) sc_Lpattern.nd rfl (Or.inl rfl) (pe_tup (pa_cons pe_str (pa_cons (C8.pe_c c_Lletters hr (by omega) rfl (pa_cons (pv 0) (pa_cons (pv 1) pa_nil))) pa_nil))))) pss_nil)
    (pss_one (ps_ret (pv 3)))))), ?_⟩
  have c3 : costG 3 = 213 := rfl
  have c1 : costG 1 = 21 := rfl
  have gr : ∀ (d m' : Nat) (v3 : Option V) (H2 : Hp), (∀ xs, H2 a ≠ some (.tup xs)) → DT a l (m' + costG d) m' (tCall (spG (d + 1)) [] C8.E0 (tCons (tVar 0) (tCons (tVar 1) (tCons (tC (.int (d : Nat))) tNil)))) [some (.ref a), some (.int (n : Nat)), some (.int 8), v3] H2 (fun e => ∃ p, e = enc p ∧ goodP n (d + 1) p = true ∧ okP (d + 1) p = true) := fun d m' v3 H2 nt => by
    have h := dt_call (E := C8.E0) (σ := [some (.ref a), some (.int (n : Nat)), some (.int 8), v3]) (i := 0) (k := costG d) (n := 2) (pre := pre_grown d) (F := F_grown d) (m := m') (l := l) (t := tCons (tVar 1) (tCons (tC (.int (d : Nat))) tNil)) (m1 := m' + costG d) (H := H2) rfl (da_cons (dt_et nt fun H3 t3 => et_var (i := 1) rfl (.int (n : Nat))) (da_cons (dt_et nt fun H3 t3 => et_int (i := ((d : Nat) : Int))) da_nil)) ?_
    · refine h.to ?_
      rintro e ⟨_, ⟨_, _, rfl, rfl, _, _, rfl, rfl, rfl⟩, s', p, hs, rfl, g1, g2⟩
      have es : s' = n := by injection hs with h1; injection h1 with h1; omega
      subst es
      exact ⟨p, rfl, g1, g2⟩
    · rintro ds ⟨_, _, rfl, rfl, _, _, rfl, rfl, rfl⟩
      exact ⟨rfl, n, rfl, hn1, hn3⟩
  refine sq_setD (l := l) (m := (m + 80) + costG 3) (m' := m + 80) (gr 3 (m + 80) none H hd.nt) (hd.less (by omega)) fun v3 H1 e sb1 t1 d1 pd r3 => ?_
  obtain ⟨p, rfl, g1, g2⟩ := pd
  have g12 : goodP n 12 p = true := goodP_le g1 (by omega)
  have prt : ∀ (v : V) (p : Pat) (H2 : Hp), goodP n 12 p = true → Tp H2 v (enc p) → ET (tCall (spT 1 (F_parts_of 12)) [] C8.E0 (tCons (tVar 3) tNil)) [some (.ref a), some (.int (n : Nat)), some (.int 8), some v] H2 (.int (partsF p : Nat)) := fun v p H2 g r => et_call (F := F_parts_of 12) (ea_cons (et_var (i := 3) rfl r) ea_nil) rfl ⟨p, n, rfl, g, rfl⟩
  have wgt : ∀ (v : V) (p : Pat) (H2 : Hp), goodP n 12 p = true → Tp H2 v (enc p) → ET (tCall (spT 1 (F_weight_of 12)) [] C8.E0 (tCons (tVar 3) tNil)) [some (.ref a), some (.int (n : Nat)), some (.int 8), some v] H2 (.int (weightF p : Nat)) := fun v p H2 g r => et_call (F := F_weight_of 12) (ea_cons (et_var (i := 3) rfl r) ea_nil) rfl ⟨p, n, rfl, g, by omega, rfl⟩
  /- behind the first -/
  have rest : ∀ (v : V) (p : Pat) (H2 : Hp), SmB a H H2 → Dr H2 a l (m + 10) → Tp H2 v (enc p) → goodP n 4 p = true → okP 4 p = true → partsF p ≤ 12 → tSeq (tIfS (tTest (tOp (rI0 fun i j => .bl (decide (j < i))) (tCall (spT 1 (F_weight_of 12)) [] C8.E0 (tCons (tVar 3) tNil)) (tVar 2))) (tAsg (tTup (tCons (tC (.str "one")) (tCons (tCall (spD 4 1 pre_size F_letters) [] C8.E0 (tCons (tVar 0) (tCons (tVar 1) tNil))) tNil))) (gName 3)) tNext) (tRet (tVar 3)) { nx := fun _ H' => Q .non H', rt := Q } [some (.ref a), some (.int (n : Nat)), some (.int 8), some v] H2 := fun v p H2 sb2 d2 rv g4 o4 hp12 => by
    refine sq_if (b := decide ((8 : Int) < (weightF p : Nat))) (eb_test (et_gt (wgt v p H2 (goodP_le g4 (by omega)) rv) (et_var (i := 2) rfl (.int 8)))) (fun e3 H3 s3 => ?_) (fun e3 H3 s3 => ?_)
    · have d3 := d2.same s3
      refine st_setD (l := l) (i := 3) (m := m + 4) (m' := m) (σ := [some (.ref a), some (.int (n : Nat)), some (.int 8), some v]) (dt_tup (da_cons (dt_et d3.nt fun H3 t3 => et_str) (da_cons (dt_call (k := 4) (n := 1) (i := 0) rfl (da_cons (dt_et d3.nt fun H3 t3 => et_var (i := 1) rfl (.int (n : Nat))) da_nil) ?_) da_nil)) ?_) (d3.less (by omega)) fun v' H4 e sb4 t4 d4 pd r => ?_
      · rintro ds ⟨e0, _, rfl, rfl, rfl⟩
        exact ⟨rfl, n, rfl, hn1, hn3⟩
      · rintro ds ⟨e0, _, rfl, _, e1, _, rfl, _, rfl⟩
        simp
      · obtain ⟨_, rfl, e0, _, rfl, rfl, e1, _, rfl, ⟨_, ⟨_, _, rfl, rfl, rfl⟩, s', z, hs, rfl, k1, k2⟩, rfl⟩ := pd
        have es : s' = n := by injection hs with h1; injection h1 with h1; omega
        subst es
        exact ⟨_, rfl, q v' H4 _ ((sb2.trans (smb s3)).trans sb4) d4 ⟨s', .one z, rfl, by rw [enc], ⟨⟨hn1, hn3, k1, k2, by show 1 ≤ 12; omega, by show 1 ≤ 8; omega⟩, k1, k2⟩⟩ r⟩
    · have hw : weightF p ≤ 8 := by simp at e3; omega
      exact ⟨_, rfl, q v H3 _ (sb2.trans (smb s3)) ((d2.same s3).less (by omega)) ⟨n, p, rfl, rfl, ⟨⟨hn1, hn3, goodP_le g4 (by omega), okP_le o4 (by omega), hp12, hw⟩, g4, o4⟩⟩ (rv.mono (tle s3))⟩
  refine sq_if (σ := [some (.ref a), some (.int (n : Nat)), some (.int 8), some v3]) (b := decide ((12 : Int) < (partsF p : Nat)) || decide ((8 : Int) < (weightF p : Nat))) (eb_or (eb_test (et_gt (prt v3 p H1 g12 r3) et_int)) fun _ => eb_test (et_gt (wgt v3 p H1 g12 r3) (et_var (i := 2) rfl (.int 8)))) (fun e2 H2 s2 => ?_) (fun e2 H2 s2 => ?_)
  · have d2 := d1.same s2
    refine st_setD (l := l) (i := 3) (m := (m + 10) + costG 1) (m' := m + 10) (gr 1 (m + 10) (some v3) H2 d2.nt) (d2.less (by omega)) fun v4 H3 e sb3 t3 d3 pd r4 => ?_
    obtain ⟨p2, rfl, g1, g2⟩ := pd
    exact rest v4 p2 H3 ((sb1.trans (smb s2)).trans sb3) d3 r4 (goodP_le g1 (by omega)) (okP_le g2 (by omega)) (by have := parts2 g1; omega)
  · have hp : partsF p ≤ 12 := by
      simp only [Bool.or_eq_false_iff, decide_eq_false_iff_not] at e2; omega
    exact rest v3 p H2 (sb1.trans (smb s2)) ((d1.same s2).less (by omega)) (r3.mono (tle s2)) g1 g2 hp
end
end

section

abbrev s_Lmany_told : Stmt := topS 73
theorem sc_Lmany_told : FnScope ["_law_work", "_law_found"] ["_law_work"] (C8.fnScope s_Lmany_told) := C8.fnScope_by (by decide +kernel)
/-- told: what the work gives, or that there are too many -/
def TMany (K : PySem.W.Frag) (CS : Addr) : (XK → Hp → VK → Prop) → Hp → VK → Prop := fun tl H Q =>
  tl (fun cls _ H' => ∃ b, PySem.W.exmOne K cls (.ref CS) = some b ∧ (b = true → Q (.str "too many") H') ∧ (b = false → False)) H (fun v H' => ∃ v', (some (some v) : Option (Option V)) = some (some v') ∧ Q v' H')
open LamX in
theorem many_gives {X : Cx} {g CS : Addr} {cdg : Value} {q : Str} (hme : X.mg "TooMany" = some (.ref CS)) : GivesTo X ["_law_work", "_law_found"] "_law_many_told" (C8.fnScope s_Lmany_told) g cdg (C8.fnBody s_Lmany_told) "_law_work" q (TMany X.K CS) := by
  intro f c' s H Q tl act hc h
  refine ⟨_, pss_one (ps_try_onlyE (X := (cxOf C8.CX0 X.prog X.w X.K X.mg X.base ["_law_work", "_law_found"] "_law_many_told" (C8.fnScope s_Lmany_told) g cdg X.A X.stack s H C8.E0).nox) (c := .ref CS)
      (tb := fun W D σ H => ∃ Ech : XK, (∀ cls d σ' H', Ech cls d H' → W cls d σ' H') ∧ σ[0]? = some (some (.ref f)) ∧ H c' = some (CodeO c' q) ∧ tl Ech H (fun v H' => D.nx (σ.set 1 (some v)) H')) (pss_one (ps_ret (pv 1)))
      rfl rfl ⟨rfl, rfl, .inl hme⟩ LamX.takes0 (fun W pn xe tk _ => ?_) (fun a oe cls d pn _ _ => pss_one (ps_ret pe_str))), ?_⟩
  · refine ⟨fun pins s' σ H' D I h' => ?_⟩
    obtain ⟨Ech, hW, h1, h2, h3⟩ := h'
    exact (pss_one (ps_set (i := 1) sc_Lmany_told.nd rfl (Or.inl rfl) (act W pn xe Ech _ _ tk hW))).run pins s' σ H' D I ⟨h1, h2, h3⟩
  · exact ⟨fun cls _ H' => ∃ b, PySem.W.exmOne X.K cls (.ref CS) = some b ∧ (b = true → Q (.str "too many") H') ∧ (b = false → False), fun cls d σ' H' ⟨b, e1, e2, e3⟩ => ⟨b, e1, fun hb a _ => e2 hb, fun hb => e3 hb⟩, rfl, hc, h⟩
end

section
/-! what becomes of a pattern up to a place: where it is gone through, and where it waits for a letter -/
inductive Ev where
  | arr (e : Nat) (M : Mk)
  | prog (F : List Frame) (M : Mk)
def mget (M : Mk) (k : Nat) : PyData × PyData := (M[k]?).getD (.none, .none)
def shut (k : Nat) (e : Nat) (M : Mk) : Mk := M.set k ((mget M k).1, .tuple [(mget M k).1, .int (e : Nat)])
def begin' (k : Nat) (pl : Nat) (M : Mk) : Mk := M.set k (.int (pl : Nat), (mget M k).2)
def hit (t : List Nat) (pl : Nat) (z : Str) : Bool := match t[pl]? with
  | some c => decide (c ∈ z.cps.toList)
  | none => false
/-- what follows -/
def bnd (κ : Nat → Mk → List Ev) (T : List Frame) : Ev → List Ev
  | .arr e M => κ e M
  | .prog F M => [.prog (F ++ T) M]
/-- turns -/
def evT (o : Mk → Nat → List Ev) (fr : Nat → Frame) (lo : Nat) (hi : Option Nat) (m : Bool) : Nat → Nat → Mk → Nat → List Ev
  | 0, _, _, _ => []
  | r + 1, d, M, pl =>
    if m = true then (if goOn hi d = true then (o M pl).flatMap (bnd (fun e M' => if pl < e ∨ d < lo then evT o fr lo hi m r (d + 1) M' e else []) [fr (d + 1)]) else []) ++ (if lo ≤ d then [.arr pl M] else [])
    else (if lo ≤ d then [.arr pl M] else []) ++ (if goOn hi d = true then (o M pl).flatMap (bnd (fun e M' => if pl < e ∨ d < lo then evT o fr lo hi m r (d + 1) M' e else []) [fr (d + 1)]) else [])
def frT (q : Pat) (lo : Nat) (hi : Option Nat) (m : Bool) (d : Nat) : Frame := aged (.turn q lo hi m d true)
section
variable (t : List Nat) (g : Nat)
mutual
def ev : Pat → Mk → Nat → List Ev
  | .none, _, _ => []
  | .empty, M, pl => [.arr pl M]
  | .one z, M, pl => if pl < g then (if hit t pl z = true then [.arr (pl + 1) M] else []) else [.prog [.pat (.one z)] M]
  | .row ps, M, pl => evRow ps M pl
  | .any ps, M, pl => evAny ps M pl
  | .again q lo hi m, M, pl => evT (ev q) (frT q lo hi m) lo hi m (g - pl + lo + 1) 0 M pl
  | .group q k, M, pl => (ev q (begin' (k.getD 0) pl M) pl).flatMap (bnd (fun e M' => [.arr e (shut (k.getD 0) e M')]) [.close (k.getD 0)])
def evRow : List Pat → Mk → Nat → List Ev
  | [], M, pl => [.arr pl M]
  | p :: ps, M, pl => (ev p M pl).flatMap (bnd (fun e M' => evRow ps M' e) (ps.map .pat))
def evAny : List Pat → Mk → Nat → List Ev
  | [], _, _ => []
  | p :: ps, M, pl => ev p M pl ++ evAny ps M pl
end
def evF : Frame → Mk → Nat → List Ev
  | .pat p, M, pl => ev t g p M pl
  | .turn q lo hi m d new, M, pl => if (new && decide (lo < d)) = true then [] else evT (ev t g q) (frT q lo hi m) lo hi m (g - pl + lo + 1) d M pl
  | .close k, M, pl => [.arr pl (shut k pl M)]
def evs : Bool → List Frame → Mk → Nat → List Ev
  | _, [], M, pl => [.arr pl M]
  | fl, f :: S, M, pl => (evF t g (if fl = true then aged f else f) M pl).flatMap (bnd (fun e M' => evs (fl || decide (pl < e)) S M' e) (S.map aged))
end
/-! ### laws of bnd -/
theorem fm_congr {α β : Type} {l : List α} {f h : α → List β} (e : ∀ a ∈ l, f a = h a) : l.flatMap f = l.flatMap h := by
  induction l with
  | nil => rfl
  | cons a l ih =>
    rw [List.flatMap_cons, List.flatMap_cons, e a List.mem_cons_self, ih fun b hb => e b (List.mem_cons_of_mem _ hb)]
theorem bnd_bnd (X : List Ev) (κ κ' : Nat → Mk → List Ev) (T T' : List Frame) : (X.flatMap (bnd κ T)).flatMap (bnd κ' T') = X.flatMap (bnd (fun e M => (κ e M).flatMap (bnd κ' T')) (T ++ T')) := by
  rw [List.flatMap_assoc]
  refine fm_congr fun x _ => ?_
  cases x with
  | arr e M => rfl
  | prog F M => simp [bnd]
theorem bnd_id (X : List Ev) : X.flatMap (bnd (fun e M => [.arr e M]) []) = X := by
  have : ∀ x : Ev, bnd (fun e M => [.arr e M]) [] x = [x] := fun x => by cases x <;> simp [bnd]
  induction X with
  | nil => rfl
  | cons x X ih => rw [List.flatMap_cons, this, ih]; rfl
theorem bnd_congr {X : List Ev} {κ κ' : Nat → Mk → List Ev} {T : List Frame} (h : ∀ e M, Ev.arr e M ∈ X → κ e M = κ' e M) : X.flatMap (bnd κ T) = X.flatMap (bnd κ' T) := fm_congr fun x hx => by
  cases x with
  | arr e M => exact h e M hx
  | prog F M => rfl
theorem mem_bnd {X : List Ev} {κ : Nat → Mk → List Ev} {T : List Frame} {y : Ev} (h : y ∈ X.flatMap (bnd κ T)) : (∃ e M, Ev.arr e M ∈ X ∧ y ∈ κ e M) ∨ ∃ F M, Ev.prog F M ∈ X ∧ y = .prog (F ++ T) M := by
  obtain ⟨x, hx, hy⟩ := List.mem_flatMap.mp h
  cases x with
  | arr e M => exact .inl ⟨e, M, hx, hy⟩
  | prog F M => exact .inr ⟨F, M, hx, List.mem_singleton.mp hy⟩
theorem mem_evT {o : Mk → Nat → List Ev} {fr : Nat → Frame} {lo : Nat} {hi : Option Nat} {m : Bool} {r d pl : Nat} {M : Mk} {y : Ev} (h : y ∈ evT o fr lo hi m (r + 1) d M pl) :
    (lo ≤ d ∧ y = .arr pl M) ∨ (goOn hi d = true ∧ ((∃ e M', Ev.arr e M' ∈ o M pl ∧ (pl < e ∨ d < lo) ∧ y ∈ evT o fr lo hi m r (d + 1) M' e) ∨ ∃ F M', Ev.prog F M' ∈ o M pl ∧ y = .prog (F ++ [fr (d + 1)]) M')) := by
  rw [evT] at h
  have hs : y ∈ (if lo ≤ d then [Ev.arr pl M] else []) → lo ≤ d ∧ y = .arr pl M := fun h => by
    split at h
    · rename_i c; exact ⟨c, List.mem_singleton.mp h⟩
    · cases h
  have hg : y ∈ (if goOn hi d = true then (o M pl).flatMap (bnd (fun e M' => if pl < e ∨ d < lo then evT o fr lo hi m r (d + 1) M' e else []) [fr (d + 1)]) else []) → goOn hi d = true ∧ ((∃ e M', Ev.arr e M' ∈ o M pl ∧ (pl < e ∨ d < lo) ∧ y ∈ evT o fr lo hi m r (d + 1) M' e) ∨ ∃ F M', Ev.prog F M' ∈ o M pl ∧ y = .prog (F ++ [fr (d + 1)]) M') := fun h => by
    split at h
    · rename_i c
      refine ⟨c, ?_⟩
      rcases mem_bnd h with ⟨e, M', h1, h2⟩ | h
      · split at h2
        · rename_i c2; exact .inl ⟨e, M', h1, c2, h2⟩
        · cases h2
      · exact .inr h
    · cases h
  split at h
  · rcases List.mem_append.mp h with h | h
    · exact .inr (hg h)
    · exact .inl (hs h)
  · rcases List.mem_append.mp h with h | h
    · exact .inl (hs h)
    · exact .inr (hg h)
/-! ### where one comes to -/
/-- between the place and the goal; or at a letter -/
def okE (g pl : Nat) : Ev → Prop
  | .arr e _ => pl ≤ e ∧ e ≤ g
  | .prog F _ => ∃ z F', F = .pat (.one z) :: F'
theorem okE.up {g pl e : Nat} {y : Ev} (h : okE g e y) (l : pl ≤ e) : okE g pl y := by
  cases y with
  | arr e' M => exact ⟨Nat.le_trans l h.1, h.2⟩
  | prog F M => exact h
theorem okE.ext {g pl : Nat} {F T : List Frame} {M : Mk} (h : okE g pl (.prog F M)) : okE g pl (.prog (F ++ T) M) := by
  obtain ⟨z, F', rfl⟩ := h
  exact ⟨z, F' ++ T, rfl⟩
section
variable {t : List Nat} {g : Nat}
theorem evT_ok {o : Mk → Nat → List Ev} {fr : Nat → Frame} {lo : Nat} {hi : Option Nat} {m : Bool} (ho : ∀ M pl, pl ≤ g → ∀ y ∈ o M pl, okE g pl y) : ∀ (r d : Nat) (M : Mk) (pl : Nat), pl ≤ g → ∀ y ∈ evT o fr lo hi m r d M pl, okE g pl y
  | 0, _, _, _, _, y, h => by rw [evT] at h; cases h
  | r + 1, d, M, pl, hp, y, h => by
    rcases mem_evT h with ⟨_, rfl⟩ | ⟨_, ⟨e, M', h1, _, h2⟩ | ⟨F, M', h1, rfl⟩⟩
    · exact ⟨Nat.le_refl _, hp⟩
    · have a := ho M pl hp _ h1
      exact (evT_ok ho r (d + 1) M' e a.2 y h2).up a.1
    · exact (ho M pl hp _ h1).ext
mutual
theorem ev_ok : ∀ (p : Pat) (M : Mk) (pl : Nat), pl ≤ g → ∀ y ∈ ev t g p M pl, okE g pl y
  | .none, M, pl, hp, y, h => by rw [ev] at h; cases h
  | .empty, M, pl, hp, y, h => by rw [ev] at h; cases List.mem_singleton.mp h; exact ⟨Nat.le_refl _, hp⟩
  | .one z, M, pl, hp, y, h => by
    rw [ev] at h
    split at h
    · split at h
      · cases List.mem_singleton.mp h; exact ⟨Nat.le_succ _, by omega⟩
      · cases h
    · cases List.mem_singleton.mp h; exact ⟨z, [], rfl⟩
  | .row ps, M, pl, hp, y, h => evRow_ok ps M pl hp y (by rw [ev] at h; exact h)
  | .any ps, M, pl, hp, y, h => evAny_ok ps M pl hp y (by rw [ev] at h; exact h)
  | .again q lo hi m, M, pl, hp, y, h => by
    rw [ev] at h
    exact evT_ok (fun M pl hp y hy => ev_ok q M pl hp y hy) _ _ _ _ hp y h
  | .group q k, M, pl, hp, y, h => by
    rw [ev] at h
    rcases mem_bnd h with ⟨e, M', h1, h2⟩ | ⟨F, M', h1, rfl⟩
    · cases List.mem_singleton.mp h2
      have a := ev_ok q _ pl hp _ h1
      exact ⟨a.1, a.2⟩
    · exact (ev_ok q _ pl hp _ h1).ext
theorem evRow_ok : ∀ (ps : List Pat) (M : Mk) (pl : Nat), pl ≤ g → ∀ y ∈ evRow t g ps M pl, okE g pl y
  | [], M, pl, hp, y, h => by rw [evRow] at h; cases List.mem_singleton.mp h; exact ⟨Nat.le_refl _, hp⟩
  | p :: ps, M, pl, hp, y, h => by
    rw [evRow] at h
    rcases mem_bnd h with ⟨e, M', h1, h2⟩ | ⟨F, M', h1, rfl⟩
    · have a := ev_ok p M pl hp _ h1
      exact (evRow_ok ps M' e a.2 y h2).up a.1
    · exact (ev_ok p M pl hp _ h1).ext
theorem evAny_ok : ∀ (ps : List Pat) (M : Mk) (pl : Nat), pl ≤ g → ∀ y ∈ evAny t g ps M pl, okE g pl y
  | [], M, pl, hp, y, h => by rw [evAny] at h; cases h
  | p :: ps, M, pl, hp, y, h => by
    rw [evAny] at h
    rcases List.mem_append.mp h with h | h
    · exact ev_ok p M pl hp y h
    · exact evAny_ok ps M pl hp y h
end
theorem evF_ok (f : Frame) (M : Mk) (pl : Nat) (hp : pl ≤ g) : ∀ y ∈ evF t g f M pl, okE g pl y := fun y h => by
  cases f with
  | pat p => exact ev_ok p M pl hp y h
  | turn q lo hi m d new =>
    rw [evF] at h
    split at h
    · cases h
    · exact evT_ok (fun M pl hp y hy => ev_ok q M pl hp y hy) _ _ _ _ hp y h
  | close k =>
    rw [evF] at h
    cases List.mem_singleton.mp h; exact ⟨Nat.le_refl _, hp⟩
theorem evs_ok : ∀ (S : List Frame) (fl : Bool) (M : Mk) (pl : Nat), pl ≤ g → ∀ y ∈ evs t g fl S M pl, okE g pl y
  | [], fl, M, pl, hp, y, h => by rw [evs] at h; cases List.mem_singleton.mp h; exact ⟨Nat.le_refl _, hp⟩
  | f :: S, fl, M, pl, hp, y, h => by
    rw [evs] at h
    rcases mem_bnd h with ⟨e, M', h1, h2⟩ | ⟨F, M', h1, rfl⟩
    · have a := evF_ok _ M pl hp _ h1
      exact (evs_ok S _ M' e a.2 y h2).up a.1
    · exact (evF_ok _ M pl hp _ h1).ext
/-! ### ageing -/
theorem aged_aged (f : Frame) : aged (aged f) = aged f := by
  cases f with
  | turn q lo hi m d new =>
    cases hi with
    | none => simp only [aged, Nat.min_assoc, Nat.min_self]
    | some h => rfl
  | _ => rfl
theorem map_aged (S : List Frame) : (S.map aged).map aged = S.map aged := by
  rw [List.map_map]
  exact List.map_congr_left fun f _ => aged_aged f
theorem evs_aged : ∀ (S : List Frame) (fl : Bool) (M : Mk) (pl : Nat), evs t g fl (S.map aged) M pl = evs t g true S M pl
  | [], _, _, _ => by simp only [List.map_nil, evs]
  | f :: S, fl, M, pl => by
    rw [List.map_cons, evs, evs, map_aged]
    have e : (if fl = true then aged (aged f) else aged f) = aged f := by split <;> simp only [aged_aged]
    rw [e, if_pos rfl]
    exact bnd_congr fun e M' _ => by rw [evs_aged S]; rfl
theorem frT_aged (q : Pat) (lo : Nat) (hi : Option Nat) (m : Bool) (d : Nat) : aged (frT q lo hi m d) = frT q lo hi m d := aged_aged _
theorem evs_app : ∀ (R S : List Frame) (fl : Bool) (M : Mk) (pl : Nat), pl ≤ g → evs t g fl (R ++ S) M pl = (evs t g fl R M pl).flatMap (bnd (fun e M' => evs t g (fl || decide (pl < e)) S M' e) (S.map aged))
  | [], S, fl, M, pl, hp => by
    rw [List.nil_append, evs, List.flatMap_cons, List.flatMap_nil, List.append_nil, bnd]
    simp
  | f :: R, S, fl, M, pl, hp => by
    rw [List.cons_append, evs, evs, bnd_bnd, List.map_append]
    refine bnd_congr fun e M' h => ?_
    have a := evF_ok _ M pl hp _ h
    rw [evs_app R S _ M' e a.2]
    refine bnd_congr fun e2 M2 h2 => ?_
    have b := evs_ok R _ M' e a.2 _ h2
    have : (fl || decide (pl < e) || decide (e < e2)) = (fl || decide (pl < e2)) := by
      rw [Bool.or_assoc]
      congr 1
      have h1 := a.1; have h2 := b.1
      by_cases c1 : pl < e <;> by_cases c2 : e < e2 <;> simp [c1, c2] <;> omega
    rw [this]
theorem evs_pats : ∀ (ps : List Pat) (fl : Bool) (M : Mk) (pl : Nat), evs t g fl (ps.map .pat) M pl = evRow t g ps M pl
  | [], fl, M, pl => by rw [List.map_nil, evs, evRow]
  | p :: ps, fl, M, pl => by
    have e : (if fl = true then aged (Frame.pat p) else Frame.pat p) = .pat p := by split <;> rfl
    have e2 : (ps.map Frame.pat).map aged = ps.map Frame.pat := by rw [List.map_map]; rfl
    rw [List.map_cons, evs, evRow, e, evF, e2]
    exact bnd_congr fun e M' _ => evs_pats ps _ M' e
theorem evs_one (fl : Bool) (f : Frame) (M : Mk) (pl : Nat) : evs t g fl [f] M pl = evF t g (if fl = true then aged f else f) M pl := by
  rw [evs]
  refine Eq.trans ?_ (bnd_id _)
  exact bnd_congr fun e M' _ => by rw [evs]
/-! ### turns: the fuel, and what is behind the least number -/
theorem evT_eq {o : Mk → Nat → List Ev} {q : Pat} {lo : Nat} {hi : Option Nat} {m : Bool} (ho : ∀ M pl, pl ≤ g → ∀ y ∈ o M pl, okE g pl y) : ∀ (r r' d d' : Nat) (M : Mk) (pl : Nat), pl ≤ g → g - pl + (lo - d) < r → g - pl + (lo - d') < r' → (d = d' ∨ (hi = none ∧ lo ≤ d ∧ lo ≤ d')) →
    evT o (frT q lo hi m) lo hi m r d M pl = evT o (frT q lo hi m) lo hi m r' d' M pl
  | 0, _, _, _, _, _, _, h, _, _ => absurd h (by omega)
  | _ + 1, 0, _, _, _, _, _, _, h, _ => absurd h (by omega)
  | r + 1, r' + 1, d, d', M, pl, hp, h1, h2, hd => by
    have e1 : goOn hi d = goOn hi d' := by
      rcases hd with rfl | ⟨rfl, _⟩
      · rfl
      · rfl
    have e2 : (lo ≤ d) = (lo ≤ d') := by
      rcases hd with rfl | ⟨_, a, b⟩
      · rfl
      · simp [a, b]
    have e3 : frT q lo hi m (d + 1) = frT q lo hi m (d' + 1) := by
      rcases hd with rfl | ⟨rfl, a, b⟩
      · rfl
      · simp only [frT, aged]
        rw [Nat.min_eq_right (by omega), Nat.min_eq_right (by omega)]
    have e4 : (o M pl).flatMap (bnd (fun e M' => if pl < e ∨ d < lo then evT o (frT q lo hi m) lo hi m r (d + 1) M' e else []) [frT q lo hi m (d + 1)]) = (o M pl).flatMap (bnd (fun e M' => if pl < e ∨ d' < lo then evT o (frT q lo hi m) lo hi m r' (d' + 1) M' e else []) [frT q lo hi m (d' + 1)]) := by
      rw [e3]
      refine bnd_congr fun e M' hm => ?_
      have a := ho M pl hp _ hm
      have e5 : (pl < e ∨ d < lo) = (pl < e ∨ d' < lo) := by
        rcases hd with rfl | ⟨_, a, b⟩
        · rfl
        · apply propext; omega
      simp only [e5]
      split
      · rename_i c
        have a1 := a.1; have a2 := a.2
        refine evT_eq ho r r' (d + 1) (d' + 1) M' e a.2 ?_ ?_ ?_
        · rcases hd with rfl | ⟨_, x, y⟩ <;> omega
        · omega
        · rcases hd with rfl | ⟨x, y, z⟩
          · exact .inl rfl
          · exact .inr ⟨x, by omega, by omega⟩
      · rfl
    rw [evT, evT, e1, e4]
    simp only [e2]
end
end

section
/-! one letter more -/
def stp (t : List Nat) (g : Nat) : Ev → List Ev
  | .arr e M => [.arr e M]
  | .prog (.pat (.one z) :: F) M => if hit t g z = true then evs t (g + 1) false F M (g + 1) else []
  | .prog _ _ => []
section
variable {t : List Nat} {g : Nat}
theorem evs_fix {T : List Frame} (hT : T.map aged = T) (fl : Bool) (M : Mk) (pl : Nat) : evs t g fl T M pl = evs t g true T M pl := by
  have e := evs_aged (t := t) (g := g) T fl M pl
  rw [hT] at e
  exact e
/-- what waits at a letter, then goes on with T -/
theorem stp_bnd {κ : Nat → Mk → List Ev} {T : List Frame} (hT : T.map aged = T) {F : List Frame} {M : Mk} {pl : Nat} (hF : okE g pl (.prog F M))
    (hκ : ∀ e M', g + 1 ≤ e → e ≤ g + 1 → κ e M' = evs t (g + 1) true T M' e) :
    stp t g (.prog (F ++ T) M) = (stp t g (.prog F M)).flatMap (bnd κ T) := by
  obtain ⟨z, F', rfl⟩ := hF
  rw [List.cons_append, stp, stp]
  split
  · rw [evs_app _ _ _ _ _ (Nat.le_refl _), hT]
    refine bnd_congr fun e M' h => ?_
    have a := evs_ok _ _ _ _ (Nat.le_refl _) _ h
    rw [hκ e M' a.1 a.2]
    exact (evs_fix hT _ M' e)
  · rfl
/-- the step of what is bound -/
theorem step_bnd {X : List Ev} {κ κ1 : Nat → Mk → List Ev} {T : List Frame} {pl : Nat} (hT : T.map aged = T) (hX : ∀ y ∈ X, okE g pl y)
    (h1 : ∀ e M', Ev.arr e M' ∈ X → κ1 e M' = (κ e M').flatMap (stp t g)) (hκ : ∀ e M', g + 1 ≤ e → e ≤ g + 1 → κ1 e M' = evs t (g + 1) true T M' e) :
    (X.flatMap (stp t g)).flatMap (bnd κ1 T) = (X.flatMap (bnd κ T)).flatMap (stp t g) := by
  rw [List.flatMap_assoc, List.flatMap_assoc]
  refine fm_congr fun x hx => ?_
  cases x with
  | arr e M =>
    rw [stp, bnd, List.flatMap_cons, List.flatMap_nil, List.append_nil, bnd]
    exact h1 e M hx
  | prog F M =>
    rw [bnd, List.flatMap_cons, List.flatMap_nil, List.append_nil]
    exact (stp_bnd hT (hX _ hx) hκ).symm
theorem step_evT {o o1 : Mk → Nat → List Ev} {q : Pat} {lo : Nat} {hi : Option Nat} {m : Bool} (ho : ∀ M pl, pl ≤ g → ∀ y ∈ o M pl, okE g pl y) (ho1 : o1 = ev t (g + 1) q)
    (h : ∀ M pl, pl ≤ g → o1 M pl = (o M pl).flatMap (stp t g)) : ∀ (r r1 d : Nat) (M : Mk) (pl : Nat), pl ≤ g → g - pl + (lo - d) < r → g + 1 - pl + (lo - d) < r1 →
    evT o1 (frT q lo hi m) lo hi m r1 d M pl = (evT o (frT q lo hi m) lo hi m r d M pl).flatMap (stp t g)
  | 0, _, _, _, _, _, h, _ => absurd h (by omega)
  | _ + 1, 0, _, _, _, _, _, h => absurd h (by omega)
  | r + 1, r1 + 1, d, M, pl, hp, h1, h2 => by
    have key : (o1 M pl).flatMap (bnd (fun e M' => if pl < e ∨ d < lo then evT o1 (frT q lo hi m) lo hi m r1 (d + 1) M' e else []) [frT q lo hi m (d + 1)]) =
        ((o M pl).flatMap (bnd (fun e M' => if pl < e ∨ d < lo then evT o (frT q lo hi m) lo hi m r (d + 1) M' e else []) [frT q lo hi m (d + 1)])).flatMap (stp t g) := by
      rw [h M pl hp]
      refine step_bnd (by simp [frT_aged]) (ho M pl hp) (fun e M' hm => ?_) (fun e M' g1 g2 => ?_)
      · have a := ho M pl hp _ hm
        have a1 := a.1; have a2 := a.2
        split
        · exact step_evT ho ho1 h r r1 (d + 1) M' e a.2 (by omega) (by omega)
        · rfl
      · rw [if_pos (by omega), evs_one, if_pos rfl, frT_aged]
        have ho' : ∀ M pl, pl ≤ g + 1 → ∀ y ∈ o1 M pl, okE (g + 1) pl y := fun M pl hp y hy => by rw [ho1] at hy; exact ev_ok q M pl hp y hy
        cases hi with
        | none =>
          rw [frT, aged, evF]
          rw [if_neg (by simp), ← ho1]
          refine evT_eq ho' _ _ _ _ _ _ g2 (by omega) (by omega) ?_
          by_cases c : d + 1 ≤ lo
          · exact .inl (by rw [Nat.min_eq_left c])
          · exact .inr ⟨rfl, by omega, by rw [Nat.min_eq_right (by omega)]; omega⟩
        | some x =>
          rw [frT, aged, evF]
          rw [if_neg (by simp), ← ho1]
          exact evT_eq ho' _ _ _ _ _ _ g2 (by omega) (by omega) (.inl rfl)
    have ks : (if lo ≤ d then [Ev.arr pl M] else []).flatMap (stp t g) = if lo ≤ d then [Ev.arr pl M] else [] := by split <;> rfl
    rw [evT, evT, key]
    by_cases cm : m = true
    · rw [if_pos cm, if_pos cm, List.flatMap_append, ks]
      by_cases cg : goOn hi d = true
      · rw [if_pos cg, if_pos cg]
      · rw [if_neg cg, if_neg cg]; rfl
    · rw [if_neg cm, if_neg cm, List.flatMap_append, ks]
      by_cases cg : goOn hi d = true
      · rw [if_pos cg, if_pos cg]
      · rw [if_neg cg, if_neg cg]; rfl
mutual
theorem step_ev : ∀ (p : Pat) (M : Mk) (pl : Nat), pl ≤ g → ev t (g + 1) p M pl = (ev t g p M pl).flatMap (stp t g)
  | .none, M, pl, hp => by rw [ev, ev]; rfl
  | .empty, M, pl, hp => by rw [ev, ev]; rfl
  | .one z, M, pl, hp => by
    rw [ev, ev]
    by_cases c : pl < g
    · rw [if_pos c, if_pos (by omega)]
      split <;> rfl
    · have : pl = g := by omega
      subst this
      rw [if_neg c, if_pos (Nat.lt_succ_self _), List.flatMap_cons, List.flatMap_nil, List.append_nil, stp]
      split
      · rw [evs]
      · rfl
  | .row ps, M, pl, hp => by rw [ev, ev]; exact step_evRow ps M pl hp
  | .any ps, M, pl, hp => by rw [ev, ev]; exact step_evAny ps M pl hp
  | .again q lo hi m, M, pl, hp => by
    rw [ev, ev]
    exact step_evT (fun M pl hp y hy => ev_ok q M pl hp y hy) rfl (fun M pl hp => step_ev q M pl hp) _ _ _ _ _ hp (by omega) (by omega)
  | .group q k, M, pl, hp => by
    rw [ev, ev, step_ev q _ pl hp]
    refine step_bnd rfl (ev_ok q _ pl hp) (fun e M' h => by rfl) (fun e M' h1 h2 => ?_)
    rw [evs_one, if_pos rfl, show aged (.close (k.getD 0)) = .close (k.getD 0) from rfl, evF]
theorem step_evRow : ∀ (ps : List Pat) (M : Mk) (pl : Nat), pl ≤ g → evRow t (g + 1) ps M pl = (evRow t g ps M pl).flatMap (stp t g)
  | [], M, pl, hp => by rw [evRow, evRow]; rfl
  | p :: ps, M, pl, hp => by
    rw [evRow, evRow, step_ev p M pl hp]
    refine step_bnd (by rw [List.map_map]; rfl) (ev_ok p M pl hp) (fun e M' h => ?_) (fun e M' h1 h2 => ?_)
    · exact step_evRow ps M' e (ev_ok p M pl hp _ h).2
    · rw [evs_pats]
theorem step_evAny : ∀ (ps : List Pat) (M : Mk) (pl : Nat), pl ≤ g → evAny t (g + 1) ps M pl = (evAny t g ps M pl).flatMap (stp t g)
  | [], M, pl, hp => by rw [evAny, evAny]; rfl
  | p :: ps, M, pl, hp => by
    rw [evAny, evAny, step_ev p M pl hp, step_evAny ps M pl hp, List.flatMap_append]
end
theorem step_evF (f : Frame) (M : Mk) (pl : Nat) (hp : pl ≤ g) : evF t (g + 1) f M pl = (evF t g f M pl).flatMap (stp t g) := by
  cases f with
  | pat p => exact step_ev p M pl hp
  | turn q lo hi m d new =>
    rw [evF, evF]
    split
    · rfl
    · exact step_evT (fun M pl hp y hy => ev_ok q M pl hp y hy) rfl (fun M pl hp => step_ev q M pl hp) _ _ _ _ _ hp (by omega) (by omega)
  | close k => rw [evF, evF]; rfl
theorem step_evs : ∀ (S : List Frame) (fl : Bool) (M : Mk) (pl : Nat), pl ≤ g → evs t (g + 1) fl S M pl = (evs t g fl S M pl).flatMap (stp t g)
  | [], fl, M, pl, hp => by rw [evs, evs]; rfl
  | f :: S, fl, M, pl, hp => by
    rw [evs, evs, step_evF _ M pl hp]
    refine step_bnd (map_aged S) (evF_ok _ M pl hp) (fun e M' h => ?_) (fun e M' h1 h2 => ?_)
    · exact step_evs S _ M' e (evF_ok _ M pl hp _ h).2
    · rw [evs_aged]
      congr 1
      simp only [Bool.or_eq_true, decide_eq_true_eq]; right; omega
end
end

section
/-! what a pattern costs: a: steps, one in another; e, k: how often one comes behind it, how many letters are waited for; l: frames -/
structure V4 where
  a : Nat
  e : Nat
  k : Nat
  l : Nat
deriving DecidableEq
namespace V4
def mul (x y : V4) : V4 := ⟨x.a + y.a, x.e * y.e, x.k + x.e * y.k, x.l + y.l⟩
structure le (x y : V4) : Prop where
  a : x.a ≤ y.a
  e : x.e ≤ y.e
  k : x.k ≤ y.k
  l : x.l ≤ y.l
instance (x y : V4) : Decidable (le x y) := decidable_of_iff (x.a ≤ y.a ∧ x.e ≤ y.e ∧ x.k ≤ y.k ∧ x.l ≤ y.l) ⟨fun ⟨a, b, c, d⟩ => ⟨a, b, c, d⟩, fun ⟨a, b, c, d⟩ => ⟨a, b, c, d⟩⟩
def one : V4 := ⟨0, 1, 0, 0⟩
def bot : V4 := ⟨0, 0, 0, 0⟩
def one1 : V4 := ⟨1, 1, 0, 1⟩
def bump (x : V4) : V4 := ⟨x.a + 1, x.e, x.k, 1⟩
def join (x y : V4) : V4 := ⟨max x.a y.a, max x.e y.e, max x.k y.k, max x.l y.l⟩
theorem le.refl (x : V4) : le x x := ⟨Nat.le_refl _, Nat.le_refl _, Nat.le_refl _, Nat.le_refl _⟩
theorem le.trans {x y z : V4} (h : le x y) (i : le y z) : le x z := ⟨Nat.le_trans h.a i.a, Nat.le_trans h.e i.e, Nat.le_trans h.k i.k, Nat.le_trans h.l i.l⟩
theorem le_j1 (x y : V4) : le x (join x y) := ⟨Nat.le_max_left _ _, Nat.le_max_left _ _, Nat.le_max_left _ _, Nat.le_max_left _ _⟩
theorem le_j2 (x y : V4) : le y (join x y) := ⟨Nat.le_max_right _ _, Nat.le_max_right _ _, Nat.le_max_right _ _, Nat.le_max_right _ _⟩
theorem join_le {x y z : V4} (h : le x z) (i : le y z) : le (join x y) z := ⟨Nat.max_le.mpr ⟨h.a, i.a⟩, Nat.max_le.mpr ⟨h.e, i.e⟩, Nat.max_le.mpr ⟨h.k, i.k⟩, Nat.max_le.mpr ⟨h.l, i.l⟩⟩
theorem bot_le {x : V4} : le bot x := ⟨Nat.zero_le _, Nat.zero_le _, Nat.zero_le _, Nat.zero_le _⟩
theorem mul_le {x y u v : V4} (h : le x u) (i : le y v) : le (mul x y) (mul u v) :=
  ⟨Nat.add_le_add h.a i.a, Nat.mul_le_mul h.e i.e, Nat.add_le_add h.k (Nat.mul_le_mul h.e i.k), Nat.add_le_add h.l i.l⟩
theorem mul_assoc (x y z : V4) : mul (mul x y) z = mul x (mul y z) := by
  simp only [mul, Nat.add_assoc, Nat.mul_assoc, Nat.mul_add]
theorem mul_one (x : V4) : mul x one = x := by simp [mul, one]
theorem one_mul (x : V4) : mul one x = x := by simp [mul, one]
theorem bump_le {x y : V4} (h : le x y) : le (bump x) (bump y) := ⟨Nat.succ_le_succ h.a, h.e, h.k, Nat.le_refl _⟩
theorem join_mono {x y u v : V4} (h : le x u) (i : le y v) : le (join x y) (join u v) := join_le (h.trans (le_j1 _ _)) (i.trans (le_j2 _ _))
end V4
open V4
/-- turns from so many before the last one -/
def vU (v : V4) (lo : Nat) (hi : Option Nat) : Nat → V4
  | 0 => ⟨0, 0, 0, 1⟩
  | 1 => if hi = some lo then ⟨1, 1, 0, 1⟩ else ⟨1 + v.a, 1, v.k, 1⟩
  | j + 2 => bump (mul v (vU v lo hi (j + 1)))
def vJ (v : V4) (lo : Nat) (hi : Option Nat) : Nat → V4
  | 0 => vU v lo hi 1
  | j + 1 => join (vJ v lo hi j) (vU v lo hi (j + 1))
theorem vU_le {v w : V4} (h : le v w) (lo : Nat) (hi : Option Nat) : ∀ j, le (vU v lo hi j) (vU w lo hi j)
  | 0 => le.refl _
  | 1 => by
    rw [vU, vU]
    split
    · exact le.refl _
    · exact ⟨Nat.add_le_add_left h.a 1, Nat.le_refl _, h.k, Nat.le_refl _⟩
  | j + 2 => by rw [vU, vU]; exact bump_le (mul_le h (vU_le h lo hi (j + 1)))
theorem vJ_le {v w : V4} (h : le v w) (lo : Nat) (hi : Option Nat) : ∀ j, le (vJ v lo hi j) (vJ w lo hi j)
  | 0 => vU_le h lo hi 1
  | j + 1 => join_mono (vJ_le h lo hi j) (vU_le h lo hi (j + 1))
theorem vU_vJ (v : V4) (lo : Nat) (hi : Option Nat) : ∀ (n j : Nat), 1 ≤ j → (j ≤ n ∨ j ≤ 1) → le (vU v lo hi j) (vJ v lo hi n)
  | 0, j, h1, h2 => by
    have : j = 1 := by omega
    subst this; exact le.refl _
  | n + 1, j, h1, h2 => by
    rw [vJ]
    by_cases c : j = n + 1
    · subst c; exact le_j2 _ _
    · exact (vU_vJ v lo hi n j h1 (by omega)).trans (le_j1 _ _)
mutual
def val : Pat → V4
  | .none => ⟨0, 0, 0, 1⟩
  | .empty => ⟨1, 1, 0, 1⟩
  | .one _ => ⟨0, 0, 1, 1⟩
  | .row ps => bump (valRow ps)
  | .any ps => valAny ps
  | .again q lo hi _ => bump (vU (val q) lo hi (lo + 1))
  | .group q _ => bump (mul (val q) V4.one1)
def valRow : List Pat → V4
  | [] => one
  | p :: ps => mul (val p) (valRow ps)
def valAny : List Pat → V4
  | [] => ⟨1, 0, 0, 1⟩
  | p :: ps => ⟨max (1 + (val p).a) (valAny ps).a, (val p).e + (valAny ps).e, (val p).k + (valAny ps).k, 1⟩
end
mutual
def res : Pat → V4
  | .none => bot
  | .empty => bot
  | .one _ => one
  | .row ps => resRow ps
  | .any ps => resAny ps
  | .again q lo hi _ => mul (res q) (vJ (val q) lo hi lo)
  | .group q _ => mul (res q) V4.one1
def resRow : List Pat → V4
  | [] => bot
  | p :: ps => join (mul (res p) (valRow ps)) (resRow ps)
def resAny : List Pat → V4
  | [] => bot
  | p :: ps => join (res p) (resAny ps)
end
def valF : Frame → V4
  | .pat p => val p
  | .turn q lo hi _ d new => if (new && decide (lo < d)) = true then ⟨0, 0, 0, 1⟩ else vU (val q) lo hi (lo + 1 - min d lo)
  | .close _ => V4.one1
def resF : Frame → V4
  | .pat p => res p
  | .turn q lo hi _ _ _ => mul (res q) (vJ (val q) lo hi lo)
  | .close _ => bot
def vals : List Frame → V4
  | [] => one
  | f :: S => mul (valF f) (vals S)
theorem vals_app : ∀ R S : List Frame, vals (R ++ S) = mul (vals R) (vals S)
  | [], S => by rw [List.nil_append, vals, one_mul]
  | f :: R, S => by rw [List.cons_append, vals, vals, vals_app R S, mul_assoc]
theorem vals_pats : ∀ ps : List Pat, vals (ps.map .pat) = valRow ps
  | [] => by rw [List.map_nil, vals, valRow]
  | p :: ps => by rw [List.map_cons, vals, valRow, vals_pats ps, valF]
theorem vals_len : ∀ S : List Frame, (vals S).l = S.length
  | [] => rfl
  | f :: S => by
    have : (valF f).l = 1 := by
      cases f with
      | pat p =>
        rw [valF]
        cases p with
        | any ps => rw [val]; cases ps <;> rw [valAny]
        | _ => rw [val] <;> rfl
      | turn q lo hi m d new =>
        rw [valF]
        split
        · rfl
        · generalize lo + 1 - min d lo = j
          match j with
          | 0 => rfl
          | 1 => rw [vU]; split <;> rfl
          | j + 2 => rw [vU]; rfl
      | close k => rfl
    rw [vals, List.length_cons, ← vals_len S]; show (valF f).l + (vals S).l = _; omega
/-! ### counts -/
def cntA : List Ev → Nat
  | [] => 0
  | .arr _ _ :: X => cntA X + 1
  | .prog _ _ :: X => cntA X
def cntP : List Ev → Nat
  | [] => 0
  | .arr _ _ :: X => cntP X
  | .prog _ _ :: X => cntP X + 1
theorem cntA_app : ∀ X Y : List Ev, cntA (X ++ Y) = cntA X + cntA Y
  | [], Y => by simp [cntA]
  | .arr _ _ :: X, Y => by rw [List.cons_append, cntA, cntA, cntA_app X Y]; omega
  | .prog _ _ :: X, Y => by rw [List.cons_append, cntA, cntA, cntA_app X Y]
theorem cntP_app : ∀ X Y : List Ev, cntP (X ++ Y) = cntP X + cntP Y
  | [], Y => by simp [cntP]
  | .arr _ _ :: X, Y => by rw [List.cons_append, cntP, cntP, cntP_app X Y]
  | .prog _ _ :: X, Y => by rw [List.cons_append, cntP, cntP, cntP_app X Y]; omega
theorem cnt_len : ∀ X : List Ev, X.length = cntA X + cntP X
  | [] => rfl
  | .arr _ _ :: X => by rw [List.length_cons, cntA, cntP, cnt_len X]; omega
  | .prog _ _ :: X => by rw [List.length_cons, cntA, cntP, cnt_len X]; omega
theorem cntA_bnd {κ : Nat → Mk → List Ev} {T : List Frame} {c : Nat} : ∀ {X : List Ev}, (∀ e M, Ev.arr e M ∈ X → cntA (κ e M) ≤ c) → cntA (X.flatMap (bnd κ T)) ≤ cntA X * c
  | [], _ => Nat.zero_le _
  | .arr e M :: X, h => by
    rw [List.flatMap_cons, cntA_app, cntA, Nat.succ_mul, bnd]
    have h1 := h e M List.mem_cons_self
    have h2 := cntA_bnd (T := T) (X := X) fun e M hm => h e M (List.mem_cons_of_mem _ hm)
    omega
  | .prog F M :: X, h => by
    rw [List.flatMap_cons, cntA_app, cntA, bnd]
    have h2 := cntA_bnd (T := T) (X := X) fun e M hm => h e M (List.mem_cons_of_mem _ hm)
    simpa [cntA] using h2
theorem cntP_bnd {κ : Nat → Mk → List Ev} {T : List Frame} {c : Nat} : ∀ {X : List Ev}, (∀ e M, Ev.arr e M ∈ X → cntP (κ e M) ≤ c) → cntP (X.flatMap (bnd κ T)) ≤ cntP X + cntA X * c
  | [], _ => Nat.zero_le _
  | .arr e M :: X, h => by
    rw [List.flatMap_cons, cntP_app, cntP, cntA, Nat.succ_mul, bnd]
    have h1 := h e M List.mem_cons_self
    have h2 := cntP_bnd (T := T) (X := X) fun e M hm => h e M (List.mem_cons_of_mem _ hm)
    omega
  | .prog F M :: X, h => by
    rw [List.flatMap_cons, cntP_app, cntP, cntA, bnd]
    have h2 := cntP_bnd (T := T) (X := X) fun e M hm => h e M (List.mem_cons_of_mem _ hm)
    simp only [cntP]
    omega
/-- at most so many -/
structure CL (X : List Ev) (e k : Nat) : Prop where
  e : cntA X ≤ e
  k : cntP X ≤ k
theorem CL.nil {e k : Nat} : CL [] e k := ⟨Nat.zero_le _, Nat.zero_le _⟩
theorem CL.app {X Y : List Ev} {e k e' k' : Nat} (h : CL X e k) (i : CL Y e' k') : CL (X ++ Y) (e + e') (k + k') := ⟨by rw [cntA_app]; exact Nat.add_le_add h.e i.e, by rw [cntP_app]; exact Nat.add_le_add h.k i.k⟩
theorem CL.mono {X : List Ev} {e k e' k' : Nat} (h : CL X e k) (a : e ≤ e') (b : k ≤ k') : CL X e' k' := ⟨Nat.le_trans h.e a, Nat.le_trans h.k b⟩
theorem CL.arr {e : Nat} {M : Mk} : CL [.arr e M] 1 0 := ⟨Nat.le_refl _, Nat.le_refl _⟩
theorem CL.bnd {κ : Nat → Mk → List Ev} {T : List Frame} {X : List Ev} {e k e' k' : Nat} (h : CL X e k) (i : ∀ x M, Ev.arr x M ∈ X → CL (κ x M) e' k') : CL (X.flatMap (bnd κ T)) (e * e') (k + e * k') :=
  ⟨Nat.le_trans (cntA_bnd fun x M hm => (i x M hm).e) (Nat.mul_le_mul_right _ h.e), Nat.le_trans (cntP_bnd fun x M hm => (i x M hm).k) (Nat.add_le_add h.k (Nat.mul_le_mul_right _ h.e))⟩
section
variable {t : List Nat} {g : Nat}
theorem cl_evT {o : Mk → Nat → List Ev} {fr : Nat → Frame} {lo : Nat} {hi : Option Nat} {m : Bool} {v : V4} (ho : ∀ M, ∀ y ∈ o M g, okE g g y) (h : ∀ M, CL (o M g) v.e v.k) : ∀ (r d : Nat) (M : Mk),
    CL (evT o fr lo hi m r d M g) (vU v lo hi (lo + 1 - min d lo)).e (vU v lo hi (lo + 1 - min d lo)).k
  | 0, d, M => by rw [evT]; exact .nil
  | r + 1, d, M => by
    have tail : ∀ X, CL X (vU v lo hi (lo + 1 - min d lo)).e (vU v lo hi (lo + 1 - min d lo)).k → CL X (vU v lo hi (lo + 1 - min d lo)).e (vU v lo hi (lo + 1 - min d lo)).k := fun _ h => h
    by_cases c : lo ≤ d
    · have ej : lo + 1 - min d lo = 1 := by rw [Nat.min_eq_right c]; omega
      have dead : (o M g).flatMap (bnd (fun e M' => if g < e ∨ d < lo then evT o fr lo hi m r (d + 1) M' e else []) [fr (d + 1)]) = (o M g).flatMap (bnd (fun e M' => []) [fr (d + 1)]) := bnd_congr fun e M' hm => by
        have a := ho M _ hm
        have a1 := a.1; have a2 := a.2
        rw [if_neg (by omega)]
      rw [ej, evT, if_pos c, dead]
      have both : CL (if goOn hi d = true then (o M g).flatMap (bnd (fun e M' => []) [fr (d + 1)]) else []) 0 (vU v lo hi 1).k := by
        by_cases cg : goOn hi d = true
        · rw [if_pos cg]
          have nh : hi ≠ some lo := fun e => by subst e; simp [goOn] at cg; omega
          have e1 : (vU v lo hi 1).k = v.k := by rw [vU, if_neg nh]
          rw [e1]
          exact ((h M).bnd (e' := 0) (k' := 0) fun _ _ _ => .nil).mono (by omega) (by omega)
        · rw [if_neg cg]; exact .nil
      have e2 : (vU v lo hi 1).e = 1 := by rw [vU]; split <;> rfl
      rw [e2]
      split
      · exact (both.app .arr).mono (by omega) (by omega)
      · exact (CL.arr.app both).mono (by omega) (by omega)
    · have ej : lo + 1 - min d lo = (lo + 1 - min (d + 1) lo - 1) + 2 := by rw [Nat.min_eq_left (by omega), Nat.min_eq_left (by omega)]; omega
      have ej2 : lo + 1 - min (d + 1) lo - 1 + 1 = lo + 1 - min (d + 1) lo := by omega
      have both : CL (if goOn hi d = true then (o M g).flatMap (bnd (fun e M' => if g < e ∨ d < lo then evT o fr lo hi m r (d + 1) M' e else []) [fr (d + 1)]) else []) (vU v lo hi (lo + 1 - min d lo)).e (vU v lo hi (lo + 1 - min d lo)).k := by
        rw [ej, vU, ej2]
        split
        · refine ((h M).bnd (e' := (vU v lo hi (lo + 1 - min (d + 1) lo)).e) (k' := (vU v lo hi (lo + 1 - min (d + 1) lo)).k) fun e M' hm => ?_).mono (Nat.le_refl _) (Nat.le_refl _)
          have a := ho M _ hm
          have : g = e := Nat.le_antisymm a.1 a.2
          subst this
          split
          · exact cl_evT ho h r (d + 1) M'
          · exact .nil
        · exact .nil
      rw [evT, if_neg c]
      split
      · rw [List.append_nil]; exact both
      · rw [List.nil_append]; exact both
mutual
theorem cl_ev : ∀ (p : Pat) (M : Mk), CL (ev t g p M g) (val p).e (val p).k
  | .none, M => by rw [ev]; exact .nil
  | .empty, M => by rw [ev, val]; exact .arr
  | .one z, M => by rw [ev, val, if_neg (Nat.lt_irrefl _)]; exact ⟨Nat.le_refl _, Nat.le_refl _⟩
  | .row ps, M => by rw [ev, val]; exact cl_evRow ps M
  | .any ps, M => by rw [ev, val]; exact cl_evAny ps M
  | .again q lo hi m, M => by
    rw [ev, val]
    have h := cl_evT (fr := frT q lo hi m) (lo := lo) (hi := hi) (m := m) (fun M => ev_ok q M g (Nat.le_refl g)) (fun M => cl_ev q M) (g - g + lo + 1) 0 M
    rw [Nat.zero_min, Nat.sub_zero] at h
    exact h
  | .group q k, M => by
    rw [ev, val]
    exact ((cl_ev q _).bnd (e' := 1) (k' := 0) fun e M' h => .arr).mono (Nat.le_refl _) (Nat.le_refl _)
theorem cl_evRow : ∀ (ps : List Pat) (M : Mk), CL (evRow t g ps M g) (valRow ps).e (valRow ps).k
  | [], M => by rw [evRow, valRow]; exact .arr
  | p :: ps, M => by
    rw [evRow, valRow]
    refine (cl_ev p M).bnd fun e M' h => ?_
    have a := ev_ok p M g (Nat.le_refl g) _ h
    have : g = e := Nat.le_antisymm a.1 a.2
    subst this
    exact cl_evRow ps M'
theorem cl_evAny : ∀ (ps : List Pat) (M : Mk), CL (evAny t g ps M g) (valAny ps).e (valAny ps).k
  | [], M => by rw [evAny]; exact .nil
  | p :: ps, M => by rw [evAny, valAny]; exact (cl_ev p M).app (cl_evAny ps M)
end
theorem cl_evF (f : Frame) (M : Mk) : CL (evF t g f M g) (valF f).e (valF f).k := by
  cases f with
  | pat p => exact cl_ev p M
  | turn q lo hi m d new =>
    rw [evF, valF]
    by_cases c : (new && decide (lo < d)) = true
    · rw [if_pos c]; exact .nil
    · rw [if_neg c, if_neg c]
      exact cl_evT (fun M => ev_ok q M g (Nat.le_refl g)) (fun M => cl_ev q M) _ d M
  | close k => rw [evF]; exact .arr
theorem cl_evs : ∀ (S : List Frame) (M : Mk), CL (evs t g false S M g) (vals S).e (vals S).k
  | [], M => by rw [evs, vals]; exact .arr
  | f :: S, M => by
    rw [evs, vals, if_neg Bool.false_ne_true]
    refine (cl_evF f M).bnd fun e M' h => ?_
    have a := evF_ok f M g (Nat.le_refl g) _ h
    have : g = e := Nat.le_antisymm a.1 a.2
    subst this
    rw [show (false || decide (g < g)) = false by simp]
    exact cl_evs S M'
end
end

section
/-! the stops of a rest are what becomes of it at its place -/
mutual
def gP (b N : Nat) : Pat → Bool
  | .none => true
  | .empty => true
  | .one _ => true
  | .row ps => decide (ps.length ≤ 4) && gPs b N ps
  | .any ps => gPs b N ps
  | .again q _ _ _ => gP b N q
  | .group q (some k) => decide (b ≤ k) && decide (k < N) && gP b N q
  | .group _ .none => false
def gPs (b N : Nat) : List Pat → Bool
  | [] => true
  | p :: ps => gP b N p && gPs b N ps
end
theorem gPs_all {b N : Nat} : ∀ {ps : List Pat}, gPs b N ps = true ↔ ∀ p ∈ ps, gP b N p = true
  | [] => by simp [gPs]
  | p :: ps => by rw [gPs, Bool.and_eq_true, gPs_all]; simp
def gF (b N : Nat) : Frame → Bool
  | .pat p => gP b N p
  | .turn q _ _ _ _ _ => gP b N q
  | .close k => decide (b ≤ k) && decide (k < N)
def toS : Ev → Stop
  | .arr _ M => ([], M)
  | .prog F M => (F, M)
def stT (t : List Nat) (R : List Frame) (M : Mk) (pl : Nat) : List Stop := (evs t pl false R M pl).map toS
section
variable {t : List Nat} {pl : Nat}
/-- what is behind, at the same place -/
abbrev bS (t : List Nat) (pl : Nat) (S : List Frame) : Ev → List Ev := bnd (fun _ M' => evs t pl false S M' pl) (S.map aged)
theorem here_bnd {X : List Ev} {S T : List Frame} (hX : ∀ y ∈ X, okE pl pl y) : X.flatMap (bnd (fun e M' => evs t pl (false || decide (pl < e)) S M' e) T) = X.flatMap (bnd (fun _ M' => evs t pl false S M' pl) T) := bnd_congr fun e M' h => by
  have a := hX _ h
  have : pl = e := Nat.le_antisymm a.1 a.2
  subst this
  rw [show (false || decide (pl < pl)) = false by simp]
theorem here_cons (f : Frame) (S : List Frame) (M : Mk) : evs t pl false (f :: S) M pl = (evF t pl f M pl).flatMap (bS t pl S) := by
  rw [evs, if_neg Bool.false_ne_true]
  exact here_bnd (evF_ok f M pl (Nat.le_refl _))
theorem here_app (R S : List Frame) (M : Mk) : evs t pl false (R ++ S) M pl = (evs t pl false R M pl).flatMap (bS t pl S) := by
  rw [evs_app R S false M pl (Nat.le_refl _)]
  exact here_bnd (evs_ok R false M pl (Nat.le_refl _))
theorem here_group (q : Pat) (k : Nat) (S : List Frame) (M : Mk) : evs t pl false (.pat q :: .close k :: S) (begin' k pl M) pl = evs t pl false (.pat (.group q (some k)) :: S) M pl := by
  rw [here_cons, here_cons, evF, evF, ev, Option.getD_some, bS, bS, bnd_bnd]
  refine Eq.trans (bnd_congr fun e M' h => ?_) rfl
  have a := ev_ok q _ pl (Nat.le_refl _) _ h
  have : pl = e := Nat.le_antisymm a.1 a.2
  subst this
  rw [here_cons, evF]
theorem here_turn (q : Pat) (lo : Nat) (hi : Option Nat) (m : Bool) (d : Nat) (new : Bool) (S : List Frame) (M : Mk) (h : (new && decide (lo < d)) = false) :
    evs t pl false (.turn q lo hi m d new :: S) M pl = (if m = true then
      (if goOn hi d = true then evs t pl false (.pat q :: .turn q lo hi m (d + 1) true :: S) M pl else []) ++ (if lo ≤ d then evs t pl false S M pl else []) else
      (if lo ≤ d then evs t pl false S M pl else []) ++ (if goOn hi d = true then evs t pl false (.pat q :: .turn q lo hi m (d + 1) true :: S) M pl else [])) := by
  have hstay : (if lo ≤ d then [Ev.arr pl M] else []).flatMap (bS t pl S) = if lo ≤ d then evs t pl false S M pl else [] := by
    split
    · simp [bnd]
    · rfl
  have hgo : ((ev t pl q M pl).flatMap (bnd (fun e M' => if pl < e ∨ d < lo then evT (ev t pl q) (frT q lo hi m) lo hi m (pl - pl + lo) (d + 1) M' e else []) [frT q lo hi m (d + 1)])).flatMap (bS t pl S) = evs t pl false (.pat q :: .turn q lo hi m (d + 1) true :: S) M pl := by
    rw [here_cons, evF, bS, bS, bnd_bnd]
    refine Eq.trans (bnd_congr fun e M' hm => ?_) (by rw [List.map_cons]; rfl)
    have a := ev_ok q _ pl (Nat.le_refl _) _ hm
    have : pl = e := Nat.le_antisymm a.1 a.2
    subst this
    rw [here_cons, evF]
    by_cases c : d < lo
    · rw [if_pos (.inr c), if_neg (by simp; omega)]
      rw [evT_eq (fun M pl hp y hy => ev_ok q M pl hp y hy) (pl - pl + lo) (pl - pl + lo + 1) (d + 1) (d + 1) M' pl (Nat.le_refl _) (by omega) (by omega) (.inl rfl)]
    · rw [if_neg (by omega), if_pos (by simp; omega)]
  rw [here_cons, evF, h, if_neg Bool.false_ne_true, evT]
  split
  · rw [List.flatMap_append, hstay]
    congr 1
    split
    · exact hgo
    · rfl
  · rw [List.flatMap_append, hstay]
    congr 1
    split
    · exact hgo
    · rfl
theorem mget_of {M : Mk} {k : Nat} (h : k < M.length) : M[k]? = some (mget M k) := by
  rw [mget, List.getElem?_eq_getElem h]; rfl
theorem stopsF_eq : ∀ (n : Nat) (R : List Frame) (M : Mk) (pl : Nat), (vals R).a < n → R.length + 3 * n ≤ 500 → (∀ f ∈ R, gF 0 M.length f = true) → stopsF n R M pl = some (stT t R M pl)
  | 0, _, _, _, h, _, _ => absurd h (by omega)
  | n + 1, R, M, pl, hc, hl, hg => by
    rw [stopsF.eq_def]
    simp only []
    rw [if_neg (by omega)]
    cases R with
    | nil => rfl
    | cons f S =>
      have hf := hg f List.mem_cons_self
      have hS : ∀ f ∈ S, gF 0 M.length f = true := fun f h => hg f (List.mem_cons_of_mem _ h)
      have hca : (valF f).a + (vals S).a < n + 1 := hc
      have hll : S.length + 1 + 3 * (n + 1) ≤ 500 := by simpa using hl
      cases f with
      | close k =>
        have hk : k < M.length := by simp [gF] at hf; exact hf
        have hca : 1 + (vals S).a < n + 1 := hca
        simp only [mget_of hk, Option.bind_some]
        rw [stopsF_eq n S _ pl (by omega) (by omega) (by rw [List.length_set]; exact hS), stT, stT, here_cons, evF]
        simp [bnd, PW.shut]
      | turn q lo hi m d new =>
        simp only []
        by_cases c : (new && decide (lo < d)) = true
        · rw [if_pos c, stT, here_cons, evF, if_pos c]; rfl
        · rw [if_neg c]
          have c' : (new && decide (lo < d)) = false := by simpa using c
          rw [stT, here_turn q lo hi m d new S M c']
          have hq : gP 0 M.length q = true := hf
          rw [valF, if_neg c] at hca
          have hU : 1 ≤ (vU (val q) lo hi (lo + 1 - min d lo)).a := by
            have hj : ∃ j, lo + 1 - min d lo = j + 1 := ⟨lo - min d lo, by omega⟩
            obtain ⟨j, hj⟩ := hj
            rw [hj]
            cases j with
            | zero => rw [vU]; split <;> simp
            | succ j => rw [vU]; simp [V4.bump]
          have go : (if goOn hi d = true then stopsF n (.pat q :: .turn q lo hi m (d + 1) true :: S) M pl else some []) = some ((if goOn hi d = true then evs t pl false (.pat q :: .turn q lo hi m (d + 1) true :: S) M pl else []).map toS) := by
            by_cases cg : goOn hi d = true
            · rw [if_pos cg, if_pos cg]
              refine stopsF_eq n _ M pl ?_ (by simp; omega) fun f hf => ?_
              · show (val q).a + ((valF (.turn q lo hi m (d + 1) true)).a + (vals S).a) < n
                rw [valF]
                by_cases c2 : lo ≤ d
                · rw [if_pos (by simp; omega)]
                  have ej : lo + 1 - min d lo = 1 := by rw [Nat.min_eq_right c2]; omega
                  have nh : hi ≠ some lo := fun e => by subst e; simp [goOn] at cg; omega
                  rw [ej, vU, if_neg nh] at hca
                  simp only [] at hca ⊢
                  omega
                · rw [if_neg (by simp; omega)]
                  have ej : lo + 1 - min d lo = (lo + 1 - min (d + 1) lo - 1) + 2 := by rw [Nat.min_eq_left (by omega), Nat.min_eq_left (by omega)]; omega
                  have ej2 : lo + 1 - min (d + 1) lo - 1 + 1 = lo + 1 - min (d + 1) lo := by omega
                  rw [ej, vU, ej2] at hca
                  simp only [V4.bump, V4.mul] at hca
                  omega
              · rcases List.mem_cons.mp hf with rfl | hf
                · exact hq
                · rcases List.mem_cons.mp hf with rfl | hf
                  · exact hq
                  · exact hS f hf
            · rw [if_neg cg, if_neg cg]; rfl
          have stay : (if lo ≤ d then stopsF n S M pl else some []) = some ((if lo ≤ d then evs t pl false S M pl else []).map toS) := by
            by_cases cs : lo ≤ d
            · rw [if_pos cs, if_pos cs]
              exact stopsF_eq n S M pl (by omega) (by omega) hS
            · rw [if_neg cs, if_neg cs]; rfl
          rw [go, stay, Option.bind_some, Option.bind_some]
          by_cases cm : m = true
          · rw [if_pos cm, if_pos cm, List.map_append]
          · rw [if_neg cm, if_neg cm, List.map_append]
      | pat p =>
        cases p with
        | none => rfl
        | empty =>
          have hca : 1 + (vals S).a < n + 1 := hca
          show stopsF n S M pl = _
          rw [stopsF_eq n S M pl (by omega) (by omega) hS, stT, stT, here_cons, evF, ev]
          simp [bnd]
        | one z =>
          show some [_] = _
          rw [stT, here_cons, evF, ev, if_neg (Nat.lt_irrefl _)]
          simp [bnd, toS]
        | row ps =>
          have hf : gP 0 M.length (.row ps) = true := hf
          rw [gP, Bool.and_eq_true, decide_eq_true_eq, gPs_all] at hf
          have hca : ((val (.row ps)).a + (vals S).a) < n + 1 := hca
          rw [val] at hca
          have hca : (valRow ps).a + 1 + (vals S).a < n + 1 := hca
          show stopsF n (ps.map .pat ++ S) M pl = _
          rw [stopsF_eq n (ps.map Frame.pat ++ S) M pl (by rw [vals_app, vals_pats]; show _ + _ < _; omega) (by rw [List.length_append, List.length_map]; omega) fun f hf' => ?_]
          · rw [stT, stT, here_app, evs_pats, here_cons, evF, ev]
          · rcases List.mem_append.mp hf' with h | h
            · obtain ⟨q, hq, rfl⟩ := List.mem_map.mp h
              exact hf.2 q hq
            · exact hS f h
        | any ps =>
          have hf : gP 0 M.length (.any ps) = true := hf
          rw [gP, gPs_all] at hf
          have hca : (valAny ps).a + (vals S).a < n + 1 := by
            have : (val (.any ps)).a + (vals S).a < n + 1 := hca
            rw [val] at this; exact this
          show catO (fun q => stopsF n (.pat q :: S) M pl) ps = _
          have main : ∀ qs : List Pat, (∀ q ∈ qs, gP 0 M.length q = true) → (valAny qs).a + (vals S).a < n + 1 → catO (fun q => stopsF n (.pat q :: S) M pl) qs = some (((evAny t pl qs M pl).flatMap (bS t pl S)).map toS) := by
            intro qs
            induction qs with
            | nil => intro _ _; rw [evAny]; rfl
            | cons q qs ih =>
              intro h1 h2
              rw [valAny] at h2
              have h2 : max (1 + (val q).a) (valAny qs).a + (vals S).a < n + 1 := h2
              have m1 := Nat.le_max_left (1 + (val q).a) (valAny qs).a
              have m2 := Nat.le_max_right (1 + (val q).a) (valAny qs).a
              rw [catO, stopsF_eq n (.pat q :: S) M pl (by show (val q).a + (vals S).a < n; omega) (by rw [List.length_cons]; omega) fun f hf' => ?_, Option.bind_some, ih (fun q hq => h1 q (List.mem_cons_of_mem _ hq)) (by omega), Option.bind_some]
              · rw [stT, here_cons, evF, evAny, List.flatMap_append, List.map_append]
              · rcases List.mem_cons.mp hf' with rfl | h
                · exact h1 q List.mem_cons_self
                · exact hS f h
          rw [main ps hf hca, stT, here_cons, evF, ev]
        | again q lo hi m =>
          have hca : ((val (.again q lo hi m)).a + (vals S).a) < n + 1 := hca
          rw [val] at hca
          have hca : (vU (val q) lo hi (lo + 1)).a + 1 + (vals S).a < n + 1 := hca
          show stopsF n (.turn q lo hi m 0 false :: S) M pl = _
          rw [stopsF_eq n (.turn q lo hi m 0 false :: S) M pl ?_ (by rw [List.length_cons]; omega) fun f hf' => ?_]
          · rw [stT, stT, here_cons, here_cons, evF, evF, ev]
            rfl
          · show (valF _).a + (vals S).a < n
            rw [valF, Bool.false_and, if_neg Bool.false_ne_true, Nat.zero_min, Nat.sub_zero]
            omega
          · rcases List.mem_cons.mp hf' with rfl | h
            · exact hf
            · exact hS f h
        | group q k =>
          cases k with
          | none => simp [gF, gP] at hf
          | some k =>
            simp only [gF, gP, Bool.and_eq_true, decide_eq_true_eq] at hf
            have hca : ((val (.group q (some k))).a + (vals S).a) < n + 1 := hca
            rw [val] at hca
            have hca : (val q).a + 1 + 1 + (vals S).a < n + 1 := hca
            show (M[k]?).bind _ = _
            rw [mget_of hf.1.2, Option.bind_some]
            rw [stopsF_eq n (.pat q :: .close k :: S) _ pl ?_ (by rw [List.length_cons, List.length_cons]; omega) fun f hf' => ?_]
            · rw [stT, stT]
              exact congrArg _ (congrArg _ (here_group q k S M))
            · show (val q).a + (1 + (vals S).a) < n
              omega
            · rw [List.length_set]
              rcases List.mem_cons.mp hf' with rfl | h
              · exact hf.2
              · rcases List.mem_cons.mp h with rfl | h
                · simp [gF]; exact hf.1.2
                · exact hS f h
end
end

section
/-! what is left behind a letter -/
open V4 (le)
def RBs (B : V4) : List Frame → Prop
  | [] => True
  | f :: S => le (V4.mul (resF f) (vals S)) B ∧ RBs B S
structure RB (B : V4) (F : List Frame) : Prop where
  v : le (vals F) B
  s : RBs B F
theorem RBs.mono {B B' : V4} (l : le B B') : ∀ {S : List Frame}, RBs B S → RBs B' S
  | [], _ => trivial
  | _ :: _, ⟨h, t⟩ => ⟨h.trans l, RBs.mono l t⟩
theorem RB.mono {B B' : V4} (l : le B B') {S : List Frame} (h : RB B S) : RB B' S := ⟨h.v.trans l, h.s.mono l⟩
theorem RBs.app {B1 B : V4} {F2 : List Frame} (l : le (V4.mul B1 (vals F2)) B) (h2 : RBs B F2) : ∀ {F1 : List Frame}, RBs B1 F1 → RBs B (F1 ++ F2)
  | [], _ => h2
  | f :: S, ⟨h, t⟩ => ⟨by
    show le (V4.mul (resF f) (vals (S ++ F2))) B
    rw [vals_app, ← V4.mul_assoc]
    exact (V4.mul_le h (V4.le.refl _)).trans l, RBs.app l h2 t⟩
theorem RB.app {B1 B : V4} {F1 F2 : List Frame} (h : RB B1 F1) (l : le (V4.mul B1 (vals F2)) B) (h2 : RBs B F2) : RB B (F1 ++ F2) :=
  ⟨by rw [vals_app]; exact (V4.mul_le h.v (V4.le.refl _)).trans l, RBs.app l h2 h.s⟩
theorem RBs.split {B : V4} {f : Frame} {S : List Frame} : ∀ {R : List Frame}, RBs B (R ++ f :: S) → le (V4.mul (resF f) (vals S)) B ∧ RBs B S
  | [], h => h
  | _ :: R, ⟨_, t⟩ => RBs.split (R := R) t
def resOk (B : V4) : Ev → Prop
  | .arr _ _ => True
  | .prog F _ => ∃ z F', F = .pat (.one z) :: F' ∧ F'.map aged = F' ∧ RB B F'
theorem resOk.ext {B1 B : V4} {F T : List Frame} {M : Mk} (h : resOk B1 (.prog F M)) (hT : T.map aged = T) (l : le (V4.mul B1 (vals T)) B) (h2 : RBs B T) : resOk B (.prog (F ++ T) M) := by
  obtain ⟨z, F', rfl, ha, hb⟩ := h
  exact ⟨z, F' ++ T, rfl, by rw [List.map_append, ha, hT], hb.app l h2⟩
theorem resOk.mono {B B' : V4} (l : le B B') {y : Ev} (h : resOk B y) : resOk B' y := by
  cases y with
  | arr e M => trivial
  | prog F M =>
    obtain ⟨z, F', e, ha, hb⟩ := h
    exact ⟨z, F', e, ha, hb.mono l⟩
theorem RBs_pats : ∀ ps : List Pat, RBs (resRow ps) (ps.map .pat)
  | [] => trivial
  | p :: ps => by
    refine ⟨?_, (RBs_pats ps).mono (V4.le_j2 _ _)⟩
    rw [vals_pats, resF]
    exact V4.le_j1 _ _
theorem valF_frT (q : Pat) (lo : Nat) (hi : Option Nat) (m : Bool) (d : Nat) : le (valF (frT q lo hi m (d + 1))) (vJ (val q) lo hi lo) := by
  cases hi with
  | none =>
    rw [frT, aged, valF, Bool.false_and, if_neg Bool.false_ne_true]
    exact vU_vJ _ _ _ _ _ (by omega) (by omega)
  | some h =>
    rw [frT, aged, valF, Bool.false_and, if_neg Bool.false_ne_true]
    exact vU_vJ _ _ _ _ _ (by omega) (by omega)
theorem resF_frT (q : Pat) (lo : Nat) (hi : Option Nat) (m : Bool) (d : Nat) : resF (frT q lo hi m d) = V4.mul (res q) (vJ (val q) lo hi lo) := by
  cases hi <;> rfl
section
variable {t : List Nat} {g : Nat}
theorem res_evT {o : Mk → Nat → List Ev} {q : Pat} {lo : Nat} {hi : Option Nat} {m : Bool} (ho : ∀ M pl, ∀ y ∈ o M pl, resOk (res q) y) : ∀ (r d : Nat) (M : Mk) (pl : Nat), ∀ y ∈ evT o (frT q lo hi m) lo hi m r d M pl, resOk (V4.mul (res q) (vJ (val q) lo hi lo)) y
  | 0, _, _, _, y, h => by rw [evT] at h; cases h
  | r + 1, d, M, pl, y, h => by
    rcases mem_evT h with ⟨_, rfl⟩ | ⟨_, ⟨e, M', h1, _, h2⟩ | ⟨F, M', h1, rfl⟩⟩
    · trivial
    · exact res_evT ho r (d + 1) M' e y h2
    · refine (ho M pl _ h1).ext (by simp [frT_aged]) ?_ ⟨?_, trivial⟩
      · rw [vals, vals, V4.mul_one]
        exact V4.mul_le (V4.le.refl _) (valF_frT q lo hi m d)
      · rw [vals, V4.mul_one, resF_frT]
        exact V4.le.refl _
mutual
theorem res_ev : ∀ (p : Pat) (M : Mk) (pl : Nat), ∀ y ∈ ev t g p M pl, resOk (res p) y
  | .none, M, pl, y, h => by rw [ev] at h; cases h
  | .empty, M, pl, y, h => by rw [ev] at h; cases List.mem_singleton.mp h; trivial
  | .one z, M, pl, y, h => by
    rw [ev] at h
    split at h
    · split at h
      · cases List.mem_singleton.mp h; trivial
      · cases h
    · cases List.mem_singleton.mp h; exact ⟨z, [], rfl, rfl, by rw [res, vals]; exact V4.le.refl _, trivial⟩
  | .row ps, M, pl, y, h => by rw [ev] at h; rw [res]; exact res_evRow ps M pl y h
  | .any ps, M, pl, y, h => by rw [ev] at h; rw [res]; exact res_evAny ps M pl y h
  | .again q lo hi m, M, pl, y, h => by
    rw [ev] at h
    rw [res]
    exact res_evT (fun M pl y hy => res_ev q M pl y hy) _ _ _ _ y h
  | .group q k, M, pl, y, h => by
    rw [ev] at h
    rcases mem_bnd h with ⟨e, M', h1, h2⟩ | ⟨F, M', h1, rfl⟩
    · cases List.mem_singleton.mp h2
      trivial
    · rw [res]
      refine (res_ev q _ pl _ h1).ext rfl ?_ ⟨by rw [vals, V4.mul_one]; exact V4.bot_le, trivial⟩
      rw [vals, vals, V4.mul_one, valF]
      exact V4.le.refl _
theorem res_evRow : ∀ (ps : List Pat) (M : Mk) (pl : Nat), ∀ y ∈ evRow t g ps M pl, resOk (resRow ps) y
  | [], M, pl, y, h => by rw [evRow] at h; cases List.mem_singleton.mp h; trivial
  | p :: ps, M, pl, y, h => by
    rw [evRow] at h
    rw [resRow]
    rcases mem_bnd h with ⟨e, M', h1, h2⟩ | ⟨F, M', h1, rfl⟩
    · exact (res_evRow ps M' e y h2).mono (V4.le_j2 _ _)
    · refine (res_ev p M pl _ h1).ext (by rw [List.map_map]; rfl) ?_ ((RBs_pats ps).mono (V4.le_j2 _ _))
      rw [vals_pats]
      exact V4.le_j1 _ _
theorem res_evAny : ∀ (ps : List Pat) (M : Mk) (pl : Nat), ∀ y ∈ evAny t g ps M pl, resOk (resAny ps) y
  | [], M, pl, y, h => by rw [evAny] at h; cases h
  | p :: ps, M, pl, y, h => by
    rw [evAny] at h
    rw [resAny]
    rcases List.mem_append.mp h with h | h
    · exact (res_ev p M pl y h).mono (V4.le_j1 _ _)
    · exact (res_evAny ps M pl y h).mono (V4.le_j2 _ _)
end
theorem res_evF (f : Frame) (M : Mk) (pl : Nat) : ∀ y ∈ evF t g f M pl, resOk (resF f) y := fun y h => by
  cases f with
  | pat p => exact res_ev p M pl y h
  | turn q lo hi m d new =>
    rw [evF] at h
    split at h
    · cases h
    · exact res_evT (fun M pl y hy => res_ev q M pl y hy) _ _ _ _ y h
  | close k =>
    rw [evF] at h
    cases List.mem_singleton.mp h; trivial
/-- a rest that has been left behind a letter: what is left of it behind the next one -/
theorem res_evs {B : V4} : ∀ (S : List Frame) (fl : Bool) (M : Mk) (pl : Nat), S.map aged = S → RBs B S → ∀ y ∈ evs t g fl S M pl, resOk B y
  | [], fl, M, pl, _, _, y, h => by rw [evs] at h; cases List.mem_singleton.mp h; trivial
  | f :: S, fl, M, pl, ha, ⟨hb, hs⟩, y, h => by
    have ha1 : aged f = f := by injection ha
    have ha2 : S.map aged = S := by injection ha
    have e : (if fl = true then aged f else f) = f := by split <;> simp [ha1]
    rw [evs, e, ha2] at h
    rcases mem_bnd h with ⟨e, M', h1, h2⟩ | ⟨F, M', h1, rfl⟩
    · exact res_evs S _ M' e ha2 hs y h2
    · exact (res_evF f M pl _ h1).ext ha2 hb hs
end
/-! ### what holds of all frames that come of a frame -/
structure Her (H : Frame → Prop) : Prop where
  row : ∀ {ps}, H (.pat (.row ps)) → ∀ q ∈ ps, H (.pat q)
  any : ∀ {ps}, H (.pat (.any ps)) → ∀ q ∈ ps, H (.pat q)
  group : ∀ {q k}, H (.pat (.group q k)) → H (.pat q) ∧ H (.close (k.getD 0))
  again : ∀ {q lo hi m}, H (.pat (.again q lo hi m)) → H (.pat q) ∧ ∀ d, H (frT q lo hi m d)
  turn : ∀ {q lo hi m d new}, H (.turn q lo hi m d new) → H (.pat q) ∧ ∀ d, H (frT q lo hi m d)
  age : ∀ {f}, H f → H (aged f)
def herOk (H : Frame → Prop) : Ev → Prop
  | .arr _ _ => True
  | .prog F _ => ∀ f ∈ F, H f
theorem herOk.ext {H : Frame → Prop} {F T : List Frame} {M : Mk} (h : herOk H (.prog F M)) (i : ∀ f ∈ T, H f) : herOk H (.prog (F ++ T) M) := fun f hf => (List.mem_append.mp hf).elim (h f) (i f)
section
variable {t : List Nat} {g : Nat} {H : Frame → Prop}
theorem her_evT {o : Mk → Nat → List Ev} {fr : Nat → Frame} {lo : Nat} {hi : Option Nat} {m : Bool} (ho : ∀ M pl, ∀ y ∈ o M pl, herOk H y) (hf : ∀ d, H (fr d)) : ∀ (r d : Nat) (M : Mk) (pl : Nat), ∀ y ∈ evT o fr lo hi m r d M pl, herOk H y
  | 0, _, _, _, y, h => by rw [evT] at h; cases h
  | r + 1, d, M, pl, y, h => by
    rcases mem_evT h with ⟨_, rfl⟩ | ⟨_, ⟨e, M', h1, _, h2⟩ | ⟨F, M', h1, rfl⟩⟩
    · trivial
    · exact her_evT ho hf r (d + 1) M' e y h2
    · exact (ho M pl _ h1).ext fun f hf' => by rw [List.mem_singleton.mp hf']; exact hf _
mutual
theorem her_ev (A : Her H) : ∀ (p : Pat) (M : Mk) (pl : Nat), H (.pat p) → ∀ y ∈ ev t g p M pl, herOk H y
  | .none, M, pl, hp, y, h => by rw [ev] at h; cases h
  | .empty, M, pl, hp, y, h => by rw [ev] at h; cases List.mem_singleton.mp h; trivial
  | .one z, M, pl, hp, y, h => by
    rw [ev] at h
    split at h
    · split at h
      · cases List.mem_singleton.mp h; trivial
      · cases h
    · cases List.mem_singleton.mp h; intro f hf; rw [List.mem_singleton.mp hf]; exact hp
  | .row ps, M, pl, hp, y, h => by rw [ev] at h; exact her_evRow A ps M pl (A.row hp) y h
  | .any ps, M, pl, hp, y, h => by rw [ev] at h; exact her_evAny A ps M pl (A.any hp) y h
  | .again q lo hi m, M, pl, hp, y, h => by
    rw [ev] at h
    exact her_evT (fun M pl y hy => her_ev A q M pl (A.again hp).1 y hy) (A.again hp).2 _ _ _ _ y h
  | .group q k, M, pl, hp, y, h => by
    rw [ev] at h
    rcases mem_bnd h with ⟨e, M', h1, h2⟩ | ⟨F, M', h1, rfl⟩
    · cases List.mem_singleton.mp h2
      trivial
    · exact (her_ev A q _ pl (A.group hp).1 _ h1).ext fun f hf => by rw [List.mem_singleton.mp hf]; exact (A.group hp).2
theorem her_evRow (A : Her H) : ∀ (ps : List Pat) (M : Mk) (pl : Nat), (∀ q ∈ ps, H (.pat q)) → ∀ y ∈ evRow t g ps M pl, herOk H y
  | [], M, pl, hp, y, h => by rw [evRow] at h; cases List.mem_singleton.mp h; trivial
  | p :: ps, M, pl, hp, y, h => by
    rw [evRow] at h
    rcases mem_bnd h with ⟨e, M', h1, h2⟩ | ⟨F, M', h1, rfl⟩
    · exact her_evRow A ps M' e (fun q hq => hp q (List.mem_cons_of_mem _ hq)) y h2
    · refine (her_ev A p M pl (hp p List.mem_cons_self) _ h1).ext fun f hf => ?_
      obtain ⟨q, hq, rfl⟩ := List.mem_map.mp hf
      exact hp q (List.mem_cons_of_mem _ hq)
theorem her_evAny (A : Her H) : ∀ (ps : List Pat) (M : Mk) (pl : Nat), (∀ q ∈ ps, H (.pat q)) → ∀ y ∈ evAny t g ps M pl, herOk H y
  | [], M, pl, hp, y, h => by rw [evAny] at h; cases h
  | p :: ps, M, pl, hp, y, h => by
    rw [evAny] at h
    rcases List.mem_append.mp h with h | h
    · exact her_ev A p M pl (hp p List.mem_cons_self) y h
    · exact her_evAny A ps M pl (fun q hq => hp q (List.mem_cons_of_mem _ hq)) y h
end
theorem her_evF (A : Her H) (f : Frame) (M : Mk) (pl : Nat) (hf : H f) : ∀ y ∈ evF t g f M pl, herOk H y := fun y h => by
  cases f with
  | pat p => exact her_ev A p M pl hf y h
  | turn q lo hi m d new =>
    rw [evF] at h
    split at h
    · cases h
    · exact her_evT (fun M pl y hy => her_ev A q M pl (A.turn hf).1 y hy) (A.turn hf).2 _ _ _ _ y h
  | close k =>
    rw [evF] at h
    cases List.mem_singleton.mp h; trivial
theorem her_evs (A : Her H) : ∀ (S : List Frame) (fl : Bool) (M : Mk) (pl : Nat), (∀ f ∈ S, H f) → ∀ y ∈ evs t g fl S M pl, herOk H y
  | [], fl, M, pl, _, y, h => by rw [evs] at h; cases List.mem_singleton.mp h; trivial
  | f :: S, fl, M, pl, hs, y, h => by
    rw [evs] at h
    have hf := hs f List.mem_cons_self
    rcases mem_bnd h with ⟨e, M', h1, h2⟩ | ⟨F, M', h1, rfl⟩
    · exact her_evs A S _ M' e (fun q hq => hs q (List.mem_cons_of_mem _ hq)) y h2
    · refine (her_evF A _ M pl (by split; exact A.age hf; exact hf) _ h1).ext fun f hf => ?_
      obtain ⟨q, hq, rfl⟩ := List.mem_map.mp hf
      exact A.age (hs q (List.mem_cons_of_mem _ hq))
end
/-! ### marks -/
def mkE : Ev → Mk
  | .arr _ M => M
  | .prog _ M => M
/-- as many marks; those below b stay -/
structure MkOk (b : Nat) (M M' : Mk) : Prop where
  len : M'.length = M.length
  low : ∀ j, j < b → M'[j]? = M[j]?
theorem MkOk.refl (b : Nat) (M : Mk) : MkOk b M M := ⟨rfl, fun _ _ => rfl⟩
theorem MkOk.trans {b : Nat} {M M1 M2 : Mk} (h : MkOk b M M1) (i : MkOk b M1 M2) : MkOk b M M2 := ⟨i.len.trans h.len, fun j hj => (i.low j hj).trans (h.low j hj)⟩
theorem MkOk.set {b k : Nat} {M : Mk} (h : b ≤ k) (x : PyData × PyData) : MkOk b M (M.set k x) := ⟨List.length_set, fun j hj => by rw [List.getElem?_set_ne (by omega)]⟩
theorem MkOk.less {b c : Nat} {M M' : Mk} (h : MkOk c M M') (l : b ≤ c) : MkOk b M M' := ⟨h.len, fun j hj => h.low j (by omega)⟩
section
variable {t : List Nat} {g b N : Nat}
theorem mk_evT {o : Mk → Nat → List Ev} {fr : Nat → Frame} {lo : Nat} {hi : Option Nat} {m : Bool} (ho : ∀ M pl, ∀ y ∈ o M pl, MkOk b M (mkE y)) : ∀ (r d : Nat) (M : Mk) (pl : Nat), ∀ y ∈ evT o fr lo hi m r d M pl, MkOk b M (mkE y)
  | 0, _, _, _, y, h => by rw [evT] at h; cases h
  | r + 1, d, M, pl, y, h => by
    rcases mem_evT h with ⟨_, rfl⟩ | ⟨_, ⟨e, M', h1, _, h2⟩ | ⟨F, M', h1, rfl⟩⟩
    · exact .refl _ _
    · exact (ho M pl _ h1).trans (mk_evT ho r (d + 1) M' e y h2)
    · have a := ho M pl _ h1; exact a
mutual
theorem mk_ev : ∀ (p : Pat) (M : Mk) (pl : Nat), gP b N p = true → ∀ y ∈ ev t g p M pl, MkOk b M (mkE y)
  | .none, M, pl, hp, y, h => by rw [ev] at h; cases h
  | .empty, M, pl, hp, y, h => by rw [ev] at h; cases List.mem_singleton.mp h; exact .refl _ _
  | .one z, M, pl, hp, y, h => by
    rw [ev] at h
    split at h
    · split at h
      · cases List.mem_singleton.mp h; exact .refl _ _
      · cases h
    · cases List.mem_singleton.mp h; exact .refl _ _
  | .row ps, M, pl, hp, y, h => by rw [ev] at h; rw [gP, Bool.and_eq_true] at hp; exact mk_evRow ps M pl hp.2 y h
  | .any ps, M, pl, hp, y, h => by rw [ev] at h; rw [gP] at hp; exact mk_evAny ps M pl hp y h
  | .again q lo hi m, M, pl, hp, y, h => by
    rw [ev] at h
    rw [gP] at hp
    exact mk_evT (fun M pl y hy => mk_ev q M pl hp y hy) _ _ _ _ y h
  | .group q none, M, pl, hp, y, h => by rw [gP] at hp; cases hp
  | .group q (some k), M, pl, hp, y, h => by
    rw [ev, Option.getD_some] at h
    simp only [gP, Bool.and_eq_true, decide_eq_true_eq] at hp
    have h0 : MkOk b M (begin' k pl M) := .set hp.1.1 _
    rcases mem_bnd h with ⟨e, M', h1, h2⟩ | ⟨F, M', h1, rfl⟩
    · cases List.mem_singleton.mp h2
      exact (h0.trans (mk_ev q _ pl hp.2 _ h1)).trans (.set hp.1.1 _)
    · have a := mk_ev q _ pl hp.2 _ h1; exact h0.trans a
theorem mk_evRow : ∀ (ps : List Pat) (M : Mk) (pl : Nat), gPs b N ps = true → ∀ y ∈ evRow t g ps M pl, MkOk b M (mkE y)
  | [], M, pl, hp, y, h => by rw [evRow] at h; cases List.mem_singleton.mp h; exact .refl _ _
  | p :: ps, M, pl, hp, y, h => by
    rw [evRow] at h
    rw [gPs, Bool.and_eq_true] at hp
    rcases mem_bnd h with ⟨e, M', h1, h2⟩ | ⟨F, M', h1, rfl⟩
    · exact (mk_ev p M pl hp.1 _ h1).trans (mk_evRow ps M' e hp.2 y h2)
    · have a := mk_ev p M pl hp.1 _ h1; exact a
theorem mk_evAny : ∀ (ps : List Pat) (M : Mk) (pl : Nat), gPs b N ps = true → ∀ y ∈ evAny t g ps M pl, MkOk b M (mkE y)
  | [], M, pl, hp, y, h => by rw [evAny] at h; cases h
  | p :: ps, M, pl, hp, y, h => by
    rw [evAny] at h
    rw [gPs, Bool.and_eq_true] at hp
    rcases List.mem_append.mp h with h | h
    · exact mk_ev p M pl hp.1 y h
    · exact mk_evAny ps M pl hp.2 y h
end
theorem mk_evF (f : Frame) (M : Mk) (pl : Nat) (hf : gF b N f = true) : ∀ y ∈ evF t g f M pl, MkOk b M (mkE y) := fun y h => by
  cases f with
  | pat p => exact mk_ev p M pl hf y h
  | turn q lo hi m d new =>
    rw [evF] at h
    split at h
    · cases h
    · exact mk_evT (fun M pl y hy => mk_ev q M pl hf y hy) _ _ _ _ y h
  | close k =>
    rw [evF] at h
    simp only [gF, Bool.and_eq_true, decide_eq_true_eq] at hf
    cases List.mem_singleton.mp h; exact .set hf.1 _
theorem gF_aged (f : Frame) : gF b N (aged f) = gF b N f := by
  cases f with
  | turn q lo hi m d new => cases hi <;> rfl
  | _ => rfl
theorem mk_evs : ∀ (S : List Frame) (fl : Bool) (M : Mk) (pl : Nat), (∀ f ∈ S, gF b N f = true) → ∀ y ∈ evs t g fl S M pl, MkOk b M (mkE y)
  | [], fl, M, pl, _, y, h => by rw [evs] at h; cases List.mem_singleton.mp h; exact .refl _ _
  | f :: S, fl, M, pl, hs, y, h => by
    rw [evs] at h
    have hf : gF b N (if fl = true then aged f else f) = true := by split; rw [gF_aged]; exact hs f List.mem_cons_self; exact hs f List.mem_cons_self
    rcases mem_bnd h with ⟨e, M', h1, h2⟩ | ⟨F, M', h1, rfl⟩
    · exact (mk_evF _ M pl hf _ h1).trans (mk_evs S _ M' e (fun q hq => hs q (List.mem_cons_of_mem _ hq)) y h2)
    · have a := mk_evF _ M pl hf _ h1; exact a
end
end

section
/-! tables: what a pattern costs, by its floors and its weight -/
open V4 (le)
def fine : Nat → Pat → Bool
  | 0, _ => false
  | _ + 1, .none => true
  | _ + 1, .empty => true
  | _ + 1, .one _ => true
  | k + 1, .row ps => decide (0 < ps.length) && decide (ps.length ≤ 4) && ps.all (fine k)
  | k + 1, .any ps => decide (0 < ps.length) && decide (ps.length ≤ 4) && ps.all (fine k)
  | k + 1, .again p lo hi _ => fine k p && decide (lo ≤ 3) && goodHi lo hi
  | k + 1, .group p _ => fine k p
theorem goodP_fine {s : Nat} : ∀ (k : Nat) (p : Pat), goodP s k p = true → fine k p = true
  | 0, _, h => by simp [goodP] at h
  | k + 1, p, h => by
    cases p with
    | row ps =>
      simp only [goodP, fine, Bool.and_eq_true, decide_eq_true_eq, List.all_eq_true] at h ⊢
      exact ⟨⟨by omega, h.1.2⟩, fun q hq => goodP_fine k q (h.2 q hq)⟩
    | any ps =>
      simp only [goodP, fine, Bool.and_eq_true, decide_eq_true_eq, List.all_eq_true] at h ⊢
      exact ⟨⟨by omega, h.1.2⟩, fun q hq => goodP_fine k q (h.2 q hq)⟩
    | again p lo hi m =>
      simp only [goodP, fine, Bool.and_eq_true, decide_eq_true_eq] at h ⊢
      exact ⟨⟨goodP_fine k p h.1.1, h.1.2⟩, h.2⟩
    | group p g =>
      simp only [goodP, fine, Bool.and_eq_true, decide_eq_true_eq] at h ⊢
      exact goodP_fine k p h.1
    | _ => rfl
theorem fine_num : ∀ (k : Nat) (p : Pat) (c : Nat), fine k p = true → fine k (num p c).1 = true
  | 0, _, _, h => by simp [fine] at h
  | k + 1, p, c, h => by
    have many : ∀ (ps : List Pat) (c : Nat), (∀ q ∈ ps, fine k q = true) → ∀ q ∈ (nums ps c).1, fine k q = true := by
      intro ps
      induction ps with
      | nil => intro c _ q hq; rw [nums] at hq; exact absurd hq (by simp)
      | cons p ps ih =>
        intro c h q hq
        rw [nums] at hq
        rcases List.mem_cons.mp hq with rfl | hq
        · exact fine_num k p c (h p List.mem_cons_self)
        · exact ih _ (fun q hq => h q (List.mem_cons_of_mem _ hq)) q hq
    cases p with
    | none => rw [num]; exact h
    | empty => rw [num]; exact h
    | one z => rw [num]; exact h
    | row ps =>
      rw [num]
      simp only [fine, Bool.and_eq_true, List.all_eq_true, nums_len] at h ⊢
      exact ⟨h.1, many ps c h.2⟩
    | any ps =>
      rw [num]
      simp only [fine, Bool.and_eq_true, List.all_eq_true, nums_len] at h ⊢
      exact ⟨h.1, many ps c h.2⟩
    | again p lo hi m =>
      rw [num]
      simp only [fine, Bool.and_eq_true] at h ⊢
      exact ⟨⟨fine_num k p c h.1.1, h.1.2⟩, h.2⟩
    | group p g => rw [num]; exact fine_num k p (c + 1) h
mutual
theorem weight_num : ∀ (p : Pat) (c : Nat), weightF (num p c).1 = weightF p
  | .none, c => by rw [num]
  | .empty, c => by rw [num]
  | .one z, c => by rw [num]
  | .row ps, c => by rw [num, weightF, weightF, weight_nums ps]
  | .any ps, c => by rw [num, weightF, weightF, weight_nums ps]
  | .again p lo hi m, c => by rw [num, weightF, weightF, weight_num p]
  | .group p g, c => by rw [num, weightF, weightF, weight_num p]
theorem weight_nums : ∀ (ps : List Pat) (c : Nat), weightL (nums ps c).1 = weightL ps
  | [], c => by rw [nums]
  | p :: ps, c => by rw [nums, weightL, weightL, weight_num p, weight_nums ps]
end
def upTo : Nat → (Nat → V4) → V4
  | 0, f => f 0
  | n + 1, f => V4.join (upTo n f) (f (n + 1))
theorem le_upTo (f : Nat → V4) : ∀ (n j : Nat), j ≤ n → le (f j) (upTo n f)
  | 0, j, h => by
    have : j = 0 := by omega
    subst this; exact V4.le.refl _
  | n + 1, j, h => by
    rw [upTo]
    by_cases c : j = n + 1
    · subst c; exact V4.le_j2 _ _
    · exact (le_upTo f n j (by omega)).trans (V4.le_j1 _ _)
def addA (x y : V4) : V4 := ⟨max (1 + x.a) y.a, x.e + y.e, x.k + y.k, 1⟩
theorem addA_le {x y u v : V4} (h : le x u) (i : le y v) : le (addA x y) (addA u v) :=
  ⟨Nat.max_le.mpr ⟨Nat.le_trans (Nat.add_le_add_left h.a 1) (Nat.le_max_left _ _), Nat.le_trans i.a (Nat.le_max_right _ _)⟩, Nat.add_le_add h.e i.e, Nat.add_le_add h.k i.k, Nat.le_refl _⟩
def rowT (T : Nat → V4) : Nat → Nat → V4
  | 0, w => if w = 0 then V4.one else V4.bot
  | n + 1, w => upTo w fun w1 => V4.mul (T w1) (rowT T n (w - w1))
def rowR (T R : Nat → V4) : Nat → Nat → V4
  | 0, _ => V4.bot
  | n + 1, w => upTo w fun w1 => V4.join (V4.mul (R w1) (rowT T n (w - w1))) (rowR T R n (w - w1))
def anyT (T : Nat → V4) : Nat → Nat → V4
  | 0, _ => ⟨1, 0, 0, 1⟩
  | n + 1, w => upTo w fun w1 => addA (T w1) (anyT T n (w - w1))
def anyR (R : Nat → V4) : Nat → Nat → V4
  | 0, _ => V4.bot
  | n + 1, w => upTo w fun w1 => V4.join (R w1) (anyR R n (w - w1))
def tabT : List (List V4) := [
  [⟨0, 0, 0, 1⟩, ⟨1, 1, 1, 1⟩, ⟨0, 0, 0, 0⟩, ⟨0, 0, 0, 0⟩, ⟨0, 0, 0, 0⟩, ⟨0, 0, 0, 0⟩, ⟨0, 0, 0, 0⟩, ⟨0, 0, 0, 0⟩, ⟨0, 0, 0, 0⟩],
  [⟨5, 1, 0, 1⟩, ⟨4, 1, 1, 1⟩, ⟨6, 2, 2, 1⟩, ⟨8, 3, 3, 1⟩, ⟨9, 4, 4, 1⟩, ⟨5, 4, 4, 1⟩, ⟨5, 4, 4, 1⟩, ⟨5, 4, 4, 1⟩, ⟨5, 4, 4, 1⟩],
  [⟨25, 4, 0, 1⟩, ⟨21, 4, 1, 1⟩, ⟨22, 5, 2, 1⟩, ⟨24, 6, 4, 1⟩, ⟨25, 7, 6, 1⟩, ⟨25, 7, 10, 1⟩, ⟨27, 9, 15, 1⟩, ⟨28, 12, 22, 1⟩, ⟨29, 18, 33, 1⟩],
  [⟨105, 256, 0, 1⟩, ⟨101, 256, 64, 1⟩, ⟨101, 320, 128, 1⟩, ⟨101, 384, 256, 1⟩, ⟨101, 448, 384, 1⟩, ⟨101, 480, 640, 1⟩, ⟨103, 576, 960, 1⟩, ⟨104, 768, 1408, 1⟩, ⟨105, 1152, 2112, 1⟩]]
def tabR : List (List V4) := [
  [⟨0, 0, 0, 0⟩, ⟨0, 1, 0, 0⟩, ⟨0, 0, 0, 0⟩, ⟨0, 0, 0, 0⟩, ⟨0, 0, 0, 0⟩, ⟨0, 0, 0, 0⟩, ⟨0, 0, 0, 0⟩, ⟨0, 0, 0, 0⟩, ⟨0, 0, 0, 0⟩],
  [⟨3, 0, 0, 3⟩, ⟨2, 1, 1, 3⟩, ⟨3, 1, 1, 3⟩, ⟨5, 1, 2, 3⟩, ⟨6, 1, 3, 3⟩, ⟨3, 1, 3, 3⟩, ⟨3, 1, 3, 3⟩, ⟨3, 1, 3, 3⟩, ⟨3, 1, 3, 3⟩],
  [⟨21, 0, 0, 6⟩, ⟨18, 1, 2, 6⟩, ⟨19, 1, 3, 6⟩, ⟨21, 2, 5, 6⟩, ⟨22, 3, 7, 6⟩, ⟨22, 4, 7, 6⟩, ⟨24, 6, 11, 6⟩, ⟨25, 9, 16, 6⟩, ⟨26, 12, 22, 6⟩],
  [⟨99, 0, 0, 9⟩, ⟨96, 64, 3, 9⟩, ⟨96, 64, 18, 9⟩, ⟨96, 128, 34, 9⟩, ⟨97, 192, 66, 9⟩, ⟨97, 256, 98, 9⟩, ⟨99, 384, 162, 9⟩, ⟨100, 576, 242, 9⟩, ⟨101, 768, 418, 9⟩]]
def tT (k w : Nat) : V4 := (tabT.getD k []).getD w V4.bot
def tR (k w : Nat) : V4 := (tabR.getD k []).getD w V4.bot
theorem tab_leaf : ∀ k, k < 4 → le ⟨0, 0, 0, 1⟩ (tT k 0) ∧ le ⟨1, 1, 0, 1⟩ (tT k 1) ∧ le ⟨0, 0, 1, 1⟩ (tT k 1) ∧ le V4.one (tR k 1) := by decide +kernel
theorem tab_row : ∀ k, k < 3 → ∀ n, n < 5 → ∀ w, w < 9 → le (V4.bump (rowT (tT k) n w)) (tT (k + 1) w) ∧ le (rowR (tT k) (tR k) n w) (tR (k + 1) w) := by decide +kernel
theorem tab_any : ∀ k, k < 3 → ∀ n, n < 5 → ∀ w, w < 9 → le (anyT (tT k) n w) (tT (k + 1) w) ∧ le (anyR (tR k) n w) (tR (k + 1) w) := by decide +kernel
theorem tab_group : ∀ k, k < 3 → ∀ w, w < 9 → le (V4.bump (V4.mul (tT k w) V4.one1)) (tT (k + 1) w) ∧ le (V4.mul (tR k w) V4.one1) (tR (k + 1) w) := by decide +kernel
theorem tab_again' : ∀ k, k < 3 → ∀ w, w < 9 → ∀ lo, lo < 4 → ([none, some 1, some 2, some 3].all fun hi => decide (goodHi lo hi = true → w * timesHi lo hi ≤ 8 →
    le (V4.bump (vU (tT k w) lo hi (lo + 1))) (tT (k + 1) (w * timesHi lo hi)) ∧ le (V4.mul (tR k w) (vJ (tT k w) lo hi lo)) (tR (k + 1) (w * timesHi lo hi)))) = true := by decide +kernel
theorem tab_again (k : Nat) (hk : k < 3) (w : Nat) (hw : w < 9) (lo : Nat) (hl : lo < 4) (hi : Option Nat) (hh : hi ∈ [none, some 1, some 2, some 3]) (h1 : goodHi lo hi = true) (h2 : w * timesHi lo hi ≤ 8) :
    le (V4.bump (vU (tT k w) lo hi (lo + 1))) (tT (k + 1) (w * timesHi lo hi)) ∧ le (V4.mul (tR k w) (vJ (tT k w) lo hi lo)) (tR (k + 1) (w * timesHi lo hi)) := of_decide_eq_true (List.all_eq_true.mp (tab_again' k hk w hw lo hl) hi hh) h1 h2
theorem tab_all : ∀ (k : Nat) (p : Pat), k < 4 → fine (k + 1) p = true → weightF p ≤ 8 → le (val p) (tT k (weightF p)) ∧ le (res p) (tR k (weightF p))
  | 0, p, hk, hf, hw => by
    have L := tab_leaf 0 hk
    cases p with
    | none => exact ⟨by rw [val, weightF]; exact L.1, by rw [res]; exact V4.bot_le⟩
    | empty => exact ⟨by rw [val, weightF]; exact L.2.1, by rw [res]; exact V4.bot_le⟩
    | one z => exact ⟨by rw [val, weightF]; exact L.2.2.1, by rw [res, weightF]; exact L.2.2.2⟩
    | row ps =>
      simp only [fine, Bool.and_eq_true, List.all_eq_true, decide_eq_true_eq] at hf
      cases ps with
      | nil => exact absurd hf.1.1 (by decide)
      | cons p ps => exact absurd (hf.2 p List.mem_cons_self) (by decide)
    | any ps =>
      simp only [fine, Bool.and_eq_true, List.all_eq_true, decide_eq_true_eq] at hf
      cases ps with
      | nil => exact absurd hf.1.1 (by decide)
      | cons p ps => exact absurd (hf.2 p List.mem_cons_self) (by decide)
    | again p lo hi m => simp [fine] at hf
    | group p g => simp [fine] at hf
  | k + 1, p, hk, hf, hw => by
    have L := tab_leaf (k + 1) hk
    cases p with
    | none => exact ⟨by rw [val, weightF]; exact L.1, by rw [res]; exact V4.bot_le⟩
    | empty => exact ⟨by rw [val, weightF]; exact L.2.1, by rw [res]; exact V4.bot_le⟩
    | one z => exact ⟨by rw [val, weightF]; exact L.2.2.1, by rw [res, weightF]; exact L.2.2.2⟩
    | row ps =>
      simp only [fine, Bool.and_eq_true, List.all_eq_true, decide_eq_true_eq] at hf
      rw [weightF] at hw
      have main : ∀ qs : List Pat, (∀ q ∈ qs, fine (k + 1) q = true) → weightL qs ≤ 8 → le (valRow qs) (rowT (tT k) qs.length (weightL qs)) ∧ le (resRow qs) (rowR (tT k) (tR k) qs.length (weightL qs)) := by
        intro qs
        induction qs with
        | nil => intro _ _; exact ⟨V4.le.refl _, V4.le.refl _⟩
        | cons q qs ih =>
          intro h1 h2
          rw [weightL] at h2 ⊢
          obtain ⟨a1, a2⟩ := tab_all k q (by omega) (h1 q List.mem_cons_self) (by omega)
          obtain ⟨b1, b2⟩ := ih (fun q hq => h1 q (List.mem_cons_of_mem _ hq)) (by omega)
          rw [List.length_cons, valRow, resRow, rowT, rowR]
          have e : weightF q + weightL qs - weightF q = weightL qs := by omega
          refine ⟨(V4.mul_le a1 b1).trans ?_, (V4.join_mono (V4.mul_le a2 b1) b2).trans ?_⟩
          · have := le_upTo (fun w1 => V4.mul (tT k w1) (rowT (tT k) qs.length (weightF q + weightL qs - w1))) (weightF q + weightL qs) (weightF q) (by omega)
            simp only [e] at this
            exact this
          · have := le_upTo (fun w1 => V4.join (V4.mul (tR k w1) (rowT (tT k) qs.length (weightF q + weightL qs - w1))) (rowR (tT k) (tR k) qs.length (weightF q + weightL qs - w1))) (weightF q + weightL qs) (weightF q) (by omega)
            simp only [e] at this
            exact this
      obtain ⟨m1, m2⟩ := main ps hf.2 hw
      obtain ⟨c1, c2⟩ := tab_row k (by omega) ps.length (by omega) (weightL ps) (by omega)
      rw [val, res, weightF]
      exact ⟨(V4.bump_le m1).trans c1, m2.trans c2⟩
    | any ps =>
      simp only [fine, Bool.and_eq_true, List.all_eq_true, decide_eq_true_eq] at hf
      rw [weightF] at hw
      have main : ∀ qs : List Pat, (∀ q ∈ qs, fine (k + 1) q = true) → weightL qs ≤ 8 → le (valAny qs) (anyT (tT k) qs.length (weightL qs)) ∧ le (resAny qs) (anyR (tR k) qs.length (weightL qs)) := by
        intro qs
        induction qs with
        | nil => intro _ _; exact ⟨V4.le.refl _, V4.le.refl _⟩
        | cons q qs ih =>
          intro h1 h2
          rw [weightL] at h2 ⊢
          obtain ⟨a1, a2⟩ := tab_all k q (by omega) (h1 q List.mem_cons_self) (by omega)
          obtain ⟨b1, b2⟩ := ih (fun q hq => h1 q (List.mem_cons_of_mem _ hq)) (by omega)
          rw [List.length_cons, valAny, resAny, anyT, anyR]
          have e : weightF q + weightL qs - weightF q = weightL qs := by omega
          refine ⟨(addA_le a1 b1).trans ?_, (V4.join_mono a2 b2).trans ?_⟩
          · have := le_upTo (fun w1 => addA (tT k w1) (anyT (tT k) qs.length (weightF q + weightL qs - w1))) (weightF q + weightL qs) (weightF q) (by omega)
            simp only [e] at this
            exact this
          · have := le_upTo (fun w1 => V4.join (tR k w1) (anyR (tR k) qs.length (weightF q + weightL qs - w1))) (weightF q + weightL qs) (weightF q) (by omega)
            simp only [e] at this
            exact this
      obtain ⟨m1, m2⟩ := main ps hf.2 hw
      obtain ⟨c1, c2⟩ := tab_any k (by omega) ps.length (by omega) (weightL ps) (by omega)
      rw [val, res, weightF]
      exact ⟨m1.trans c1, m2.trans c2⟩
    | again p lo hi m =>
      simp only [fine, Bool.and_eq_true, decide_eq_true_eq] at hf
      rw [weightF] at hw
      obtain ⟨⟨f1, f2⟩, f3⟩ := hf
      have ht : 1 ≤ timesHi lo hi := by
        cases hi with
        | none => rw [timesHi]; omega
        | some h => simp only [goodHi, Bool.and_eq_true, decide_eq_true_eq] at f3; rw [timesHi]; omega
      have hwp : weightF p ≤ 8 := Nat.le_trans (Nat.le_mul_of_pos_right _ ht) hw
      have hhi : hi ∈ [none, some 1, some 2, some 3] := by
        cases hi with
        | none => simp
        | some h =>
          simp only [goodHi, Bool.and_eq_true, decide_eq_true_eq] at f3
          have : h = 1 ∨ h = 2 ∨ h = 3 := by omega
          rcases this with rfl | rfl | rfl <;> simp
      obtain ⟨a1, a2⟩ := tab_all k p (by omega) f1 hwp
      obtain ⟨c1, c2⟩ := tab_again k (by omega) (weightF p) (by omega) lo (by omega) hi hhi f3 hw
      rw [val, res, weightF]
      exact ⟨(V4.bump_le (vU_le a1 lo hi _)).trans c1, (V4.mul_le a2 (vJ_le a1 lo hi _)).trans c2⟩
    | group p g =>
      have hf : fine (k + 1) p = true := hf
      rw [weightF] at hw
      obtain ⟨a1, a2⟩ := tab_all k p (by omega) hf hw
      obtain ⟨c1, c2⟩ := tab_group k (by omega) (weightF p) (by omega)
      rw [val, res, weightF]
      exact ⟨(V4.bump_le (V4.mul_le a1 (V4.le.refl _))).trans c1, (V4.mul_le a2 (V4.le.refl _)).trans c2⟩
/-- no pattern that is drawn costs more -/
def topV : V4 := ⟨105, 1152, 2112, 1⟩
def topR : V4 := ⟨101, 768, 418, 9⟩
theorem tab_top : ∀ k, k < 4 → ∀ w, w < 9 → le (tT k w) topV ∧ le (tR k w) topR := by decide +kernel
theorem fine_top {k : Nat} {p : Pat} (hk : k ≤ 4) (hf : fine k p = true) (hw : weightF p ≤ 8) : le (val p) topV ∧ le (res p) topR := by
  cases k with
  | zero => simp [fine] at hf
  | succ k =>
    obtain ⟨a, b⟩ := tab_all k p (by omega) hf hw
    obtain ⟨c, d⟩ := tab_top k (by omega) (weightF p) (by omega)
    exact ⟨a.trans c, b.trans d⟩
end

section
/-! the stops behind a text's beginnings -/
open V4 (le)
mutual
theorem num_snd : ∀ (p : Pat) (c : Nat), (num p c).2 = c + (num p 0).2
  | .none, c => by rw [num, num]; rfl
  | .empty, c => by rw [num, num]; rfl
  | .one z, c => by rw [num, num]; rfl
  | .row ps, c => by rw [num, num]; exact nums_snd ps c
  | .any ps, c => by rw [num, num]; exact nums_snd ps c
  | .again p lo hi m, c => by rw [num, num]; exact num_snd p c
  | .group p g, c => by
    rw [num, num]
    show (num p (c + 1)).2 = c + (num p (0 + 1)).2
    rw [num_snd p (c + 1), num_snd p (0 + 1)]; omega
theorem nums_snd : ∀ (ps : List Pat) (c : Nat), (nums ps c).2 = c + (nums ps 0).2
  | [], c => by rw [nums, nums]; rfl
  | p :: ps, c => by
    rw [nums, nums]
    show (nums ps (num p c).2).2 = c + (nums ps (num p 0).2).2
    rw [nums_snd ps (num p c).2, nums_snd ps (num p 0).2, num_snd p c]; omega
end
theorem num_groups (p : Pat) (c : Nat) : (num p c).2 = c + groups p := num_snd p c
mutual
theorem gP_mono {b b' N N' : Nat} (hb : b' ≤ b) (hN : N ≤ N') : ∀ p : Pat, gP b N p = true → gP b' N' p = true
  | .none, _ => rfl
  | .empty, _ => rfl
  | .one z, _ => rfl
  | .row ps, h => by
    rw [gP, Bool.and_eq_true] at h ⊢
    exact ⟨h.1, gPs_mono hb hN ps h.2⟩
  | .any ps, h => by rw [gP] at h ⊢; exact gPs_mono hb hN ps h
  | .again p lo hi m, h => by rw [gP] at h ⊢; exact gP_mono hb hN p h
  | .group p none, h => by rw [gP] at h; cases h
  | .group p (some k), h => by
    simp only [gP, Bool.and_eq_true, decide_eq_true_eq] at h ⊢
    exact ⟨⟨by omega, by omega⟩, gP_mono hb hN p h.2⟩
theorem gPs_mono {b b' N N' : Nat} (hb : b' ≤ b) (hN : N ≤ N') : ∀ ps : List Pat, gPs b N ps = true → gPs b' N' ps = true
  | [], _ => rfl
  | p :: ps, h => by
    rw [gPs, Bool.and_eq_true] at h ⊢
    exact ⟨gP_mono hb hN p h.1, gPs_mono hb hN ps h.2⟩
end
theorem gP_num : ∀ (k : Nat) (p : Pat) (c : Nat), okP k p = true → gP c (num p c).2 (num p c).1 = true
  | 0, _, _, h => absurd h okP_zero
  | k + 1, p, c, h => by
    have many : ∀ (ps : List Pat) (c : Nat), (∀ q ∈ ps, okP k q = true) → gPs c (nums ps c).2 (nums ps c).1 = true := by
      intro ps
      induction ps with
      | nil => intro c _; rw [nums, gPs]
      | cons p ps ih =>
        intro c h
        rw [nums, gPs, Bool.and_eq_true]
        have h1 := gP_num k p c (h p List.mem_cons_self)
        have h2 := ih (num p c).2 fun q hq => h q (List.mem_cons_of_mem _ hq)
        refine ⟨gP_mono (Nat.le_refl _) ?_ _ h1, gPs_mono ?_ (Nat.le_refl _) _ h2⟩
        · show (num p c).2 ≤ (nums ps (num p c).2).2
          rw [nums_snd ps (num p c).2]; omega
        · rw [num_snd p c]; omega
    cases p with
    | none => rw [num, gP]
    | empty => rw [num, gP]
    | one z => rw [num, gP]
    | row ps =>
      simp only [okP, Bool.and_eq_true, List.all_eq_true, decide_eq_true_eq] at h
      rw [num, gP, Bool.and_eq_true, decide_eq_true_eq, nums_len]
      exact ⟨h.1, many ps c h.2⟩
    | any ps =>
      simp only [okP, Bool.and_eq_true, List.all_eq_true, decide_eq_true_eq] at h
      rw [num, gP]
      exact many ps c h.2
    | again p lo hi m => rw [num, gP]; exact gP_num k p c h
    | group p g =>
      rw [num]
      have h1 := gP_num k p (c + 1) h
      simp only [gP, Bool.and_eq_true, decide_eq_true_eq]
      have h2 : (num p (c + 1)).2 = c + 1 + groups p := num_groups p (c + 1)
      exact ⟨⟨Nat.le_refl _, by omega⟩, gP_mono (by omega) (Nat.le_refl _) _ h1⟩
/-! ### what holds of the frames of stops -/
def ok4 : Frame → Bool
  | .pat p => okP 4 p
  | .turn q _ _ _ _ _ => okP 3 q
  | .close _ => true
theorem her_ok4 : Her fun f => ok4 f = true where
  row h q hq := by
    simp only [ok4, okP, Bool.and_eq_true, List.all_eq_true] at h
    exact okP_mono 3 q (h.2 q hq)
  any h q hq := by
    simp only [ok4, okP, Bool.and_eq_true, List.all_eq_true] at h
    exact okP_mono 3 q (h.2 q hq)
  group {q k} h := ⟨okP_mono 3 q h, rfl⟩
  again {q lo hi m} h := ⟨okP_mono 3 q h, fun d => by cases hi <;> exact h⟩
  turn {q lo hi m d new} h := ⟨okP_mono 3 q h, fun d => by cases hi <;> exact h⟩
  age {f} h := by
    cases f with
    | turn q lo hi m d n => cases hi <;> exact h
    | _ => exact h
theorem her_gF {b N : Nat} : Her fun f => gF b N f = true where
  row h q hq := by
    simp only [gF, gP, Bool.and_eq_true] at h
    exact gPs_all.mp h.2 q hq
  any h q hq := by
    simp only [gF, gP] at h
    exact gPs_all.mp h q hq
  group {q k} h := by
    cases k with
    | none => simp [gF, gP] at h
    | some k =>
      simp only [gF, gP, Bool.and_eq_true, decide_eq_true_eq] at h
      exact ⟨h.2, by simpa [gF] using h.1⟩
  again {q lo hi m} h := by
    simp only [gF, gP] at h
    exact ⟨h, fun d => by cases hi <;> exact h⟩
  turn {q lo hi m d new} h := ⟨h, fun d => by cases hi <;> exact h⟩
  age {f} h := by
    have h : gF b N f = true := h
    rw [← gF_aged f] at h; exact h
/-- a stop of a drawn pattern -/
structure GS (N : Nat) (s : Stop) : Prop where
  form : s.1 = [] ∨ ∃ z F, s.1 = .pat (.one z) :: F ∧ F.map aged = F ∧ RB topR F
  gr : ∀ f ∈ s.1, gF 0 N f = true
  ok : ∀ f ∈ s.1, ok4 f = true
  len : s.2.length = N
def fin (g : Nat) : Ev → List Stop
  | .arr e M => if e = g then [([], M)] else []
  | .prog F M => [(F, M)]
/-- a drawn pattern, its groups numbered -/
structure DP (N : Nat) (p : Pat) : Prop where
  v : le (val p) topV
  r : le (res p) topR
  g : gP 0 N p = true
  o : okP 4 p = true
def stopsAt (t : List Nat) (p : Pat) (M : Mk) (g : Nat) : List Stop := (evs t g false [.pat p] M 0).flatMap (fin g)
section
variable {t : List Nat} {N g : Nat} {p : Pat} {M : Mk}
theorem fin_here {X : List Ev} (h : ∀ y ∈ X, okE g g y) : X.flatMap (fin g) = X.map toS := by
  rw [List.map_eq_flatMap]
  refine fm_congr fun x hx => ?_
  cases x with
  | arr e M =>
    have a := h _ hx
    have : g = e := Nat.le_antisymm a.1 a.2
    subst this
    rw [fin, if_pos rfl]; rfl
  | prog F M => rfl
theorem stopsAt_ok (D : DP N p) (hM : M.length = N) : ∀ s ∈ stopsAt t p M g, GS N s := fun s hs => by
  obtain ⟨y, hy, hs⟩ := List.mem_flatMap.mp hs
  have h0 : ∀ f ∈ [Frame.pat p], gF 0 N f = true := fun f hf => by rw [List.mem_singleton.mp hf]; exact D.g
  have hm := mk_evs [.pat p] false M 0 h0 y hy
  cases y with
  | arr e M' =>
    rw [fin] at hs
    split at hs
    · rw [List.mem_singleton.mp hs]
      exact ⟨.inl rfl, (fun _ h => by cases h), (fun _ h => by cases h), hm.len.trans hM⟩
    · cases hs
  | prog F M' =>
    rw [List.mem_singleton.mp hs]
    have hr := res_evs [.pat p] false M 0 rfl ⟨by rw [vals, V4.mul_one]; exact D.r, trivial⟩ _ hy
    obtain ⟨z, F', rfl, ha, hb⟩ := hr
    refine ⟨.inr ⟨z, F', rfl, ha, hb⟩, ?_, her_evs her_ok4 [.pat p] false M 0 (fun f hf => by rw [List.mem_singleton.mp hf]; exact D.o) _ hy, hm.len.trans hM⟩
    exact her_evs her_gF [.pat p] false M 0 h0 _ hy
/-- what a stop becomes behind a letter -/
def nx (t : List Nat) (g : Nat) (c : Nat) (s : Stop) : List Stop := match s.1 with
  | .pat (.one z) :: F => if c ∈ z.cps.toList then stT t F s.2 (g + 1) else []
  | _ => []
theorem behind_eq {s : Stop} (c : Nat) (h : GS N s) : behindF s c (g + 1) = some (nx t g c s) := by
  obtain ⟨R, M⟩ := s
  rcases h.form with e | ⟨z, F, e, ha, hb⟩
  · have e : R = [] := e
    subst e; rfl
  · have e : R = .pat (.one z) :: F := e
    subst e
    show (if c ∈ z.cps.toList then stopsF 110 F M (g + 1) else some []) = some (if c ∈ z.cps.toList then stT t F M (g + 1) else [])
    split
    · have hv := hb.v
      have hl : F.length ≤ 9 := by rw [← vals_len]; exact hv.l
      refine stopsF_eq 110 F M (g + 1) ?_ (by omega) fun f hf => ?_
      · exact Nat.lt_of_le_of_lt hv.a (by decide)
      · have h1 := h.gr f (List.mem_cons_of_mem _ hf)
        have h2 : M.length = N := h.len
        rw [h2]; exact h1
    · rfl
theorem nx_len {s : Stop} (c : Nat) (h : GS N s) : (nx t g c s).length ≤ 1186 := by
  obtain ⟨R, M⟩ := s
  rcases h.form with e | ⟨z, F, e, ha, hb⟩
  · have e : R = [] := e
    subst e; exact Nat.zero_le _
  · have e : R = .pat (.one z) :: F := e
    subst e
    show (if c ∈ z.cps.toList then stT t F M (g + 1) else []).length ≤ 1186
    split
    · have hv := hb.v
      have c1 := cl_evs (t := t) (g := g + 1) F M
      rw [stT, List.length_map, cnt_len]
      have := c1.e; have := c1.k
      have a1 : (vals F).e ≤ 768 := hv.e
      have a2 : (vals F).k ≤ 418 := hv.k
      omega
    · exact Nat.zero_le _
theorem catO_flat {α β : Type} {f : α → Option (List β)} {h : α → List β} : ∀ {xs : List α}, (∀ x ∈ xs, f x = some (h x)) → catO f xs = some (xs.flatMap h)
  | [], _ => rfl
  | x :: xs, e => by rw [catO, e x List.mem_cons_self, Option.bind_some, catO_flat fun y hy => e y (List.mem_cons_of_mem _ hy), Option.bind_some, List.flatMap_cons]
theorem stopsAt_next (D : DP N p) (hM : M.length = N) {c : Nat} (hc : t[g]? = some c) : nextF (stopsAt t p M g) c (g + 1) = some (stopsAt t p M (g + 1)) := by
  rw [nextF, catO_flat (h := nx t g c) fun s hs => behind_eq c (stopsAt_ok D hM s hs)]
  congr 1
  rw [stopsAt, stopsAt, step_evs [.pat p] false M 0 (Nat.zero_le g), List.flatMap_assoc, List.flatMap_assoc]
  refine fm_congr fun y hy => ?_
  have hk := evs_ok [.pat p] false M 0 (Nat.zero_le g) y hy
  cases y with
  | arr e M' =>
    have := hk.2
    have e1 : fin (g + 1) (.arr e M') = [] := if_neg (by omega)
    rw [stp, List.flatMap_cons, List.flatMap_nil, List.append_nil, e1, fin]
    split <;> rfl
  | prog F M' =>
    obtain ⟨z, F', rfl⟩ := hk
    rw [fin, stp, List.flatMap_cons, List.flatMap_nil, List.append_nil]
    have hh : (hit t g z = true) ↔ c ∈ z.cps.toList := by rw [hit, hc]; exact decide_eq_true_iff
    show (if c ∈ z.cps.toList then stT t F' M' (g + 1) else []) = _
    by_cases h : c ∈ z.cps.toList
    · rw [if_pos h, if_pos (hh.mpr h), stT, fin_here (evs_ok _ _ _ _ (Nat.le_refl _))]
    · rw [if_neg h, if_neg (fun q => h (hh.mp q))]; rfl
theorem flat_len {α β : Type} {h : α → List β} {k : Nat} : ∀ {xs : List α}, (∀ x ∈ xs, (h x).length ≤ k) → (xs.flatMap h).length ≤ xs.length * k
  | [], _ => Nat.zero_le _
  | x :: xs, e => by
    rw [List.flatMap_cons, List.length_append, List.length_cons, Nat.succ_mul]
    have a := e x List.mem_cons_self
    have b := flat_len fun y hy => e y (List.mem_cons_of_mem _ hy)
    omega
theorem stopsAt_grow (D : DP N p) (hM : M.length = N) {c : Nat} (hc : t[g]? = some c) : (stopsAt t p M (g + 1)).length ≤ (stopsAt t p M g).length * 1186 := by
  have h := stopsAt_next D hM hc
  rw [nextF, catO_flat (h := nx t g c) fun s hs => behind_eq c (stopsAt_ok D hM s hs)] at h
  rw [← Option.some.inj h]
  exact flat_len fun s hs => nx_len c (stopsAt_ok D hM s hs)
theorem stopsAt_first (D : DP N p) (hM : M.length = N) : stopsF 110 [.pat p] M 0 = some (stopsAt t p M 0) := by
  rw [stopsF_eq (t := t) 110 [.pat p] M 0 ?_ (by simp) fun f hf => ?_, stT, stopsAt, fin_here (evs_ok _ _ _ _ (Nat.le_refl _))]
  · rw [vals, vals, V4.mul_one]
    exact Nat.lt_of_le_of_lt D.v.a (by decide)
  · rw [List.mem_singleton.mp hf, hM]; exact D.g
theorem stopsAt_few (D : DP N p) : (stopsAt t p M 0).length ≤ 3264 := by
  rw [stopsAt, fin_here (evs_ok _ _ _ _ (Nat.le_refl _)), List.length_map, cnt_len]
  have c1 := cl_evs (t := t) (g := 0) [.pat p] M
  rw [vals, vals, V4.mul_one] at c1
  have := c1.e; have := c1.k
  have a1 : (valF (.pat p)).e ≤ 1152 := D.v.e
  have a2 : (valF (.pat p)).k ≤ 2112 := D.v.k
  omega
/-- what becomes of the letters, one by one -/
theorem runF_eq (D : DP N p) (hM : M.length = N) : ∀ (k g : Nat), g + k = t.length → (stopsAt t p M g).length ≤ 300 → ∃ r, runF (t.drop g) g (stopsAt t p M g) = some r ∧ (r = none ∨ r = some (stopsAt t p M t.length) ∧ ∀ j, g ≤ j → j ≤ t.length → (stopsAt t p M j).length ≤ 300)
  | 0, g, hg, hz => by
    have e : g = t.length := by omega
    rw [List.drop_eq_nil_of_le (by omega), runF]
    refine ⟨_, rfl, .inr ⟨by rw [e], fun j h1 h2 => ?_⟩⟩
    have : j = g := by omega
    rw [this]; exact hz
  | k + 1, g, hg, hz => by
    have hlt : g < t.length := by omega
    have hc : t[g]? = some t[g] := List.getElem?_eq_getElem hlt
    rw [List.drop_eq_getElem_cons hlt, runF, stopsAt_next D hM hc, Option.bind_some]
    have hgr := stopsAt_grow D hM hc
    rw [if_neg (by omega)]
    by_cases c : 300 < (stopsAt t p M (g + 1)).length
    · rw [if_pos c]; exact ⟨_, rfl, .inl rfl⟩
    · rw [if_neg c]
      obtain ⟨r, h1, h2⟩ := runF_eq D hM k (g + 1) (by omega) (by omega)
      refine ⟨r, h1, h2.imp id fun ⟨a, b⟩ => ⟨a, fun j h3 h4 => ?_⟩⟩
      by_cases e : j = g
      · rw [e]; exact hz
      · exact b j (by omega) h4
end
/-- a drawn pattern with its numbers -/
theorem dp_num {p : Pat} (hf : fine 4 p = true) (ho : okP 4 p = true) (hw : weightF p ≤ 8) : DP (groups p) (num p 0).1 := by
  obtain ⟨a, b⟩ := fine_top (Nat.le_refl 4) (fine_num 4 p 0 hf) (by rw [weight_num]; exact hw)
  exact ⟨a, b, gP_num 4 p 0 ho, okP_num 4 p 0 ho⟩
theorem allF_eq {p : Pat} (hf : fine 4 p = true) (ho : okP 4 p = true) (hw : weightF p ≤ 8) (t : Str) : ∃ r, allF p t = some r ∧ (r = none ∨ r = some (stopsAt t.cps.toList (num p 0).1 (noM (groups p)) t.length) ∧ ∀ j, j ≤ t.length → (stopsAt t.cps.toList (num p 0).1 (noM (groups p)) j).length ≤ 300) := by
  have D := dp_num hf ho hw
  have hM : (noM (groups p)).length = groups p := by rw [noM, List.length_replicate]
  have hl : t.cps.toList.length = t.length := by rw [Array.length_toList]; rfl
  rw [allF, firstF, stopsAt_first (t := t.cps.toList) D hM, Option.bind_some]
  have h0 := stopsAt_few (t := t.cps.toList) (M := noM (groups p)) D
  rw [if_neg (by omega)]
  by_cases c : 300 < (stopsAt t.cps.toList (num p 0).1 (noM (groups p)) 0).length
  · rw [if_pos c]; exact ⟨_, rfl, .inl rfl⟩
  · rw [if_neg c]
    obtain ⟨r, h1, h2⟩ := runF_eq (t := t.cps.toList) D hM t.cps.toList.length 0 (by omega) (by omega)
    rw [List.drop_zero] at h1
    rw [hl] at h2
    exact ⟨r, h1, h2.imp id fun ⟨a, b⟩ => ⟨a, fun j hj => b j (Nat.zero_le _) hj⟩⟩
end

section
/-! the law's own recursion goes the same ways -/
open V4 (le)
def closed (M : Mk) : List PyData := M.map (·.2)
def lot : Ev → List Lot
  | .arr e M => [(e, closed M)]
  | .prog _ _ => []
def lots (X : List Ev) : List Lot := X.flatMap lot
theorem lots_app (X Y : List Ev) : lots (X ++ Y) = lots X ++ lots Y := List.flatMap_append
theorem lots_len : ∀ X : List Ev, (lots X).length = cntA X
  | [] => rfl
  | .arr e M :: X => by
    have := lots_len X
    rw [lots, List.flatMap_cons, List.length_append, cntA]
    rw [lots] at this
    simp [lot, this, Nat.add_comm]
  | .prog F M :: X => by
    have := lots_len X
    rw [lots, List.flatMap_cons, List.length_append, cntA]
    rw [lots] at this
    simp [lot, this]
theorem lots_bnd {X : List Ev} {κ : Nat → Mk → List Ev} {T : List Frame} {f : Lot → Option (List Lot)} (h : ∀ e M, Ev.arr e M ∈ X → f (e, closed M) = some (lots (κ e M))) : catO f (lots X) = some (lots (X.flatMap (bnd κ T))) := by
  induction X with
  | nil => rfl
  | cons x X ih =>
    have ih := ih fun e M hm => h e M (List.mem_cons_of_mem _ hm)
    rw [List.flatMap_cons, lots_app]
    cases x with
    | arr e M =>
      have e1 : lots (.arr e M :: X) = (e, closed M) :: lots X := rfl
      rw [e1, catO, h e M List.mem_cons_self, Option.bind_some, ih, Option.bind_some, bnd]
    | prog F M =>
      have e1 : lots (.prog F M :: X) = lots X := rfl
      rw [e1, ih, bnd]
      rfl
/-! ### how many wait -/
theorem cntP_le {X : List Ev} {κ : Nat → Mk → List Ev} {T : List Frame} : cntP X ≤ cntP (X.flatMap (bnd κ T)) := by
  induction X with
  | nil => exact Nat.zero_le _
  | cons x X ih =>
    rw [List.flatMap_cons, cntP_app]
    cases x with
    | arr e M => rw [cntP]; omega
    | prog F M => rw [cntP, bnd]; simp only [cntP]; omega
theorem cntP_arr {X : List Ev} {κ : Nat → Mk → List Ev} {T : List Frame} {e : Nat} {M : Mk} (h : Ev.arr e M ∈ X) : cntP (κ e M) ≤ cntP (X.flatMap (bnd κ T)) := by
  induction X with
  | nil => cases h
  | cons x X ih =>
    rw [List.flatMap_cons, cntP_app]
    rcases List.mem_cons.mp h with rfl | h
    · rw [bnd]; omega
    · have := ih h; omega
section
variable {t : List Nat}
/-- where one comes to does not change with the goal -/
theorem back_stp {X : List Ev} {g e : Nat} {M : Mk} (h : Ev.arr e M ∈ X.flatMap (stp t g)) (he : e ≤ g) : Ev.arr e M ∈ X := by
  obtain ⟨x, hx, hy⟩ := List.mem_flatMap.mp h
  cases x with
  | arr e' M' => rw [stp] at hy; rw [List.mem_singleton.mp hy]; exact hx
  | prog F M' =>
    have dead : Ev.arr e M ∉ stp t g (.prog F M') := fun hy => by
      match F with
      | .pat (.one z) :: F' =>
        rw [stp] at hy
        split at hy
        · have := (evs_ok _ _ _ _ (Nat.le_refl _) _ hy).1; omega
        · cases hy
      | [] => cases hy
      | .turn .. :: _ => cases hy
      | .close _ :: _ => cases hy
      | .pat .none :: _ => cases hy
      | .pat .empty :: _ => cases hy
      | .pat (.row _) :: _ => cases hy
      | .pat (.any _) :: _ => cases hy
      | .pat (.again ..) :: _ => cases hy
      | .pat (.group ..) :: _ => cases hy
    exact absurd hy dead
/-- a family of events: from one goal to the next by a letter -/
def Fam (t : List Nat) (pl : Nat) (X : Nat → List Ev) : Prop := ∀ g, pl ≤ g → X (g + 1) = (X g).flatMap (stp t g)
theorem Fam.back {pl : Nat} {X : Nat → List Ev} (F : Fam t pl X) {e : Nat} {M : Mk} : ∀ (k g : Nat), pl ≤ g → e ≤ g → Ev.arr e M ∈ X (g + k) → Ev.arr e M ∈ X g
  | 0, g, _, _, h => h
  | k + 1, g, h1, h2, h => Fam.back F k g h1 h2 (back_stp (by rw [← F (g + k) (by omega)]; exact h) (by omega))
theorem fam_ev (p : Pat) (M : Mk) (pl : Nat) : Fam t pl fun g => ev t g p M pl := fun _ hg => step_ev p M pl hg
theorem fam_row (ps : List Pat) (M : Mk) (pl : Nat) : Fam t pl fun g => evRow t g ps M pl := fun _ hg => step_evRow ps M pl hg
/-- how often one comes behind a pattern, if but few wait -/
theorem few_arr {p : Pat} (hr : le (res p) topR) (M : Mk) (pl : Nat) : ∀ (k : Nat), (∀ g, pl ≤ g → g ≤ pl + k → cntP (ev t g p M pl) ≤ 300) → cntA (ev t (pl + k) p M pl) ≤ (val p).e + k * 230400
  | 0, _ => by
    have := (cl_ev (t := t) (g := pl) p M).e
    rw [Nat.zero_mul]; exact this
  | k + 1, h => by
    have ih := few_arr hr M pl k fun g h1 h2 => h g h1 (by omega)
    have hp := h (pl + k) (by omega) (by omega)
    rw [show pl + (k + 1) = pl + k + 1 by omega, step_ev p M pl (by omega)]
    have main : ∀ X : List Ev, (∀ y ∈ X, resOk topR y) → cntA (X.flatMap (stp t (pl + k))) ≤ cntA X + cntP X * 768 := by
      intro X
      induction X with
      | nil => intro _; exact Nat.zero_le _
      | cons x X ih =>
        intro hX
        have ih := ih fun y hy => hX y (List.mem_cons_of_mem _ hy)
        have hx := hX x List.mem_cons_self
        rw [List.flatMap_cons, cntA_app]
        cases x with
        | arr e M' => rw [stp, cntA, cntP]; simp only [cntA]; omega
        | prog F M' =>
          obtain ⟨z, F', rfl, _, hb⟩ := hx
          have h1 : cntA (stp t (pl + k) (.prog (.pat (.one z) :: F') M')) ≤ 768 := by
            rw [stp]
            split
            · exact Nat.le_trans (cl_evs F' M').e hb.v.e
            · exact Nat.zero_le _
          rw [cntA, cntP, Nat.succ_mul]; omega
    have := main _ fun y hy => (res_ev (t := t) (g := pl + k) p M pl y hy).mono hr
    rw [Nat.succ_mul]; omega
end
theorem fine_le : ∀ {k : Nat} {p : Pat}, fine k p = true → fine (k + 1) p = true
  | 0, _, h => by simp [fine] at h
  | k + 1, p, h => by
    cases p with
    | row ps =>
      simp only [fine, Bool.and_eq_true, List.all_eq_true] at h ⊢
      exact ⟨h.1, fun q hq => fine_le (h.2 q hq)⟩
    | any ps =>
      simp only [fine, Bool.and_eq_true, List.all_eq_true] at h ⊢
      exact ⟨h.1, fun q hq => fine_le (h.2 q hq)⟩
    | again p lo hi m =>
      simp only [fine, Bool.and_eq_true] at h ⊢
      exact ⟨⟨fine_le h.1.1, h.1.2⟩, h.2⟩
    | group p g => exact fine_le (p := p) h
    | _ => rfl
theorem evRow_app {t : List Nat} {g : Nat} (A B : List Pat) (M : Mk) (pl : Nat) (hp : pl ≤ g) : evRow t g (A ++ B) M pl = (evRow t g A M pl).flatMap (bnd (fun e M' => evRow t g B M' e) (B.map .pat)) := by
  have h := evs_app (t := t) (g := g) (A.map .pat) (B.map .pat) false M pl hp
  rw [← List.map_append, evs_pats, evs_pats] at h
  rw [h]
  have e2 : (B.map Frame.pat).map aged = B.map Frame.pat := by rw [List.map_map]; rfl
  rw [e2]
  exact bnd_congr fun e M' _ => evs_pats B _ M' e
theorem closed_begin (b pl : Nat) (M : Mk) : closed (begin' b pl M) = closed M := by
  apply List.ext_getElem?
  intro i
  rw [closed, closed, begin', List.getElem?_map, List.getElem?_map, List.getElem?_set]
  split
  · rename_i h
    subst h
    split
    · rename_i h2
      rw [mget_of h2]; rfl
    · rename_i h2
      rw [List.getElem?_eq_none (by omega)]
  · rfl
theorem weightL_mem {q : Pat} : ∀ {ps : List Pat}, q ∈ ps → weightF q ≤ weightL ps
  | p :: ps, h => by
    rw [weightL]
    rcases List.mem_cons.mp h with rfl | h
    · omega
    · have := weightL_mem h; omega
theorem weightL_app : ∀ ps qs : List Pat, weightL (ps ++ qs) = weightL ps + weightL qs
  | [], qs => by rw [List.nil_append, weightL, Nat.zero_add]
  | p :: ps, qs => by rw [List.cons_append, weightL, weightL, weightL_app ps qs]; omega
theorem nums_fst_app (ps qs : List Pat) (c : Nat) : (nums (ps ++ qs) c).1 = (nums ps c).1 ++ (nums qs (nums ps c).2).1 := by rw [nums_app]
theorem nums_snd_app (ps qs : List Pat) (c : Nat) : (nums (ps ++ qs) c).2 = (nums qs (nums ps c).2).2 := by rw [nums_app]
section
variable {t : List Nat}
/-- what the recursion gives for one pattern -/
def GoneOk (t : List Nat) (k : Nat) : Prop := ∀ (p : Pat) (n b : Nat) (M : Mk) (pl : Nat), fine k p = true → okP k p = true → weightF p ≤ 8 → 12 * k ≤ n → (num p b).2 ≤ M.length → pl ≤ t.length →
  (∀ g, pl ≤ g → g ≤ t.length → cntP (ev t g (num p b).1 M pl) ≤ 300) → goneF n t p b (pl, closed M) = some (lots (ev t t.length (num p b).1 M pl))
theorem cap_ok {k : Nat} (hk : k ≤ 4) (ht : t.length ≤ 6) {p : Pat} {b pl : Nat} {M : Mk} (hf : fine k p = true) (hw : weightF p ≤ 8) (hp : pl ≤ t.length) (h : ∀ g, pl ≤ g → g ≤ t.length → cntP (ev t g (num p b).1 M pl) ≤ 300) :
    (lots (ev t t.length (num p b).1 M pl)).length ≤ 10000000 := by
  obtain ⟨a, c⟩ := fine_top hk (fine_num k p b hf) (by rw [weight_num]; exact hw)
  rw [lots_len]
  have := few_arr (t := t) c M pl (t.length - pl) fun g h1 h2 => h g h1 (by omega)
  rw [show pl + (t.length - pl) = t.length by omega] at this
  have e1 : (val (num p b).1).e ≤ 1152 := a.e
  have : (t.length - pl) * 230400 ≤ 6 * 230400 := Nat.mul_le_mul_right _ (by omega)
  omega
theorem gone_again {k n0 : Nat} (hk : k ≤ 4) (ht : t.length ≤ 6) (IH : GoneOk t k) {q : Pat} {b : Nat} {lo : Nat} {hi : Option Nat} {m : Bool} (hf : fine k q = true) (ho : okP k q = true) (hw : weightF q ≤ 8) : ∀ (r n d : Nat) (M : Mk) (pl : Nat), pl ≤ t.length → t.length - pl + (lo - d) < r → r + 12 * k ≤ n → (num q b).2 ≤ M.length →
    (∀ g, pl ≤ g → g ≤ t.length → cntP (evT (ev t g (num q b).1) (frT (num q b).1 lo hi m) lo hi m r d M pl) ≤ 300) →
    againF n t q lo hi m b (pl, closed M) d = some (lots (evT (ev t t.length (num q b).1) (frT (num q b).1 lo hi m) lo hi m r d M pl))
  | 0, _, _, _, _, _, h, _, _, _ => absurd h (by omega)
  | r + 1, 0, _, _, _, _, _, h, _, _ => absurd h (by omega)
  | r + 1, n + 1, d, M, pl, hp, hr, hn, hM, hc => by
    have go : (if goOn hi d = true then (capF (goneF n t q b (pl, closed M))).bind fun L => catO (fun x => if pl < x.1 ∨ d < lo then againF n t q lo hi m b x (d + 1) else some []) L else some []) =
        some (lots (if goOn hi d = true then (ev t t.length (num q b).1 M pl).flatMap (bnd (fun e M' => if pl < e ∨ d < lo then evT (ev t t.length (num q b).1) (frT (num q b).1 lo hi m) lo hi m r (d + 1) M' e else []) [frT (num q b).1 lo hi m (d + 1)]) else [])) := by
      by_cases cg : goOn hi d = true
      · rw [if_pos cg, if_pos cg]
        have part : ∀ g, pl ≤ g → g ≤ t.length → cntP ((ev t g (num q b).1 M pl).flatMap (bnd (fun e M' => if pl < e ∨ d < lo then evT (ev t g (num q b).1) (frT (num q b).1 lo hi m) lo hi m r (d + 1) M' e else []) [frT (num q b).1 lo hi m (d + 1)])) ≤ 300 := fun g h1 h2 => by
          have := hc g h1 h2
          rw [evT, if_pos cg] at this
          split at this
          · rw [cntP_app] at this; omega
          · rw [cntP_app] at this; omega
        have pq : ∀ g, pl ≤ g → g ≤ t.length → cntP (ev t g (num q b).1 M pl) ≤ 300 := fun g h1 h2 => Nat.le_trans cntP_le (part g h1 h2)
        rw [IH q n b M pl hf ho hw (by omega) hM hp pq, capF_some.mpr ⟨rfl, cap_ok hk ht hf hw hp pq⟩, Option.bind_some]
        refine lots_bnd fun e M' hm => ?_
        have a := ev_ok _ _ _ hp _ hm
        have a1 := a.1; have a2 := a.2
        by_cases c : pl < e ∨ d < lo
        · rw [if_pos c, if_pos c]
          have gq := gP_num k q b ho
          have ml := (mk_ev _ _ _ gq _ hm).len
          refine gone_again (n0 := n0) hk ht IH hf ho hw r n (d + 1) M' e a.2 (by omega) (by omega) (by rw [show M'.length = M.length from ml]; exact hM) fun g h1 h2 => ?_
          have hb : Ev.arr e M' ∈ ev t g (num q b).1 M pl := (fam_ev (num q b).1 M pl).back (t.length - g) g (by omega) h1 (by rw [show g + (t.length - g) = t.length by omega]; exact hm)
          have := Nat.le_trans (cntP_arr (κ := fun e M' => if pl < e ∨ d < lo then evT (ev t g (num q b).1) (frT (num q b).1 lo hi m) lo hi m r (d + 1) M' e else []) (T := [frT (num q b).1 lo hi m (d + 1)]) hb) (part g (by omega) h2)
          simp only [if_pos c] at this
          exact this
        · rw [if_neg c, if_neg c]; rfl
      · rw [if_neg cg, if_neg cg]; rfl
    have st : (if lo ≤ d then [(pl, closed M)] else []) = lots (if lo ≤ d then [Ev.arr pl M] else []) := by split <;> rfl
    rw [againF, evT]
    show Option.bind (if goOn hi d = true then (capF (goneF n t q b (pl, closed M))).bind fun L => catO (fun x => if pl < x.1 ∨ d < lo then againF n t q lo hi m b x (d + 1) else some []) L else some []) _ = _
    rw [go, Option.bind_some, st]
    by_cases cm : m = true
    · rw [if_pos cm, if_pos cm, lots_app]
    · rw [if_neg cm, if_neg cm, lots_app]
theorem gone_row {k n : Nat} (hk : k < 4) (ht : t.length ≤ 6) (IH : GoneOk t k) {b : Nat} {M : Mk} {pl : Nat} (hp : pl ≤ t.length) (hn : 12 * k ≤ n) : ∀ (ps pre : List Pat), (∀ q ∈ pre ++ ps, fine k q = true ∧ okP k q = true) → (pre ++ ps).length ≤ 4 → weightL (pre ++ ps) ≤ 8 → (nums (pre ++ ps) b).2 ≤ M.length →
    (∀ g, pl ≤ g → g ≤ t.length → cntP (evRow t g (nums (pre ++ ps) b).1 M pl) ≤ 300) → rowG (fun q b x => goneF n t q b x) ps (nums pre b).2 (lots (evRow t t.length (nums pre b).1 M pl)) = some (lots (evRow t t.length (nums (pre ++ ps) b).1 M pl))
  | [], pre, _, _, _, _, _ => by rw [rowG, List.append_nil]
  | q :: qs, pre, hq, h4, hw, hM, hc => by
    have ea : pre ++ q :: qs = (pre ++ [q]) ++ qs := by simp
    have hq1 := hq q (List.mem_append_right _ List.mem_cons_self)
    have hwq : weightF q ≤ 8 := Nat.le_trans (weightL_mem (List.mem_append_right pre List.mem_cons_self)) hw
    have e1 : (nums (pre ++ [q]) b).1 = (nums pre b).1 ++ [(num q (nums pre b).2).1] := by rw [nums_fst_app, nums, nums]
    have e2 : (nums (pre ++ [q]) b).2 = (nums pre b).2 + groups q := by rw [nums_snd_app, nums, nums]; exact num_groups q _
    have e3 : (nums (pre ++ q :: qs) b).1 = (nums pre b).1 ++ ((num q (nums pre b).2).1 :: (nums qs (num q (nums pre b).2).2).1) := by rw [nums_fst_app, nums]
    have gpre : gPs b (nums pre b).2 (nums pre b).1 = true := by
      have := gP_num (k + 1) (.row pre) b (by
        simp only [okP, Bool.and_eq_true, decide_eq_true_eq, List.all_eq_true]
        exact ⟨by rw [List.length_append] at h4; omega, fun q hq' => (hq q (List.mem_append_left _ hq')).2⟩)
      rw [num, gP, Bool.and_eq_true] at this
      exact this.2
    have few1 : ∀ g, pl ≤ g → g ≤ t.length → cntP (evRow t g (nums (pre ++ [q]) b).1 M pl) ≤ 300 := fun g h1 h2 => by
      have := hc g h1 h2
      rw [ea, nums_fst_app (pre ++ [q]), evRow_app _ _ _ _ h1] at this
      exact Nat.le_trans cntP_le this
    have step : catO (fun x => goneF n t q (nums pre b).2 x) (lots (evRow t t.length (nums pre b).1 M pl)) = some (lots (evRow t t.length (nums (pre ++ [q]) b).1 M pl)) := by
      rw [e1, evRow_app _ _ _ _ hp]
      refine lots_bnd fun e M' hm => ?_
      have a := evRow_ok _ _ _ hp _ hm
      have ml := (mk_evRow _ _ _ gpre _ hm).len
      rw [evRow]
      have ee : (ev t t.length (num q (nums pre b).2).1 M' e).flatMap (bnd (fun e M' => evRow t t.length [] M' e) (([] : List Pat).map .pat)) = ev t t.length (num q (nums pre b).2).1 M' e := by
        refine Eq.trans ?_ (bnd_id _)
        exact bnd_congr fun e M' _ => by rw [evRow]
      rw [ee]
      refine IH q n _ M' e hq1.1 hq1.2 hwq hn ?_ a.2 fun g h1 h2 => ?_
      · rw [show M'.length = M.length from ml]
        have : (nums (pre ++ q :: qs) b).2 = (nums qs (num q (nums pre b).2).2).2 := by rw [nums_snd_app, nums]
        rw [this, nums_snd] at hM
        omega
      · have a1 := a.1
        have hb : Ev.arr e M' ∈ evRow t g (nums pre b).1 M pl := (fam_row (nums pre b).1 M pl).back (t.length - g) g (by omega) h1 (by rw [show g + (t.length - g) = t.length by omega]; exact hm)
        have h3 := hc g (by omega) h2
        rw [e3, evRow_app _ _ _ _ (show pl ≤ g by omega)] at h3
        have h4 := Nat.le_trans (cntP_arr hb) h3
        rw [evRow] at h4
        exact Nat.le_trans cntP_le h4
    have cap : (lots (evRow t t.length (nums (pre ++ [q]) b).1 M pl)).length ≤ 10000000 := by
      have fr : fine (k + 1) (.row (pre ++ [q])) = true := by
        simp only [fine, Bool.and_eq_true, decide_eq_true_eq, List.all_eq_true]
        refine ⟨⟨by simp, by rw [List.length_append] at h4 ⊢; simp at h4 ⊢; omega⟩, fun x hx => (hq x (by rw [ea]; exact List.mem_append_left _ hx)).1⟩
      have wr : weightF (.row (pre ++ [q])) ≤ 8 := by rw [weightF]; rw [ea, weightL_app] at hw; omega
      have := cap_ok (t := t) (k := k + 1) (by omega) ht (b := b) (M := M) fr wr hp fun g h1 h2 => by rw [num, ev]; exact few1 g h1 h2
      rw [num, ev] at this
      exact this
    rw [rowG]
    have step' : catO ((fun q b x => goneF n t q b x) q (nums pre b).2) (lots (evRow t t.length (nums pre b).1 M pl)) = some (lots (evRow t t.length (nums (pre ++ [q]) b).1 M pl)) := step
    rw [step', capF_some.mpr ⟨rfl, cap⟩, Option.bind_some, ← e2, ea]
    exact gone_row hk ht IH hp hn qs (pre ++ [q]) (by rw [← ea]; exact hq) (by rw [← ea]; exact h4) (by rw [← ea]; exact hw) (by rw [← ea]; exact hM) (by rw [← ea]; exact hc)
theorem gone_any {k n : Nat} (IH : GoneOk t k) {M : Mk} {pl : Nat} (hp : pl ≤ t.length) (hn : 12 * k ≤ n) : ∀ (ps : List Pat) (b : Nat), (∀ q ∈ ps, fine k q = true ∧ okP k q = true) → weightL ps ≤ 8 → (nums ps b).2 ≤ M.length →
    (∀ g, pl ≤ g → g ≤ t.length → cntP (evAny t g (nums ps b).1 M pl) ≤ 300) → anyG (fun q b => goneF n t q b (pl, closed M)) ps b = some (lots (evAny t t.length (nums ps b).1 M pl))
  | [], b, _, _, _, _ => by rw [anyG, nums, evAny]; rfl
  | q :: qs, b, hq, hw, hM, hc => by
    rw [weightL] at hw
    rw [nums] at hM hc ⊢
    have hM : (nums qs (num q b).2).2 ≤ M.length := hM
    have hc : ∀ g, pl ≤ g → g ≤ t.length → cntP (ev t g (num q b).1 M pl) + cntP (evAny t g (nums qs (num q b).2).1 M pl) ≤ 300 := fun g h1 h2 => by
      have := hc g h1 h2
      rw [evAny, cntP_app] at this
      exact this
    have hq1 := hq q List.mem_cons_self
    rw [anyG, IH q n b M pl hq1.1 hq1.2 (by omega) hn (by rw [nums_snd] at hM; omega) hp fun g h1 h2 => by have := hc g h1 h2; omega]
    rw [Option.bind_some, ← num_groups, gone_any IH hp hn qs (num q b).2 (fun x hx => hq x (List.mem_cons_of_mem _ hx)) (by omega) hM fun g h1 h2 => by have := hc g h1 h2; omega]
    rw [Option.bind_some, evAny, lots_app]
theorem gone_ok (ht : t.length ≤ 6) : ∀ k, k ≤ 4 → GoneOk t k
  | 0, _, p, n, b, M, pl, h, _, _, _, _, _, _ => by simp [fine] at h
  | k + 1, hk, p, 0, b, M, pl, _, _, _, h, _, _, _ => by omega
  | k + 1, hk, p, n + 1, b, M, pl, hf, ho, hw, hn, hM, hp, hc => by
    have IH := gone_ok ht k (by omega)
    cases p with
    | none => rw [goneF, num, ev]; rfl
    | empty => rw [goneF, num, ev]; rfl
    | one z =>
      rw [goneF, num, ev]
      show some (match t[pl]? with | some c => if c ∈ z.cps.toList then [(pl + 1, closed M)] else [] | none => []) = _
      by_cases c : pl < t.length
      · rw [if_pos c, hit, List.getElem?_eq_getElem c]
        simp only []
        by_cases h : t[pl] ∈ z.cps.toList
        · rw [if_pos h, if_pos (decide_eq_true h)]; rfl
        · rw [if_neg h, if_neg (by rw [decide_eq_true_eq]; exact h)]; rfl
      · rw [if_neg c, List.getElem?_eq_none (by omega)]; rfl
    | row ps =>
      simp only [fine, okP, Bool.and_eq_true, List.all_eq_true, decide_eq_true_eq] at hf ho
      rw [weightF] at hw
      rw [num] at hM hc ⊢
      have := gone_row (t := t) (n := n) (k := k) (b := b) (M := M) (pl := pl) (by omega) ht IH hp (by omega) ps [] (fun q hq => ⟨hf.2 q hq, ho.2 q hq⟩) hf.1.2 hw hM fun g h1 h2 => by have := hc g h1 h2; rw [ev] at this; exact this
      rw [goneF, ev]
      rw [List.nil_append, nums, evRow] at this
      exact this
    | any ps =>
      simp only [fine, okP, Bool.and_eq_true, List.all_eq_true, decide_eq_true_eq] at hf ho
      rw [weightF] at hw
      rw [num] at hM hc ⊢
      rw [goneF, ev]
      exact gone_any IH hp (by omega) ps b (fun q hq => ⟨hf.2 q hq, ho.2 q hq⟩) hw hM fun g h1 h2 => by have := hc g h1 h2; rw [ev] at this; exact this
    | again q lo hi m =>
      simp only [fine, Bool.and_eq_true, decide_eq_true_eq] at hf
      obtain ⟨⟨f1, f2⟩, f3⟩ := hf
      have ho : okP k q = true := ho
      rw [weightF] at hw
      have htm : 1 ≤ timesHi lo hi := by
        cases hi with
        | none => rw [timesHi]; omega
        | some h => simp only [goodHi, Bool.and_eq_true, decide_eq_true_eq] at f3; rw [timesHi]; omega
      have hwq : weightF q ≤ 8 := Nat.le_trans (Nat.le_mul_of_pos_right _ htm) hw
      rw [num] at hM hc ⊢
      rw [goneF, ev]
      refine gone_again (n0 := 0) (by omega) ht IH f1 ho hwq _ n 0 M pl hp (by omega) (by omega) hM fun g h1 h2 => ?_
      have := hc g h1 h2
      rw [ev] at this
      rw [evT_eq (g := g) (fun M pl hp y hy => ev_ok _ M pl hp y hy) _ (g - pl + lo + 1) 0 0 M pl h1 (by omega) (by omega) (.inl rfl)]
      exact this
    | group q gg =>
      have hf : fine k q = true := hf
      have ho : okP k q = true := ho
      rw [weightF] at hw
      rw [num] at hM hc ⊢
      have hM : (num q (b + 1)).2 ≤ M.length := hM
      have hb : b < M.length := by rw [num_groups] at hM; omega
      have hl : (begin' b pl M).length = M.length := List.length_set
      have few : ∀ g, pl ≤ g → g ≤ t.length → cntP (ev t g (num q (b + 1)).1 (begin' b pl M) pl) ≤ 300 := fun g h1 h2 => by
        have := hc g h1 h2
        rw [ev, Option.getD_some] at this
        exact Nat.le_trans cntP_le this
      have h1 := IH q n (b + 1) (begin' b pl M) pl hf ho hw (by omega) (by rw [hl]; exact hM) hp few
      rw [closed_begin] at h1
      have cap := cap_ok (t := t) (k := k) (by omega) ht hf hw hp few
      rw [goneF]
      have hnb : ¬ (closed M).length ≤ b := by rw [closed, List.length_map]; omega
      rw [if_neg hnb, h1, capF_some.mpr ⟨rfl, cap⟩, Option.bind_some, ev, Option.getD_some]
      congr 1
      rw [lots, lots, List.map_flatMap, List.flatMap_assoc]
      refine fm_congr fun y hy => ?_
      cases y with
      | prog F M' => rfl
      | arr e M' =>
        have mk := mk_ev _ _ _ (gP_num k q (b + 1) ho) _ hy
        have m1 : M'[b]? = some (.int (pl : Nat), (mget M b).2) := by
          rw [show M'[b]? = (begin' b pl M)[b]? from mk.low b (by omega), begin', List.getElem?_set_self hb]
        have m2 : (mget M' b).1 = .int (pl : Nat) := by rw [mget, m1]; rfl
        simp only [lot, bnd, List.flatMap_cons, List.flatMap_nil, List.append_nil, List.map_cons, List.map_nil]
        congr 2
        rw [closed, closed, shut, m2, List.map_set]
end
end

section
/-! rests as keys; what comes of stops does not hang on their marks -/
open V4 (le)
/-! ### keys -/
theorem key_hd {w w' : Str} {ds ds' : List PyData} (h : keyD (.tuple (.str w :: ds)) = keyD (.tuple (.str w' :: ds'))) : w = w' ∧ keyDs ds = keyDs ds' := by
  rw [keyD, keyD, keyDs, keyDs, keyD, keyD] at h
  injection h with h
  injection h with h1 h2
  injection h1 with h1
  exact ⟨h1, h2⟩
theorem keyDs_cons {d d' : PyData} {ds ds' : List PyData} (h : keyDs (d :: ds) = keyDs (d' :: ds')) : keyD d = keyD d' ∧ keyDs ds = keyDs ds' := by
  rw [keyDs, keyDs] at h
  injection h with h1 h2
  exact ⟨h1, h2⟩
theorem key_int {i j : Int} (h : keyD (.int i) = keyD (.int j)) : i = j := by
  rw [keyD, keyD] at h
  injection h
theorem key_nat {i j : Nat} (h : keyD (.int (i : Nat)) = keyD (.int (j : Nat))) : i = j := by have := key_int h; omega
theorem key_hi : ∀ {a b : Option Nat}, keyD (encHi a) = keyD (encHi b) → a = b
  | none, none, _ => rfl
  | none, some b, h => by rw [encHi, encHi, keyD, keyD] at h; cases h
  | some a, none, h => by rw [encHi, encHi, keyD, keyD] at h; cases h
  | some a, some b, h => by rw [key_nat h]
theorem key_way {a b : Bool} (h : keyD (encWay a) = keyD (encWay b)) : a = b := by
  rw [encWay, encWay, keyD, keyD] at h
  injection h with h
  cases a <;> cases b
  · rfl
  · exact absurd h (by decide +kernel)
  · exact absurd h (by decide +kernel)
  · rfl
theorem key_bl {a b : Bool} (h : keyD (.bool a) = keyD (.bool b)) : a = b := by
  rw [keyD, keyD] at h
  injection h with h
  cases a <;> cases b
  · rfl
  · exact absurd h (by decide)
  · exact absurd h (by decide)
  · rfl
def tagW (w : Str) : Nat := if w = "none" then 0 else if w = "empty" then 1 else if w = "one" then 2 else if w = "row" then 3 else if w = "any" then 4 else if w = "again" then 5 else if w = "group" then 6 else if w = "turn" then 7 else if w = "close" then 8 else 9
def tagP : Pat → Nat
  | .none => 0
  | .empty => 1
  | .one _ => 2
  | .row _ => 3
  | .any _ => 4
  | .again .. => 5
  | .group .. => 6
theorem tag_word (p : Pat) : tagW (wordP p) = tagP p := by
  cases p with
  | none => exact (by decide +kernel : tagW "none" = 0)
  | empty => exact (by decide +kernel : tagW "empty" = 1)
  | one z => exact (by decide +kernel : tagW "one" = 2)
  | row ps => exact (by decide +kernel : tagW "row" = 3)
  | any ps => exact (by decide +kernel : tagW "any" = 4)
  | again q lo hi m => exact (by decide +kernel : tagW "again" = 5)
  | group q g => exact (by decide +kernel : tagW "group" = 6)
theorem tagP_lt (p : Pat) : tagP p < 7 := by cases p <;> simp [tagP]
theorem key_tag {p p' : Pat} (h : keyD (enc p) = keyD (enc p')) : tagP p = tagP p' := by
  obtain ⟨tl, e⟩ := enc_word p
  obtain ⟨tl', e'⟩ := enc_word p'
  rw [e, e'] at h
  rw [← tag_word, ← tag_word, (key_hd h).1]
theorem key_not {p : Pat} {w : Str} {ds : List PyData} (hw : 7 ≤ tagW w) (h : keyD (enc p) = keyD (.tuple (.str w :: ds))) : False := by
  obtain ⟨tl, e⟩ := enc_word p
  rw [e] at h
  have h1 := tag_word p
  have h2 := tagP_lt p
  rw [(key_hd h).1] at h1
  omega
mutual
theorem key_enc : ∀ (p p' : Pat), keyD (enc p) = keyD (enc p') → p = p'
  | .none, p', h => by
    cases p' with
    | none => rfl
    | _ => exact absurd (key_tag h) (by simp [tagP])
  | .empty, p', h => by
    cases p' with
    | empty => rfl
    | _ => exact absurd (key_tag h) (by simp [tagP])
  | .one z, p', h => by
    cases p' with
    | one z' =>
      rw [enc, enc] at h
      have h1 := (keyDs_cons (key_hd h).2).1
      rw [keyD, keyD] at h1
      injection h1 with h1
      rw [h1]
    | _ => exact absurd (key_tag h) (by simp [tagP])
  | .row ps, p', h => by
    cases p' with
    | row ps' =>
      rw [enc, enc] at h
      rw [key_encs ps ps' (key_hd h).2]
    | _ => exact absurd (key_tag h) (by simp [tagP])
  | .any ps, p', h => by
    cases p' with
    | any ps' =>
      rw [enc, enc] at h
      rw [key_encs ps ps' (key_hd h).2]
    | _ => exact absurd (key_tag h) (by simp [tagP])
  | .again q lo hi m, p', h => by
    cases p' with
    | again q' lo' hi' m' =>
      rw [enc, enc] at h
      obtain ⟨h1, h⟩ := keyDs_cons (key_hd h).2
      obtain ⟨h2, h⟩ := keyDs_cons h
      obtain ⟨h3, h⟩ := keyDs_cons h
      obtain ⟨h4, _⟩ := keyDs_cons h
      rw [key_enc q q' h1, key_nat h2, key_hi h3, key_way h4]
    | _ => exact absurd (key_tag h) (by simp [tagP])
  | .group q none, p', h => by
    cases p' with
    | group q' g' =>
      cases g' with
      | none =>
        rw [enc, enc] at h
        obtain ⟨h1, h⟩ := keyDs_cons (key_hd h).2
        rw [key_enc q q' h1]
      | some k =>
        rw [enc, enc] at h
        obtain ⟨h1, h⟩ := keyDs_cons (key_hd h).2
        rw [keyDs, keyDs] at h
        cases h
    | _ => exact absurd (key_tag h) (by simp [tagP])
  | .group q (some k), p', h => by
    cases p' with
    | group q' g' =>
      cases g' with
      | none =>
        rw [enc, enc] at h
        obtain ⟨h1, h⟩ := keyDs_cons (key_hd h).2
        rw [keyDs, keyDs] at h
        cases h
      | some k' =>
        rw [enc, enc] at h
        obtain ⟨h1, h⟩ := keyDs_cons (key_hd h).2
        rw [key_enc q q' h1, key_nat (keyDs_cons h).1]
    | _ => exact absurd (key_tag h) (by simp [tagP])
theorem key_encs : ∀ (ps ps' : List Pat), keyDs (encs ps) = keyDs (encs ps') → ps = ps'
  | [], [], _ => rfl
  | [], p :: ps, h => by rw [encs, encs, keyDs, keyDs] at h; cases h
  | p :: ps, [], h => by rw [encs, encs, keyDs, keyDs] at h; cases h
  | p :: ps, p' :: ps', h => by
    rw [encs, encs] at h
    obtain ⟨h1, h2⟩ := keyDs_cons h
    rw [key_enc p p' h1, key_encs ps ps' h2]
end
theorem key_frame : ∀ {f f' : Frame}, keyD (encF f) = keyD (encF f') → f = f'
  | .pat p, .pat p', h => by rw [key_enc p p' h]
  | .pat p, .turn .., h => (key_not (by decide +kernel) h).elim
  | .pat p, .close k, h => (key_not (by decide +kernel) h).elim
  | .turn .., .pat p, h => (key_not (by decide +kernel) h.symm).elim
  | .close k, .pat p, h => (key_not (by decide +kernel) h.symm).elim
  | .turn .., .close k, h => absurd (key_hd h).1 (by decide +kernel)
  | .close k, .turn .., h => absurd (key_hd h).1 (by decide +kernel)
  | .close k, .close k', h => by rw [key_nat (keyDs_cons (key_hd h).2).1]
  | .turn q lo hi m d n, .turn q' lo' hi' m' d' n', h => by
    obtain ⟨h1, h⟩ := keyDs_cons (key_hd h).2
    obtain ⟨h2, h⟩ := keyDs_cons h
    obtain ⟨h3, _⟩ := keyDs_cons h
    have e := key_enc _ _ h1
    injection e with e1 e2 e3 e4
    rw [e1, e2, e3, e4, key_nat h2, key_bl h3]
theorem key_rest : ∀ {R R' : List Frame}, keyD (encR R) = keyD (encR R') → R = R' := by
  have main : ∀ R R' : List Frame, keyDs (R.map encF) = keyDs (R'.map encF) → R = R' := by
    intro R
    induction R with
    | nil =>
      intro R' h
      cases R' with
      | nil => rfl
      | cons f R' => rw [List.map_nil, List.map_cons, keyDs, keyDs] at h; cases h
    | cons f R ih =>
      intro R' h
      cases R' with
      | nil => rw [List.map_nil, List.map_cons, keyDs, keyDs] at h; cases h
      | cons f' R' =>
        rw [List.map_cons, List.map_cons] at h
        obtain ⟨h1, h2⟩ := keyDs_cons h
        rw [key_frame h1, ih R' h2]
  intro R R' h
  rw [encR, encR, keyD, keyD] at h
  injection h with h
  exact main R R' h
mutual
theorem key_depth : ∀ d : PyData, (keyD d).depth ≤ d.depth
  | .none => by rw [keyD, NestedKey.depth]; exact Nat.zero_le _
  | .bool b => by rw [keyD, NestedKey.depth]; exact Nat.zero_le _
  | .int i => by rw [keyD, NestedKey.depth]; exact Nat.zero_le _
  | .str x => by rw [keyD, NestedKey.depth]; exact Nat.zero_le _
  | .tuple ds => by rw [keyD, NestedKey.depth, PyData.depth]; exact Nat.succ_le_succ (keys_depth ds)
  | .list ds => by unfold keyD; rw [NestedKey.depth]; exact Nat.zero_le _
  | .dict ds => by unfold keyD; rw [NestedKey.depth]; exact Nat.zero_le _
theorem keys_depth : ∀ ds : List PyData, NestedKey.depthAll (keyDs ds) ≤ PyData.depthAll ds
  | [] => by rw [keyDs, NestedKey.depthAll]; exact Nat.zero_le _
  | d :: ds => by
    rw [keyDs, NestedKey.depthAll, PyData.depthAll]
    exact Nat.max_le.mpr ⟨Nat.le_trans (key_depth d) (Nat.le_max_left _ _), Nat.le_trans (keys_depth ds) (Nat.le_max_right _ _)⟩
end
theorem low_of {R : List Frame} {M : Mk} (h : ∀ f ∈ R, ok4 f = true) : low8 (R, M) := by
  have hs : shp 6 (encR R) := .tup (.of fun d hd => by
    obtain ⟨f, hf, rfl⟩ := List.mem_map.mp hd
    have h := h f hf
    cases f with
    | pat p => exact (okP_shp 4 p h).mono (by decide)
    | turn q lo hi m d n =>
      have h2 : shp 4 (enc (.again q lo hi m)) := okP_shp 4 (.again q lo hi m) h
      exact .tup (.cons (.str (by decide +kernel)) (.cons h2 (.cons .int (.cons .bl .nil))))
    | close k => exact .tup (.cons (.str (by decide +kernel)) (.cons .int .nil)))
  exact Nat.le_trans (key_depth _) (Nat.le_trans hs.2 (by decide))
/-! ### the shape of events does not hang on marks -/
def sh : Ev → Nat ⊕ List Frame
  | .arr e _ => .inl e
  | .prog F _ => .inr F
theorem sh_bnd {κ κ' : Nat → Mk → List Ev} {T : List Frame} (h : ∀ e M M', (κ e M).map sh = (κ' e M').map sh) : ∀ {X X' : List Ev}, X.map sh = X'.map sh → (X.flatMap (bnd κ T)).map sh = (X'.flatMap (bnd κ' T)).map sh
  | [], [], _ => rfl
  | [], _ :: _, e => by simp at e
  | _ :: _, [], e => by simp at e
  | x :: X, x' :: X', e => by
    rw [List.map_cons, List.map_cons] at e
    injection e with e1 e2
    rw [List.flatMap_cons, List.flatMap_cons, List.map_append, List.map_append, sh_bnd h e2]
    congr 1
    cases x with
    | arr a M =>
      cases x' with
      | arr a' M' =>
        injection e1 with e1
        subst e1
        exact h a M M'
      | prog F' M' => cases e1
    | prog F M =>
      cases x' with
      | arr a' M' => cases e1
      | prog F' M' =>
        injection e1 with e1
        subst e1
        rfl
section
variable {t : List Nat} {g : Nat}
theorem sh_evT {o : Mk → Nat → List Ev} {fr : Nat → Frame} {lo : Nat} {hi : Option Nat} {m : Bool} (ho : ∀ M M' pl, (o M pl).map sh = (o M' pl).map sh) : ∀ (r d : Nat) (M M' : Mk) (pl : Nat), (evT o fr lo hi m r d M pl).map sh = (evT o fr lo hi m r d M' pl).map sh
  | 0, _, _, _, _ => by rw [evT, evT]
  | r + 1, d, M, M', pl => by
    have go : ((o M pl).flatMap (bnd (fun e M' => if pl < e ∨ d < lo then evT o fr lo hi m r (d + 1) M' e else []) [fr (d + 1)])).map sh = ((o M' pl).flatMap (bnd (fun e M' => if pl < e ∨ d < lo then evT o fr lo hi m r (d + 1) M' e else []) [fr (d + 1)])).map sh :=
      sh_bnd (fun e M M' => by
        split
        · exact sh_evT ho r (d + 1) M M' e
        · rfl) (ho M M' pl)
    have st : (if lo ≤ d then [Ev.arr pl M] else []).map sh = (if lo ≤ d then [Ev.arr pl M'] else []).map sh := by split <;> rfl
    rw [evT, evT]
    by_cases cm : m = true
    · rw [if_pos cm, if_pos cm, List.map_append, List.map_append, st]
      congr 1
      split
      · exact go
      · rfl
    · rw [if_neg cm, if_neg cm, List.map_append, List.map_append, st]
      congr 1
      split
      · exact go
      · rfl
mutual
theorem sh_ev : ∀ (p : Pat) (M M' : Mk) (pl : Nat), (ev t g p M pl).map sh = (ev t g p M' pl).map sh
  | .none, M, M', pl => by rw [ev, ev]
  | .empty, M, M', pl => by rw [ev, ev]; rfl
  | .one z, M, M', pl => by
    rw [ev, ev]
    split
    · split <;> rfl
    · rfl
  | .row ps, M, M', pl => by rw [ev, ev]; exact sh_evRow ps M M' pl
  | .any ps, M, M', pl => by rw [ev, ev]; exact sh_evAny ps M M' pl
  | .again q lo hi m, M, M', pl => by
    rw [ev, ev]
    exact sh_evT (fun M M' pl => sh_ev q M M' pl) _ _ _ _ _
  | .group q k, M, M', pl => by
    rw [ev, ev]
    refine sh_bnd (κ := fun e M' => [.arr e (shut (k.getD 0) e M')]) (κ' := fun e M' => [.arr e (shut (k.getD 0) e M')]) (fun e M M' => ?_) (sh_ev q _ _ pl)
    rfl
theorem sh_evRow : ∀ (ps : List Pat) (M M' : Mk) (pl : Nat), (evRow t g ps M pl).map sh = (evRow t g ps M' pl).map sh
  | [], M, M', pl => by rw [evRow, evRow]; rfl
  | p :: ps, M, M', pl => by
    rw [evRow, evRow]
    exact sh_bnd (fun e M M' => sh_evRow ps M M' e) (sh_ev p M M' pl)
theorem sh_evAny : ∀ (ps : List Pat) (M M' : Mk) (pl : Nat), (evAny t g ps M pl).map sh = (evAny t g ps M' pl).map sh
  | [], M, M', pl => by rw [evAny, evAny]
  | p :: ps, M, M', pl => by
    rw [evAny, evAny, List.map_append, List.map_append, sh_ev p M M' pl, sh_evAny ps M M' pl]
end
theorem sh_evF (f : Frame) (M M' : Mk) (pl : Nat) : (evF t g f M pl).map sh = (evF t g f M' pl).map sh := by
  cases f with
  | pat p => exact sh_ev p M M' pl
  | turn q lo hi m d new =>
    rw [evF, evF]
    split
    · rfl
    · exact sh_evT (fun M M' pl => sh_ev q M M' pl) _ _ _ _ _
  | close k => rfl
theorem sh_evs : ∀ (S : List Frame) (fl : Bool) (M M' : Mk) (pl : Nat), (evs t g fl S M pl).map sh = (evs t g fl S M' pl).map sh
  | [], fl, M, M', pl => by rw [evs, evs]; rfl
  | f :: S, fl, M, M', pl => by
    rw [evs, evs]
    refine sh_bnd (fun e M M' => ?_) (sh_evF _ M M' pl)
    exact sh_evs S _ M M' e
end
/-! ### what comes of a stop in the end -/
def arrG (G : Nat) : Ev → List Mk
  | .arr e M => if e = G then [M] else []
  | .prog _ _ => []
def Wf (t : List Nat) (G g : Nat) (s : Stop) : List Mk := match s.1 with
  | [] => if g = G then [s.2] else []
  | .pat (.one z) :: F => if g < G ∧ hit t g z = true then (evs t G false F s.2 (g + 1)).flatMap (arrG G) else []
  | _ => []
def Wg (t : List Nat) (G g : Nat) : Ev → List Mk
  | .arr e M => if e = G then [M] else []
  | .prog F M => Wf t G g (F, M)
section
variable {t : List Nat} {G : Nat}
theorem Wg_end : ∀ (k g : Nat), g + k = G → ∀ (R : List Frame) (M : Mk) (pl : Nat), pl ≤ g → (evs t g false R M pl).flatMap (Wg t G g) = (evs t G false R M pl).flatMap (arrG G)
  | 0, g, hg, R, M, pl, hp => by
    have : g = G := by omega
    subst this
    refine fm_congr fun y hy => ?_
    cases y with
    | arr e M' => rfl
    | prog F M' =>
      obtain ⟨z, F', rfl⟩ := evs_ok _ _ _ _ hp _ hy
      show (if g < g ∧ hit t g z = true then _ else []) = []
      rw [if_neg (by omega)]
  | k + 1, g, hg, R, M, pl, hp => by
    rw [← Wg_end k (g + 1) (by omega) R M pl (by omega), step_evs R false M pl hp, List.flatMap_assoc]
    refine fm_congr fun y hy => ?_
    have a := evs_ok _ _ _ _ hp _ hy
    cases y with
    | arr e M' => rw [stp, List.flatMap_cons, List.flatMap_nil, List.append_nil]; rfl
    | prog F M' =>
      obtain ⟨z, F', rfl⟩ := a
      rw [stp]
      show (if g < G ∧ hit t g z = true then (evs t G false F' M' (g + 1)).flatMap (arrG G) else []) = _
      by_cases h : hit t g z = true
      · rw [if_pos ⟨by omega, h⟩, if_pos h, Wg_end k (g + 1) (by omega) F' M' (g + 1) (Nat.le_refl _)]
      · rw [if_neg (fun q => h q.2), if_neg h]; rfl
theorem Wf_toS {g : Nat} {X : List Ev} (h : ∀ y ∈ X, okE g g y) : (X.map toS).flatMap (Wf t G g) = X.flatMap (Wg t G g) := by
  rw [List.flatMap_map]
  refine fm_congr fun y hy => ?_
  cases y with
  | arr e M =>
    have a := h _ hy
    have : e = g := Nat.le_antisymm a.2 a.1
    rw [Wg, this]; rfl
  | prog F M => rfl
theorem Wf_nx {g N : Nat} {c : Nat} {s : Stop} (hs : GS N s) (hg : g < G) (hc : t[g]? = some c) : (nx t g c s).flatMap (Wf t G (g + 1)) = Wf t G g s := by
  obtain ⟨R, M⟩ := s
  rcases hs.form with e | ⟨z, F, e, _, _⟩
  · have e : R = [] := e
    subst e
    show [] = if g = G then [M] else []
    rw [if_neg (by omega)]
  · have e : R = .pat (.one z) :: F := e
    subst e
    have hh : (hit t g z = true) ↔ c ∈ z.cps.toList := by rw [hit, hc]; exact decide_eq_true_iff
    show (if c ∈ z.cps.toList then stT t F M (g + 1) else []).flatMap _ = if g < G ∧ hit t g z = true then (evs t G false F M (g + 1)).flatMap (arrG G) else []
    by_cases h : c ∈ z.cps.toList
    · rw [if_pos h, if_pos ⟨hg, hh.mpr h⟩, stT, Wf_toS (evs_ok _ _ _ _ (Nat.le_refl _))]
      exact Wg_end (G - (g + 1)) (g + 1) (by omega) F M (g + 1) (Nat.le_refl _)
    · rw [if_neg h, if_neg (fun q => h (hh.mp q.2))]; rfl
theorem Wf_empty {g : Nat} {R : List Frame} {M M' : Mk} (h : Wf t G g (R, M) = []) : Wf t G g (R, M') = [] := by
  have arrLen : ∀ X X' : List Ev, X.map sh = X'.map sh → X.flatMap (arrG G) = [] → X'.flatMap (arrG G) = [] := by
    intro X
    induction X with
    | nil =>
      intro X' e _
      cases X' with
      | nil => rfl
      | cons x' X' => simp at e
    | cons x X ih =>
      intro X' e h
      cases X' with
      | nil => simp at e
      | cons x' X' =>
        rw [List.map_cons, List.map_cons] at e
        injection e with e1 e2
        rw [List.flatMap_cons, List.append_eq_nil_iff] at h
        rw [List.flatMap_cons, ih X' e2 h.2, List.append_nil]
        cases x with
        | arr a M =>
          cases x' with
          | arr a' M' =>
            injection e1 with e1
            subst e1
            have := h.1
            rw [arrG] at this ⊢
            split at this
            · cases this
            · rename_i c; rw [if_neg c]
          | prog F' M' => rfl
        | prog F M =>
          cases x' with
          | arr a' M' => cases e1
          | prog F' M' => rfl
  match R with
  | [] =>
    have h : (if g = G then [M] else []) = [] := h
    show (if g = G then [M'] else []) = []
    split at h
    · cases h
    · rename_i c; rw [if_neg c]
  | .pat (.one z) :: F =>
    have h : (if g < G ∧ hit t g z = true then (evs t G false F M (g + 1)).flatMap (arrG G) else []) = [] := h
    show (if g < G ∧ hit t g z = true then (evs t G false F M' (g + 1)).flatMap (arrG G) else []) = []
    split at h
    · rename_i c
      rw [if_pos c]
      exact arrLen _ _ (sh_evs F false M M' (g + 1)) h
    · rename_i c; rw [if_neg c]
  | .turn .. :: _ => rfl
  | .close _ :: _ => rfl
  | .pat .none :: _ => rfl
  | .pat .empty :: _ => rfl
  | .pat (.row _) :: _ => rfl
  | .pat (.any _) :: _ => rfl
  | .pat (.again ..) :: _ => rfl
  | .pat (.group ..) :: _ => rfl
theorem ways_Wf {X : List Stop} (h : ∀ s ∈ X, s.1 = [] ∨ ∃ z F, s.1 = .pat (.one z) :: F) : waysL X = X.flatMap (Wf t G G) := by
  induction X with
  | nil => rfl
  | cons s X ih =>
    have ih := ih fun s hs => h s (List.mem_cons_of_mem _ hs)
    obtain ⟨R, M⟩ := s
    rw [waysL] at ih
    rw [waysL, List.flatMap_cons, ← ih]
    rcases h _ List.mem_cons_self with e | ⟨z, F, e⟩
    · have e : R = [] := e
      subst e
      rw [List.filter_cons_of_pos (by rfl)]
      show M :: _ = (if G = G then [M] else []) ++ _
      rw [if_pos rfl]; rfl
    · have e : R = .pat (.one z) :: F := e
      subst e
      rw [List.filter_cons_of_neg (by simp)]
      show _ = (if G < G ∧ hit t G z = true then (evs t G false F M (G + 1)).flatMap (arrG G) else []) ++ _
      rw [if_neg (fun q => Nat.lt_irrefl _ q.1)]; rfl
end
/-! ### without later ones -/
theorem head_later {β : Type} {f : Stop → List β} (hf : ∀ R M M', f (R, M) = [] → f (R, M') = []) : ∀ (X acc : List Stop), ((X.foldl addN acc).flatMap f).head? = ((acc ++ X).flatMap f).head?
  | [], acc => by rw [List.append_nil]; rfl
  | x :: X, acc => by
    rw [List.foldl_cons, head_later hf X (addN acc x)]
    unfold addN
    by_cases c : (acc.any fun a => decide (keyD (encR a.1) = keyD (encR x.1))) = true
    · rw [if_pos c]
      obtain ⟨a, ha, he⟩ := List.any_eq_true.mp c
      have he := key_rest (of_decide_eq_true he)
      rw [List.flatMap_append, List.flatMap_append, List.flatMap_cons]
      by_cases c2 : f x = []
      · rw [c2, List.nil_append]
      · have hne : acc.flatMap f ≠ [] := fun q => by
          have := List.flatMap_eq_nil_iff.mp q a ha
          obtain ⟨R, M⟩ := a
          obtain ⟨R', M'⟩ := x
          have he : R = R' := he
          subst he
          exact c2 (hf _ _ _ this)
        obtain ⟨b, l, e⟩ := List.exists_cons_of_ne_nil hne
        rw [e]; rfl
    · rw [if_neg c, List.append_assoc]; rfl
theorem later_sub (S : List Stop) : (later S).Sublist S := by
  have main : ∀ (S acc : List Stop), (S.foldl addN acc).Sublist (acc ++ S) := by
    intro S
    induction S with
    | nil => intro acc; rw [List.append_nil]; exact List.Sublist.refl _
    | cons s S ih =>
      intro acc
      rw [List.foldl_cons]
      refine (ih (addN acc s)).trans ?_
      unfold addN
      split
      · exact List.Sublist.append (List.Sublist.refl _) (List.sublist_cons_self s S)
      · rw [List.append_assoc]; exact List.Sublist.refl _
  exact main S []
end

section
/-! the plain law: all stops, all ways, the first way of what is drawn -/
open V4 (le)
section
variable {t : List Nat} {p : Pat} {M : Mk} {N : Nat}
theorem stopsAt_W (D : DP N p) (hM : M.length = N) : ∀ (k g : Nat), g + k = t.length → (stopsAt t p M t.length).flatMap (Wf t t.length t.length) = (stopsAt t p M g).flatMap (Wf t t.length g)
  | 0, g, hg => by
    have : g = t.length := by omega
    rw [this]
  | k + 1, g, hg => by
    rw [stopsAt_W D hM k (g + 1) (by omega)]
    have hlt : g < t.length := by omega
    have hc : t[g]? = some t[g] := List.getElem?_eq_getElem hlt
    have h := stopsAt_next D hM hc
    rw [nextF, catO_flat (h := nx t g t[g]) fun s hs => behind_eq t[g] (stopsAt_ok D hM s hs)] at h
    rw [← Option.some.inj h, List.flatMap_assoc]
    exact fm_congr fun s hs => Wf_nx (stopsAt_ok D hM s hs) hlt hc
theorem sub_flat {α β : Type} (h : α → List β) {X Y : List α} (s : X.Sublist Y) : (X.flatMap h).Sublist (Y.flatMap h) := by
  induction s with
  | slnil => exact List.Sublist.refl _
  | cons a s ih => rw [List.flatMap_cons]; exact ih.trans (List.sublist_append_right _ _)
  | cons_cons a s ih => rw [List.flatMap_cons, List.flatMap_cons]; exact List.Sublist.append (List.Sublist.refl _) ih
theorem tame_ok {X : List Stop} (hz : X.length ≤ 10000000) (h : ∀ s ∈ X, GS N s) : tame X = true := tame_iff.mpr ⟨hz, fun s hs => low_of (h s hs).ok⟩
theorem runD_eq (D : DP N p) (hM : M.length = N) (hz : ∀ j, j ≤ t.length → (stopsAt t p M j).length ≤ 300) : ∀ (k g : Nat), g + k = t.length → ∀ X : List Stop, X.Sublist (stopsAt t p M g) → ∃ X', runD (t.drop g) g X = some X' ∧ X'.Sublist (stopsAt t p M t.length) ∧ (X'.flatMap (Wf t t.length t.length)).head? = (X.flatMap (Wf t t.length g)).head?
  | 0, g, hg, X, hX => by
    have e : g = t.length := by omega
    subst e
    rw [List.drop_eq_nil_of_le (Nat.le_refl _), runD]
    exact ⟨X, rfl, hX, rfl⟩
  | k + 1, g, hg, X, hX => by
    have hlt : g < t.length := by omega
    have hc : t[g]? = some t[g] := List.getElem?_eq_getElem hlt
    have hGS : ∀ s ∈ X, GS N s := fun s hs => stopsAt_ok D hM s (hX.subset hs)
    have hn := stopsAt_next D hM hc
    rw [nextF, catO_flat (h := nx t g t[g]) fun s hs => behind_eq t[g] (stopsAt_ok D hM s hs)] at hn
    have hsub : (X.flatMap (nx t g t[g])).Sublist (stopsAt t p M (g + 1)) := by
      rw [← Option.some.inj hn]; exact sub_flat _ hX
    have hlen := Nat.le_trans hsub.length_le (hz (g + 1) (by omega))
    rw [List.drop_eq_getElem_cons hlt, runD, nextF, catO_flat (h := nx t g t[g]) fun s hs => behind_eq t[g] (hGS s hs), Option.bind_some]
    rw [if_pos (tame_ok (N := N) (by omega) fun s hs => stopsAt_ok D hM s (hsub.subset hs))]
    obtain ⟨X', h1, h2, h3⟩ := runD_eq D hM hz k (g + 1) (by omega) (later (X.flatMap (nx t g t[g]))) ((later_sub _).trans hsub)
    refine ⟨X', h1, h2, h3.trans ?_⟩
    rw [later, head_later (fun R M M' => Wf_empty) _ [], List.nil_append, List.flatMap_assoc]
    congr 1
    exact fm_congr fun s hs => Wf_nx (hGS s hs) hlt hc
end
theorem cntP_fin (g : Nat) : ∀ X : List Ev, cntP X ≤ (X.flatMap (fin g)).length
  | [] => Nat.zero_le _
  | .arr e M :: X => by
    have := cntP_fin g X
    rw [cntP, List.flatMap_cons, List.length_append]; omega
  | .prog F M :: X => by
    have := cntP_fin g X
    rw [cntP, List.flatMap_cons, List.length_append, fin, List.length_singleton]; omega
theorem closed_noM (k : Nat) : closed (noM k) = List.replicate k PyData.none := by rw [closed, noM, List.map_replicate]
/-- what the head of ways gives -/
def headW (L : List Mk) : PyData := match L with
  | [] => .none
  | M :: _ => spans M
theorem headW_of {L L' : List Mk} (h : L.head? = L'.head?) : headW L = headW L' := by
  cases L <;> cases L' <;> simp at h <;> simp [headW, h]
theorem plain {s : Nat} {p : Pat} (Dr : drawnP s p) (t : Str) (ht : t.length ≤ 6) : ∃ r, allF p t = some r ∧ (r = none ∨ ∃ (S : List Stop) (L : List Lot) (S' : List Stop), r = some S ∧ allG p t = some L ∧ L.length ≤ 10000000 ∧
    (L.filter fun l => decide (l.1 = t.length)).map (fun l => PyData.tuple l.2) = (waysL S).map spans ∧ firstD p t = some S' ∧ headW (waysL S') = headW (waysL S)) := by
  obtain ⟨⟨_, _, _, _, _, hw⟩, hg, ho⟩ := Dr
  have hf := goodP_fine 4 p hg
  have D := dp_num hf ho hw
  have hM : (noM (groups p)).length = groups p := by rw [noM, List.length_replicate]
  have hl : t.cps.toList.length = t.length := by rw [Array.length_toList]; rfl
  obtain ⟨r, h1, h2⟩ := allF_eq hf ho hw t
  refine ⟨r, h1, h2.imp id ?_⟩
  rintro ⟨rfl, hz⟩
  have few : ∀ g, g ≤ t.cps.toList.length → cntP (ev t.cps.toList g (num p 0).1 (noM (groups p)) 0) ≤ 300 := fun g hg => by
    have a := cntP_fin g (evs t.cps.toList g false [.pat (num p 0).1] (noM (groups p)) 0)
    have b := hz g (by omega)
    rw [stopsAt] at b
    rw [evs_one, if_neg Bool.false_ne_true, evF] at a b
    omega
  have hG := gone_ok (t := t.cps.toList) (by omega) 4 (Nat.le_refl _) p 100 0 (noM (groups p)) 0 hf ho hw (by omega) (by rw [hM]; exact Nat.le_refl _) (Nat.zero_le _) fun g _ h => few g h
  have hcap := cap_ok (t := t.cps.toList) (k := 4) (Nat.le_refl _) (by omega) (M := noM (groups p)) (b := 0) hf hw (Nat.zero_le _) fun g _ h => few g h
  rw [closed_noM] at hG
  have hD0 : firstF p = some (stopsAt t.cps.toList (num p 0).1 (noM (groups p)) 0) := stopsAt_first D hM
  obtain ⟨X', e1, e2, e3⟩ := runD_eq (t := t.cps.toList) D hM (fun j hj => hz j (by omega)) t.cps.toList.length 0 (by omega) (later (stopsAt t.cps.toList (num p 0).1 (noM (groups p)) 0)) (later_sub _)
  rw [List.drop_zero] at e1
  have form : ∀ s ∈ stopsAt t.cps.toList (num p 0).1 (noM (groups p)) t.cps.toList.length, s.1 = [] ∨ ∃ z F, s.1 = .pat (.one z) :: F := fun s hs => (stopsAt_ok D hM s hs).form.imp id fun ⟨z, F, e, _⟩ => ⟨z, F, e⟩
  refine ⟨_, _, X', rfl, hG, hcap, ?_, ?_, ?_⟩
  · rw [← hl]
    generalize t.cps.toList = u at *
    rw [stopsAt, evs_one, if_neg Bool.false_ne_true, evF]
    have hF : ∀ y ∈ ev u u.length (num p 0).1 (noM (groups p)) 0, okE u.length 0 y := ev_ok _ _ _ (Nat.zero_le _)
    generalize ev u u.length (num p 0).1 (noM (groups p)) 0 = X at hF
    clear hG hcap hD0 e1 e2 e3 form few
    induction X with
    | nil => rfl
    | cons x X ih =>
      have ih := ih fun y hy => hF y (List.mem_cons_of_mem _ hy)
      have hx := hF x List.mem_cons_self
      rw [lots, waysL] at ih
      rw [lots, waysL, List.flatMap_cons, List.flatMap_cons, List.filter_append, List.filter_append, List.map_append, List.map_append, List.map_append, ih]
      congr 1
      cases x with
      | arr e M =>
        rw [lot, fin]
        by_cases c : e = u.length
        · rw [if_pos c, List.filter_cons_of_pos (by rw [decide_eq_true_eq]; exact c)]; rfl
        · rw [if_neg c, List.filter_cons_of_neg (by rw [decide_eq_true_eq]; exact c)]; rfl
      | prog F M =>
        obtain ⟨z, F', rfl⟩ := hx
        rfl
  · rw [firstD, hD0, Option.bind_some, if_pos (tame_ok (N := groups p) (by have := hz 0 (Nat.zero_le _); omega) fun s hs => stopsAt_ok D hM s hs)]
    exact e1
  · apply headW_of
    rw [← hl]
    rw [ways_Wf (t := t.cps.toList) (G := t.cps.toList.length) fun s hs => form s (e2.subset hs), ways_Wf (t := t.cps.toList) (G := t.cps.toList.length) form, e3, stopsAt_W D hM t.cps.toList.length 0 (by omega)]
    rw [later, head_later (fun R M M' => Wf_empty) _ [], List.nil_append]
end

section
/-! just as many stops as can be told, and some more -/
theorem mul_a {n : Nat} (h : 2 ≤ n) : (Txt.mul "a" (n : Int)).cps.toList = List.replicate n 97 := by
  have main : ∀ (k : Nat) (acc : Array Nat), ((List.replicate k #[97]).foldl (· ++ ·) acc).toList = acc.toList ++ List.replicate k 97 := by
    intro k
    induction k with
    | zero => intro acc; simp
    | succ k ih =>
      intro acc
      rw [List.replicate_succ, List.foldl_cons, ih, List.replicate_succ]
      simp
  have e1 : ("a" : Str).cps = #[97] := by decide +kernel
  have e2 : (("a" : Str).length == 0) = false := by decide +kernel
  rw [Txt.mul, if_neg (by omega), e2]
  have e3 : ((n : Int) == 1 || false) = false := by
    rw [Bool.or_false, beq_eq_false_iff_ne]; omega
  rw [e3, if_neg Bool.false_ne_true]
  show ((List.replicate (n : Int).toNat ("a" : Str).cps).foldl (· ++ ·) #[]).toList = _
  rw [e1, Int.toNat_natCast, main]
  rfl
theorem mul_a_len {n : Nat} (h : 2 ≤ n) : (Txt.mul "a" (n : Int)).length = n := by
  have e := congrArg List.length (mul_a h)
  rw [Array.length_toList, List.length_replicate] at e
  exact e
def jS (m : Bool) : Pat := .again (.one "a") 0 none m
def jOdd (m : Bool) : Pat := .row [jS m, jS m]
def jEven (m : Bool) : Pat := .any [.row [jS m, jS m], .row [jS m, .none]]
def jFirst (m : Bool) : Pat := .row [.group (jS m) none, jS m]
def jT (m : Bool) : Frame := .turn (.one "a") 0 none m 0 false
def jA : Frame := .pat (.one "a")
/-- the stops that come about -/
def jst (m : Bool) : Nat → Stop
  | 0 => ([jA, jT m, .pat (jS m)], [])
  | 1 => ([jA, jT m], [])
  | 2 => ([], [])
  | _ => ([jA, jT m, .pat .none], [])
def jnx (m : Bool) : Nat → List Nat
  | 0 => if m = true then [0, 1, 2] else [2, 1, 0]
  | 1 => if m = true then [1, 2] else [2, 1]
  | 2 => []
  | _ => [3]
theorem a_has : (97 : Nat) ∈ ("a" : Str).cps.toList := by decide +kernel
theorem j_behind (m : Bool) (p : Nat) : ∀ i, behindF (jst m i) 97 p = some ((jnx m i).map (jst m))
  | 0 => by
    show (if 97 ∈ ("a" : Str).cps.toList then stopsF 110 [jT m, .pat (jS m)] [] p else some []) = _
    rw [if_pos a_has]
    cases m <;> rfl
  | 1 => by
    show (if 97 ∈ ("a" : Str).cps.toList then stopsF 110 [jT m] [] p else some []) = _
    rw [if_pos a_has]
    cases m <;> rfl
  | 2 => rfl
  | _ + 3 => by
    show (if 97 ∈ ("a" : Str).cps.toList then stopsF 110 [jT m, .pat .none] [] p else some []) = _
    rw [if_pos a_has]
    cases m <;> rfl
theorem j_odd (m : Bool) : firstF (jOdd m) = some ((jnx m 0).map (jst m)) := by cases m <;> rfl
theorem j_even (m : Bool) : firstF (jEven m) = some ((jnx m 0 ++ [3]).map (jst m)) := by cases m <;> rfl
theorem j_next (m : Bool) (p : Nat) (I : List Nat) : nextF (I.map (jst m)) 97 p = some ((I.flatMap (jnx m)).map (jst m)) := by
  rw [nextF]
  induction I with
  | nil => rfl
  | cons i I ih => rw [List.map_cons, catO, j_behind, Option.bind_some, ih, Option.bind_some, List.flatMap_cons, List.map_append]
/-- how many stops come of one by so many letters -/
def jN : Nat → Nat → Nat
  | 0, _ => 1
  | k + 1, 0 => jN k 0 + jN k 1 + jN k 2
  | k + 1, 1 => jN k 1 + jN k 2
  | _ + 1, 2 => 0
  | k + 1, _ => jN k 3
def jW (k : Nat) (I : List Nat) : Nat := (I.map (jN k)).sum
theorem jW_app (k : Nat) (I J : List Nat) : jW k (I ++ J) = jW k I + jW k J := by simp [jW]
theorem jW_nx (m : Bool) (k : Nat) : ∀ i, jW k (jnx m i) = jN (k + 1) i
  | 0 => by cases m <;> simp [jW, jnx, jN] <;> omega
  | 1 => by cases m <;> simp [jW, jnx, jN] <;> omega
  | 2 => rfl
  | _ + 3 => by simp [jW, jnx, jN]
theorem jW_flat (m : Bool) (k : Nat) (I : List Nat) : jW k (I.flatMap (jnx m)) = jW (k + 1) I := by
  induction I with
  | nil => rfl
  | cons i I ih => rw [List.flatMap_cons, jW_app, ih, jW_nx]; simp [jW]
theorem jW_zero (I : List Nat) : jW 0 I = I.length := by
  induction I with
  | nil => rfl
  | cons i I ih =>
    have : jW 0 (i :: I) = jN 0 i + jW 0 I := by simp [jW]
    rw [this, ih, List.length_cons, jN]; omega
theorem jN12 : ∀ k, jN k 1 + jN k 2 = 2
  | 0 => rfl
  | k + 1 => by rw [jN, jN, jN12 k]
theorem jN3 : ∀ k, jN k 3 = 1
  | 0 => rfl
  | k + 1 => by rw [jN]; exact jN3 k; all_goals simp
theorem jN012 : ∀ k, jN k 0 + jN k 1 + jN k 2 = 2 * k + 3
  | 0 => rfl
  | k + 1 => by
    have h := jN12 (k + 1)
    have h0 : jN (k + 1) 0 = jN k 0 + jN k 1 + jN k 2 := by rw [jN]
    rw [Nat.add_assoc, h, h0, jN012 k]; omega
theorem jW_odd (m : Bool) (k : Nat) : jW k (jnx m 0) = 2 * k + 3 := by
  rw [jW_nx, jN]; exact jN012 k
theorem jW_even (m : Bool) (k : Nat) : jW k (jnx m 0 ++ [3]) = 2 * k + 4 := by
  rw [jW_app, jW_odd]
  have : jW k [3] = 1 := by simp [jW, jN3]
  rw [this]
theorem j_run (m : Bool) : ∀ (k g : Nat) (I : List Nat), I.length ≤ 300 → (∀ j, j ≤ k → jW j I ≤ 300) → ∃ S, runF (List.replicate k 97) g (I.map (jst m)) = some (some S) ∧ S.length = jW k I
  | 0, g, I, h0, _ => ⟨_, rfl, by rw [List.length_map, jW_zero]⟩
  | k + 1, g, I, h0, h => by
    rw [List.replicate_succ, runF, j_next, Option.bind_some]
    have h1 := h 1 (by omega)
    rw [← jW_flat m, jW_zero] at h1
    rw [List.length_map, if_neg (by omega), if_neg (by omega)]
    obtain ⟨S, e1, e2⟩ := j_run m k (g + 1) (I.flatMap (jnx m)) h1 fun j hj => by rw [jW_flat]; exact h (j + 1) (by omega)
    exact ⟨S, e1, by rw [e2, jW_flat]⟩
theorem j_over (m : Bool) : ∀ (k g : Nat) (I : List Nat), I.length ≤ 300 → (∀ j, j < k → jW j I ≤ 300) → 300 < jW k I → jW k I ≤ 1000 → runF (List.replicate k 97) g (I.map (jst m)) = some none
  | 0, g, I, h0, _, h1, _ => by rw [jW_zero] at h1; omega
  | k + 1, g, I, h0, h, h1, h2 => by
    rw [List.replicate_succ, runF, j_next, Option.bind_some, List.length_map]
    rw [← jW_flat m] at h1 h2
    cases k with
    | zero =>
      rw [jW_zero] at h1 h2
      rw [if_neg (by omega), if_pos h1]
    | succ k =>
      have h3 := h 1 (by omega)
      rw [← jW_flat m, jW_zero] at h3
      rw [if_neg (by omega), if_neg (by omega)]
      exact j_over m (k + 1) (g + 1) _ h3 (fun j hj => by rw [jW_flat]; exact h (j + 1) (by omega)) h1 h2
theorem jI_len (m : Bool) : (jnx m 0).length = 3 := by cases m <;> rfl
theorem j_all_odd (m : Bool) : ∃ S, allF (jOdd m) (Txt.mul "a" 148) = some (some S) ∧ S.length = 299 := by
  rw [allF, j_odd, Option.bind_some, List.length_map, jI_len, if_neg (by omega), if_neg (by omega), show (148 : Int) = ((148 : Nat) : Int) from rfl, mul_a (by omega)]
  obtain ⟨S, h1, h2⟩ := j_run m 148 0 (jnx m 0) (by rw [jI_len]; omega) fun j hj => by rw [jW_odd]; omega
  exact ⟨S, h1, by rw [h2, jW_odd]⟩
theorem j_all_even (m : Bool) : ∃ S, allF (jEven m) (Txt.mul "a" 148) = some (some S) ∧ S.length = 300 := by
  rw [allF, j_even, Option.bind_some, List.length_map, List.length_append, jI_len, if_neg (by simp), if_neg (by simp), show (148 : Int) = ((148 : Nat) : Int) from rfl, mul_a (by omega)]
  obtain ⟨S, h1, h2⟩ := j_run m 148 0 (jnx m 0 ++ [3]) (by rw [List.length_append, jI_len]; simp) fun j hj => by rw [jW_even]; omega
  exact ⟨S, h1, by rw [h2, jW_even]⟩
theorem j_over_odd (m : Bool) : allF (jOdd m) (Txt.mul "a" 149) = some none := by
  rw [allF, j_odd, Option.bind_some, List.length_map, jI_len, if_neg (by omega), if_neg (by omega), show (149 : Int) = ((149 : Nat) : Int) from rfl, mul_a (by omega)]
  exact j_over m 149 0 (jnx m 0) (by rw [jI_len]; omega) (fun j hj => by rw [jW_odd]; omega) (by rw [jW_odd]; omega) (by rw [jW_odd]; omega)
theorem j_over_even (m : Bool) : allF (jEven m) (Txt.mul "a" 149) = some none := by
  rw [allF, j_even, Option.bind_some, List.length_map, List.length_append, jI_len, if_neg (by simp), if_neg (by simp), show (149 : Int) = ((149 : Nat) : Int) from rfl, mul_a (by omega)]
  exact j_over m 149 0 (jnx m 0 ++ [3]) (by rw [List.length_append, jI_len]; simp) (fun j hj => by rw [jW_even]; omega) (by rw [jW_even]; omega) (by rw [jW_even]; omega)
/-! ### the first way of a long text -/
def jC : Frame := .close 0
/-- what the group has -/
def jx (g : Nat) : Mk := [(.int (0 : Nat), .tuple [.int (0 : Nat), .int (g : Nat)])]
def j0 : Mk := [(.int (0 : Nat), .none)]
def jD (m : Bool) (g : Nat) : List Stop :=
  if m = true then [([jA, jT m, jC, .pat (jS m)], j0), ([jA, jT m], jx g), ([], jx g)]
  else [([], jx 0), ([jA, jT m], jx 0), ([jA, jT m, jC, .pat (jS m)], j0)]
def jL (m : Bool) (g : Nat) : List Stop :=
  if m = true then [([jA, jT m, jC, .pat (jS m)], j0), ([jA, jT m], jx (g + 1)), ([], jx (g + 1)), ([jA, jT m], jx g), ([], jx g)]
  else [([], jx 0), ([jA, jT m], jx 0), ([], jx (g + 1)), ([jA, jT m], jx (g + 1)), ([jA, jT m, jC, .pat (jS m)], j0)]
theorem jD_first (m : Bool) : firstF (jFirst m) = some (jD m 0) := by cases m <;> rfl
theorem jP_behind (m : Bool) (g : Nat) : behindF ([jA, jT m, jC, .pat (jS m)], j0) 97 g = some (if m = true then [([jA, jT m, jC, .pat (jS m)], j0), ([jA, jT m], jx g), ([], jx g)] else [([], jx g), ([jA, jT m], jx g), ([jA, jT m, jC, .pat (jS m)], j0)]) := by
  show (if 97 ∈ ("a" : Str).cps.toList then stopsF 110 [jT m, jC, .pat (jS m)] j0 g else some []) = _
  rw [if_pos a_has]
  cases m <;> rfl
theorem jQ_behind (m : Bool) (g : Nat) (M : Mk) : behindF ([jA, jT m], M) 97 g = some (if m = true then [([jA, jT m], M), ([], M)] else [([], M), ([jA, jT m], M)]) := by
  show (if 97 ∈ ("a" : Str).cps.toList then stopsF 110 [jT m] M g else some []) = _
  rw [if_pos a_has]
  cases m <;> rfl
theorem jE_behind (g : Nat) (M : Mk) : behindF ([], M) 97 g = some [] := rfl
theorem jD_next (m : Bool) (g : Nat) : nextF (jD m g) 97 (g + 1) = some (jL m g) := by
  cases m
  · show catO _ [([], jx 0), ([jA, jT false], jx 0), ([jA, jT false, jC, .pat (jS false)], j0)] = _
    rw [catO, catO, catO, catO, jE_behind, jQ_behind, jP_behind]
    rfl
  · show catO _ [([jA, jT true, jC, .pat (jS true)], j0), ([jA, jT true], jx g), ([], jx g)] = _
    rw [catO, catO, catO, catO, jP_behind, jQ_behind, jE_behind]
    rfl
theorem j_keys (m : Bool) : keyD (encR [jA, jT m, jC, .pat (jS m)]) ≠ keyD (encR [jA, jT m]) ∧ keyD (encR [jA, jT m]) ≠ keyD (encR []) ∧ keyD (encR [jA, jT m, jC, .pat (jS m)]) ≠ keyD (encR []) := by
  refine ⟨fun h => ?_, fun h => ?_, fun h => ?_⟩
  · have := congrArg List.length (key_rest h); simp at this
  · have := congrArg List.length (key_rest h); simp at this
  · have := congrArg List.length (key_rest h); simp at this
theorem addN_new {acc : List Stop} {s : Stop} (h : ∀ a ∈ acc, keyD (encR a.1) ≠ keyD (encR s.1)) : addN acc s = acc ++ [s] := by
  unfold addN
  rw [if_neg]
  rw [List.any_eq_true]
  rintro ⟨a, ha, e⟩
  exact h a ha (of_decide_eq_true e)
theorem addN_old {acc : List Stop} {s : Stop} (a : Stop) (ha : a ∈ acc) (h : a.1 = s.1) : addN acc s = acc := by
  unfold addN
  rw [if_pos]
  exact List.any_eq_true.mpr ⟨a, ha, by rw [h, decide_eq_true_eq]⟩
theorem jL_later (m : Bool) (g : Nat) : later (jL m g) = jD m (g + 1) := by
  obtain ⟨k1, k2, k3⟩ := j_keys m
  cases m
  · rw [jL, jD, if_neg Bool.false_ne_true, if_neg Bool.false_ne_true, later]
    simp only [List.foldl_cons, List.foldl_nil]
    rw [addN_new (acc := []) (by simp), List.nil_append, addN_new (acc := [_]) (by simp; exact k2.symm), List.cons_append, List.nil_append, addN_old (acc := [([], jx 0), ([jA, jT false], jx 0)]) (s := ([], jx (g + 1))) ([], jx 0) (by simp) rfl, addN_old (acc := [([], jx 0), ([jA, jT false], jx 0)]) (s := ([jA, jT false], jx (g + 1))) ([jA, jT false], jx 0) (by simp) rfl, addN_new (by simp; exact ⟨k3.symm, k1.symm⟩)]
    rfl
  · rw [jL, jD, if_pos rfl, if_pos rfl, later]
    simp only [List.foldl_cons, List.foldl_nil]
    rw [addN_new (acc := []) (by simp), List.nil_append, addN_new (acc := [_]) (by simp; exact k1), List.cons_append, List.nil_append, addN_new (acc := [([jA, jT true, jC, .pat (jS true)], j0), ([jA, jT true], jx (g + 1))]) (s := ([], jx (g + 1))) (by simp; exact ⟨k3, k2⟩)]
    rw [show [([jA, jT true, jC, .pat (jS true)], j0), ([jA, jT true], jx (g + 1))] ++ [(([] : List Frame), jx (g + 1))] = [([jA, jT true, jC, .pat (jS true)], j0), ([jA, jT true], jx (g + 1)), ([], jx (g + 1))] from rfl]
    rw [addN_old (s := ([jA, jT true], jx g)) ([jA, jT true], jx (g + 1)) (by simp) rfl, addN_old (s := ([], jx g)) ([], jx (g + 1)) (by simp) rfl]
theorem jD_later (m : Bool) : later (jD m 0) = jD m 0 := by
  obtain ⟨k1, k2, k3⟩ := j_keys m
  cases m
  · rw [jD, if_neg Bool.false_ne_true, later]
    simp only [List.foldl_cons, List.foldl_nil]
    rw [addN_new (acc := []) (by simp), List.nil_append, addN_new (acc := [_]) (by simp; exact k2.symm), List.cons_append, List.nil_append, addN_new (by simp; exact ⟨k3.symm, k1.symm⟩)]
    rfl
  · rw [jD, if_pos rfl, later]
    simp only [List.foldl_cons, List.foldl_nil]
    rw [addN_new (acc := []) (by simp), List.nil_append, addN_new (acc := [_]) (by simp; exact k1), List.cons_append, List.nil_append, addN_new (by simp; exact ⟨k3, k2⟩)]
    rfl
theorem j_ok : okP 3 (.one "a") = true := by decide +kernel
theorem j_low (m : Bool) : (∀ M, low8 ([jA, jT m, jC, .pat (jS m)], M)) ∧ (∀ M, low8 ([jA, jT m], M)) ∧ ∀ M, low8 (([] : List Frame), M) := by
  refine ⟨fun M => low_of ?_, fun M => low_of ?_, fun M => low_of ?_⟩
  · intro f hf
    simp at hf
    rcases hf with rfl | rfl | rfl | rfl <;> first | rfl | exact j_ok
  · intro f hf
    simp at hf
    rcases hf with rfl | rfl <;> first | rfl | exact j_ok
  · intro f hf; cases hf
theorem jL_tame (m : Bool) (g : Nat) : tame (jL m g) = true := by
  obtain ⟨l1, l2, l3⟩ := j_low m
  refine tame_iff.mpr ⟨by rw [jL]; split <;> simp, fun s hs => ?_⟩
  rw [jL] at hs
  split at hs
  · simp at hs
    rcases hs with rfl | rfl | rfl | rfl | rfl
    · exact l1 _
    · exact l2 _
    · exact l3 _
    · exact l2 _
    · exact l3 _
  · simp at hs
    rcases hs with rfl | rfl | rfl | rfl | rfl
    · exact l3 _
    · exact l2 _
    · exact l3 _
    · exact l2 _
    · exact l1 _
theorem jD_tame (m : Bool) : tame (jD m 0) = true := by
  obtain ⟨l1, l2, l3⟩ := j_low m
  refine tame_iff.mpr ⟨by rw [jD]; split <;> simp, fun s hs => ?_⟩
  rw [jD] at hs
  split at hs
  · simp at hs
    rcases hs with rfl | rfl | rfl
    · exact l1 _
    · exact l2 _
    · exact l3 _
  · simp at hs
    rcases hs with rfl | rfl | rfl
    · exact l3 _
    · exact l2 _
    · exact l1 _
theorem jD_run (m : Bool) : ∀ (k g : Nat), runD (List.replicate k 97) g (jD m g) = some (jD m (g + k))
  | 0, g => rfl
  | k + 1, g => by
    rw [List.replicate_succ, runD, jD_next, Option.bind_some, if_pos (jL_tame m g), jL_later, jD_run m k (g + 1)]
    rw [show g + 1 + k = g + (k + 1) by omega]
theorem j_first (m : Bool) : firstD (jFirst m) (Txt.mul "a" 400) = some (jD m 400) := by
  rw [firstD, jD_first, Option.bind_some, if_pos (jD_tame m), jD_later, show (400 : Int) = ((400 : Nat) : Int) from rfl, mul_a (by omega), jD_run]
theorem j_head (m : Bool) : headW (waysL (jD m 400)) = .tuple [.tuple [.int 0, .int (if m = true then 400 else 0)]] := by cases m <;> rfl
theorem j_good (m : Bool) : goodAll 1 (jOdd m) ∧ goodAll 1 (jEven m) ∧ goodAll 1 (jFirst m) := by
  cases m
  · refine ⟨?_, ?_, ?_⟩ <;> (unfold goodAll; decide +kernel)
  · refine ⟨?_, ?_, ?_⟩ <;> (unfold goodAll; decide +kernel)
theorem j_groups (m : Bool) : groups (jOdd m) ≤ 1000 ∧ groups (jEven m) ≤ 1000 ∧ groups (jFirst m) ≤ 1000 := by
  cases m
  · refine ⟨?_, ?_, ?_⟩ <;> decide +kernel
  · refine ⟨?_, ?_, ?_⟩ <;> decide +kernel
theorem j_abc {n : Nat} (h : 2 ≤ n) : inAbc 1 (Txt.mul "a" (n : Int)) = true := by
  rw [inAbc, mul_a h, List.all_eq_true]
  intro c hc
  rw [List.eq_of_mem_replicate hc]
  decide +kernel
end

section

/-! ### tables of code objects, and lambdas -/
open LamX in
theorem ExtN.tle {H H' : Hp} (e : ExtN H H') : TLe H H' := fun b xs h => e b _ h fun ps z => by cases z
open LamX in
theorem Lp.ext {H H' : Hp} {v : V} {ds : List PyData} (e : ExtN H H') (h : Lp H v ds) : Lp H' v ds := by
  obtain ⟨a, xs, rfl, h1, h2⟩ := h
  exact ⟨a, xs, rfl, e _ _ h1 (fun ps z => by cases z), h2.mono (ExtN.tle e)⟩
open LamX in
theorem Dr.ext {H H' : Hp} {a l : Addr} {m : Nat} (d : Dr H a l m) (e : ExtN H H') : Dr H' a l m := by
  obtain ⟨⟨c, h1, hc⟩, ⟨ns, hl⟩, ne⟩ := d
  exact ⟨⟨c, e _ _ h1 (fun ps z => by cases z), hc⟩, ⟨ns, e _ _ hl fun ps z => by cases z⟩, ne⟩
open LamX in
theorem tabs_smb {T : List (Addr × Str)} {H H' : Hp} {a l : Addr} {m : Nat} (t : Tabs T H) (d : Dr H a l m) (s : SmB a H H') : Tabs T H' := fun p hp => by
  obtain ⟨c0, ha, _⟩ := d.st
  obtain ⟨ps, h1, h2, h3⟩ := t p hp
  refine ⟨ps, s _ _ (fun z => ?_) h1, h2, fun pos cv hc => ?_⟩
  · rw [z, ha] at h1; cases h1
  · obtain ⟨c, e1, e2⟩ := h3 pos cv hc
    refine ⟨c, e1, s _ _ (fun z => ?_) e2⟩
    rw [z, ha] at e2
    unfold CodeO at e2
    cases e2
open LamX in
theorem tabs_same {T : List (Addr × Str)} {H H' : Hp} (t : Tabs T H) (s : Same H H') : Tabs T H' := t.ext s
theorem passE0 {X : Cx} : Passes (L2.CX X.prog X.w) X C8.E0 := fun _ _ _ _ _ _ _ h => by
  obtain ⟨_, _, _, _, _, _, _, _, _, _, _, _, h⟩ := h
  exact h.elim
/-- told(lambda: ..) -/
def tTold (T : List (Addr × Str)) (K : PySem.W.Frag) (C : Addr) (sp : Sp) (t : TA) : TE := LamX.tLam T (TMany K C) fun E => tCall sp [] E t
open LamX in
theorem pe_told {X : Cx} {k : Nat} {c P C : Addr} {T : List (Addr × Str)} {params : Arguments} {body : Expr} {scope : Scope} {t : XK → TE} {p lpos pos : Pos} (D : Df X.K X.mg "_law_many_told" s_Lmany_told ["_law_work"]) (hme : X.mg "TooMany" = some (.ref C)) (hg : Gl X "_law_many_told")
    (TB : TabB X.base X.mg c P) (hcode : X.env.code = .ref c) (hmT : (P, X.env.qual ++ "<lambda>") ∈ T) (hu : ∀ p ∈ T, p.1 = P → p.2 = X.env.qual ++ "<lambda>") (hr : Room (k + 2) X.A) (L : LamS X.env.scope scope) (hdef : defaultsOf params X.env = ([], []))
    (hbind : ∀ (q : Str) (cl : List (Str × Addr)) (pm cv ctv : Value), bindArgs (PySem.W.kla_fn "<lambda>" q params body scope cl pm cv ctv) ⟨[], []⟩ = pure [])
    (hbody : ∀ (A : Around) (outer : List Env) (s : Shared) (H : Hp) (E : XK) (f c' : Addr), Room k (A.deeper (lamEnv X scope s.heap.objs.size f c')) → PE (lamCx X A outer s H E scope f c') body (t E)) :
    PE X (.Call (.Name "_law_many_told" p) [.Lambda params body scope lpos] [] pos) (tLam T (TMany X.K C) t) := by
  obtain ⟨f, fd, d, b⟩ := D.ex
  obtain ⟨oc, od, dV, kV, doc, pm, an, cdv, ct, osl, rfl, lk, hcd⟩ := d.fn.ex
  exact pe_lamcall (Ng := ["_law_work", "_law_found"]) (a := "_law_work") hg d.mgf d.kp lk hcd b sc_Lmany_told rfl (Or.inl rfl) (many_gives hme) TB hcode hmT hu hr L hdef hbind hbody
section
variable {T : List (Addr × Str)} {K : PySem.W.Frag} {C : Addr} {t : TA} {σ : L2.St} {H : Hp} {s : Nat} {p : Pat} {z : Str} {r : Option (List Stop)} {Q : VK}
open LamX
theorem told_stops (hT : Tabs T H) (hx : PySem.W.exmOne K (.ref C) (.ref C) = some true) (ha : ∀ H1, ExtN H H1 → EA t σ H1 [.int (s : Int), enc p, .str z]) (g1 : goodAll s p) (g2 : inAbc s z = true) (g3 : z.length ≤ 1000000) (g4 : groups p ≤ 1000) (hr : allF p z = some r)
    (q1 : ∀ S, r = some S → (∀ s ∈ S, okS s) → S.length ≤ 300 → ∀ v H', ExtN H H' → Tabs T H' → Lp H' v (S.map encS) → Q v H') (q2 : r = none → ∀ H', ExtN H H' → Tabs T H' → Q (.str "too many") H') : tTold T K C (sp_stops C) t σ H Q :=
  ⟨hT, fun H1 eN T1 => ha H1 eN H1 (Same.refl _) _ fun vs H2 s2 r2 => by
    have eN2 := eN.trans (ExtN.of s2)
    refine ⟨s, p, z, r, ⟨by rw [List.append_nil]; exact r2, g1, g2, g3, g4⟩, hr, ?_⟩
    cases r with
    | some S => exact fun h1 h2 v H' s' l => ⟨v, rfl, q1 S rfl h1 h2 v H' (eN2.trans (ExtN.of s')) (tabs_same (tabs_same T1 s2) s') l⟩
    | none => exact fun H' s' => ⟨true, hx, fun _ => q2 rfl H' (eN2.trans (ExtN.of s')) (tabs_same (tabs_same T1 s2) s'), fun e => by cases e⟩⟩
theorem told_ways (hT : Tabs T H) (hx : PySem.W.exmOne K (.ref C) (.ref C) = some true) (ha : ∀ H1, ExtN H H1 → EA t σ H1 [.int (s : Int), enc p, .str z]) (g1 : goodAll s p) (g2 : inAbc s z = true) (g3 : z.length ≤ 1000000) (g4 : groups p ≤ 1000) (hr : allF p z = some r)
    (q1 : ∀ S, r = some S → (∀ s ∈ S, okS s) → S.length ≤ 300 → ∀ v H', ExtN H H' → Tabs T H' → Lp H' v ((waysL S).map spans) → Q v H') (q2 : r = none → ∀ H', ExtN H H' → Tabs T H' → Q (.str "too many") H') : tTold T K C (sp_ways C) t σ H Q :=
  ⟨hT, fun H1 eN T1 => ha H1 eN H1 (Same.refl _) _ fun vs H2 s2 r2 => by
    have eN2 := eN.trans (ExtN.of s2)
    refine ⟨s, p, z, r, ⟨by rw [List.append_nil]; exact r2, g1, g2, g3, g4⟩, hr, ?_⟩
    cases r with
    | some S => exact fun h1 h2 v H' s' l => ⟨v, rfl, q1 S rfl h1 h2 v H' (eN2.trans (ExtN.of s')) (tabs_same (tabs_same T1 s2) s') l⟩
    | none => exact fun H' s' => ⟨true, hx, fun _ => q2 rfl H' (eN2.trans (ExtN.of s')) (tabs_same (tabs_same T1 s2) s'), fun e => by cases e⟩⟩
end
/-- a def of the module, its code object at c -/
structure DfC (K : PySem.W.Frag) (mg : Str → Option Value) (x : Str) (st : Stmt) (ps : List Str) (c : Addr) : Prop where
  ex : ∃ (f : Addr) (fd : FuncData), C8.Def K mg x st f fd ∧ Binds K fd ps [] ∧ fd.code = .ref c
/-- .. its promise, nothing raised -/
theorem fn_mkC {K : PySem.W.Frag} {mg : Str → Option Value} {x : Str} {st : Stmt} {ps N : List Str} {P : Program} {w : World} {base : Heap} {k : Nat} {sp : Sp} {c f : Addr} {fd : FuncData} (d : C8.Def K mg x st f fd) (hc : fd.code = .ref c) (S : FnScope N ps (C8.fnScope st)) (len : ∀ vs H Q E, sp vs H Q E → vs.length = ps.length)
    (hbody : ∀ (A : Around) (outer : List Env) (s : Shared) (H : Hp) (vs : List V) (Q : VK) (E : XK), Room k (A.deeper (PyProof.Rows.envOfC x (C8.fnScope st) s.heap.objs.size f (.ref c))) → sp vs H Q E →
      ∃ t, PSs (cxOf C8.CX0 P w K mg base N x (C8.fnScope st) f (.ref c) A outer s H E).nox (C8.fnBody st) t ∧ t { nx := fun _ H' => Q .non H', rt := Q } (start N vs) H) : FnOk P w K mg base C8.CX0 (k + 1) f fd ps sp := by
  obtain ⟨oc, od, dV, kV, doc, pm, an, cdv, ct, osl, rfl, lk, hcd⟩ := d.fn.ex
  have e : cdv = .ref c := hc
  subst e
  refine fn_of lk hcd S len fun A outer s H vs Q E hr hsp => ?_
  obtain ⟨t, h, q⟩ := hbody A outer s H vs Q E hr hsp
  exact ⟨t, h.nox, q⟩
end

section

abbrev s_Ljust_right : Stmt := topS 74
theorem sc_Ljust_right : FnScope ["_law_draw_here", "_law_some", "_law_odd", "_law_even", "_law_pattern_here", "_law_first"] ["_law_draw_here"] (C8.fnScope s_Ljust_right) := C8.fnScope_by (by decide +kernel)
abbrev qJ : Str := ("_law_just_right" : Str) ++ (".<locals>." : Str) ++ ("<lambda>" : Str)
open LamX in
def sp_jr (T : List (Addr × Str)) : Sp := fun vs H Q _ => ∃ (a l : Addr) (m : Nat), vs = [.ref a] ∧ Dr H a l (m + 1) ∧ Tabs T H ∧ ∀ H', Dr H' a l m → Tabs T H' → Q (.bl true) H'
/-- told != "too many" -/
theorem sq_neM {te : TE} {σ : L2.St} {H : Hp} {D : Ends} {t r : TS} (h : te σ H fun x H1 => scal x (.str "too many") = true ∧ ∃ k, V.bl (!decide (x = .str "too many")) = .bl k ∧ (if k = true then t { D with nx := r D } σ H1 else r D σ H1)) :
    tSeq (tIfS (tTest (tOp rNe te (tC (.str "too many")))) t tNext) r D σ H := h
theorem st_neM {te : TE} {σ : L2.St} {H : Hp} {D : Ends} {t : TS} (h : te σ H fun x H1 => scal x (.str "too many") = true ∧ ∃ k, V.bl (!decide (x = .str "too many")) = .bl k ∧ (if k = true then t D σ H1 else D.nx σ H1)) :
    tIfS (tTest (tOp rNe te (tC (.str "too many")))) t tNext D σ H := h
theorem neM_self : scal (.str "too many") (.str "too many") = true ∧ V.bl (!decide (V.str "too many" = .str "too many")) = .bl false := ⟨rfl, by simp⟩
section
variable {t : TA} {σ : L2.St} {H : Hp} {s : Nat} {p : Pat} {z : Str} {E : XK} {C : Addr} {S : List Stop}
theorem el_stops (ha : EA t σ H [.int (s : Int), enc p, .str z]) (g1 : goodAll s p) (g2 : inAbc s z = true) (g3 : z.length ≤ 1000000) (g4 : groups p ≤ 1000) (hr : allF p z = some (some S)) : EL (tCall (sp_stops C) [] E t) σ H (S.map encS) := fun H1 a Q q =>
  ha H1 a _ fun vs H2 s2 r2 => ⟨s, p, z, some S, ⟨by rw [List.append_nil]; exact r2, g1, g2, g3, g4⟩, hr, fun _ _ v H3 s3 l => q v H3 (s2.trans s3) l⟩
theorem et_first (ha : EA t σ H [.int (s : Int), enc p, .str z]) (g1 : goodAll s p) (g2 : inAbc s z = true) (g3 : z.length ≤ 1000000) (g4 : groups p ≤ 1000) (hr : firstD p z = some S) : ET (tCall sp_first_way [] E t) σ H (headW (waysL S)) := fun H1 a Q q =>
  ha H1 a _ fun vs H2 s2 r2 => ⟨s, p, z, S, ⟨by rw [List.append_nil]; exact r2, g1, g2, g3, g4⟩, hr, fun v H3 s3 r3 => q v H3 (s2.trans s3) r3⟩
theorem et_mulS {ta tb : TE} {n : Int} (ha : ET ta σ H (.str z)) (hb : ET tb σ H (.int n)) (ok : MulOk z n) : ET (tOp rMulS ta tb) σ H (.str (Txt.mul z n)) := fun H1 a Q q =>
  ha H1 a _ fun v H2 s2 r2 => hb H2 (a.trans s2) _ fun w H3 s3 r3 => by
    cases r2.str_inv
    cases r3.int_inv
    exact ⟨z, n, rfl, rfl, ok, q _ H3 (s2.trans s3) (.str _)⟩
end
theorem enc_jS (b : Bool) : enc (jS b) = .tuple [.str "again", .tuple [.str "one", .str "a"], .int 0, .none, encWay b] := by simp only [jS, enc]; rfl
theorem enc_jOdd (b : Bool) : enc (jOdd b) = .tuple [.str "row", enc (jS b), enc (jS b)] := by simp only [jOdd, enc, encs]
theorem enc_jEven (b : Bool) : enc (jEven b) = .tuple [.str "any", .tuple [.str "row", enc (jS b), enc (jS b)], .tuple [.str "row", enc (jS b), .tuple [.str "none"]]] := by simp only [jEven, enc, encs]
theorem enc_jFirst (b : Bool) : enc (jFirst b) = .tuple [.str "row", .tuple [.str "group", enc (jS b)], enc (jS b)] := by simp only [jFirst, enc, encs]
theorem mulOk148 : MulOk "a" 148 := by unfold MulOk; decide +kernel
theorem mulOk149 : MulOk "a" 149 := by unfold MulOk; decide +kernel
theorem mulOk400 : MulOk "a" 400 := by unfold MulOk; decide +kernel
section
variable {P : Program} {w : World} {K : PySem.W.Frag} {mg : Str → Option Value} {base : Heap} {c Pc C : Addr} {T : List (Addr × Str)}
open LamX in
theorem c_Ljust_right (X0 : Tx mg) (TMm : TM K mg C) (hx : PySem.W.exmOne K (.ref C) (.ref C) = some true) (D : DfC K mg "_law_just_right" s_Ljust_right ["_law_draw_here"] c) (Dm : Df K mg "_law_many_told" s_Lmany_told ["_law_work"]) (TB : TabB base mg c Pc) (hmT : (Pc, qJ) ∈ T) (hu : ∀ p ∈ T, p.1 = Pc → p.2 = qJ)
    (c_Lpick : C8.Cal P w K mg base 4 "_law_pick" sp_pick []) (c_stops : CalX P w K mg base 224 "stops" (sp_stops C)) (c_ways : CalX P w K mg base 224 "ways" (sp_ways C)) (c_first_way : C8.Cal P w K mg base 224 "first_way" sp_first_way []) : C8.Cal P w K mg base 227 "_law_just_right" (sp_jr T) [] := by
  obtain ⟨fl, fdl, dl, bl, hcl⟩ := D.ex
  refine ⟨fl, fdl, _, [], fn_mkC (k := 226) dl hcl sc_Ljust_right (fun vs H Q E h => by obtain ⟨a, l, m, rfl, _⟩ := h; rfl) (fun A outer s H vs Q E hr h => ?_), dl.mgf, dl.kp, bl, .nil⟩
  obtain ⟨a, l, m, rfl, hd, hT, q⟩ := h
  refine ⟨_, (pss_cons (ps_set (i := 1) sc_Ljust_right.nd rfl (Or.inl rfl) (pe_tup (pa_cons pe_str (pa_cons (pe_tup (pa_cons pe_str (pa_cons pe_str pa_nil))) (pa_cons pe_int (pa_cons pe_non (pa_cons (C8.pe_c c_Lpick hr (by omega) rfl (pa_cons (pv 0) (pa_cons (pe_lst (pa_cons pe_str (pa_cons pe_str pa_nil))) pa_nil))) pa_nil)))))))
    (pss_cons (ps_par (i := 2) (j := 3) rfl sc_Ljust_right.nd rfl rfl (by decide) rfl rfl (pa_cons (pe_tup (pa_cons pe_str (pa_cons (pv 1) (pa_cons (pv 1) pa_nil)))) (pa_cons (pe_tup (pa_cons pe_str (pa_cons (pe_tup (pa_cons pe_str (pa_cons (pv 1) (pa_cons (pv 1) pa_nil)))) (pa_cons (pe_tup (pa_cons pe_str (pa_cons (pv 1) (pa_cons (pe_tup (pa_cons pe_str pa_nil)) pa_nil)))) pa_nil)))) pa_nil)) rfl)
    (pss_cons (ps_if (PW.pt (pw_or (pt_cmpR op_ne (pe_callB (call_len_seqK (K := K) rfl) rfl X0.m_len PySem.boot_len (pa_cons (pe_cX c_stops hr (by omega) rfl passE0 (pa_cons pe_int (pa_cons (pv 3) (pa_cons (pe_op op_mulS pe_str pe_int) pa_nil)))) pa_nil)) pe_int (nomark _)) (pw_or1 (pt_cmpR op_ne (pe_callB (call_len_seqK (K := K) rfl) rfl X0.m_len PySem.boot_len (pa_cons (pe_cX c_stops hr (by omega) rfl passE0 (pa_cons pe_int (pa_cons (pv 2) (pa_cons (pe_op op_mulS pe_str pe_int) pa_nil)))) pa_nil)) pe_int (nomark _))))) (pss_one (ps_ret pe_bl)) pss_nil)
    (pss_cons (ps_for PassesOwn.never rfl (pi_tupK (K := K) rfl (pe_tup (pa_cons (pv 2) (pa_cons (pv 3) pa_nil)))) (pg_name (i := 4) sc_Ljust_right.nd rfl (Or.inr rfl)) (pss_cons (ps_if (pt_cmpR op_ne (pe_told (k := 224) (T := T) (t := fun E => tCall (sp_stops C) [] E (tCons (tC (.int 1)) (tCons (tVar 4) (tCons (tOp rMulS (tC (.str "a")) (tC (.int 149))) tNil)))) Dm TMm.g rfl TB rfl hmT hu hr (lamS_by (sc := C8.fnScope s_Ljust_right) (by decide +kernel)) rfl (fun _ _ _ _ _ => rfl) (fun A outer s H E f c' hr2 => pe_cX c_stops hr2 (by omega) rfl (passes_call (takes_of rfl rfl rfl rfl) fun _ _ _ _ h => h) (pa_cons pe_int (pa_cons (pv 4) (pa_cons (pe_op op_mulS pe_str pe_int) pa_nil))))) pe_str (nomark _)) (pss_one (ps_ret pe_bl)) pss_nil)
    (pss_one (ps_if (pt_cmpR op_ne (pe_told (k := 224) (T := T) (t := fun E => tCall (sp_ways C) [] E (tCons (tC (.int 1)) (tCons (tVar 4) (tCons (tOp rMulS (tC (.str "a")) (tC (.int 149))) tNil)))) Dm TMm.g rfl TB rfl hmT hu hr (lamS_by (sc := C8.fnScope s_Ljust_right) (by decide +kernel)) rfl (fun _ _ _ _ _ => rfl) (fun A outer s H E f c' hr2 => pe_cX c_ways hr2 (by omega) rfl (passes_call (takes_of rfl rfl rfl rfl) fun _ _ _ _ h => h) (pa_cons pe_int (pa_cons (pv 4) (pa_cons (pe_op op_mulS pe_str pe_int) pa_nil))))) pe_str (nomark _)) (pss_one (ps_ret pe_bl)) pss_nil))))
    (pss_cons (ps_set (i := 5) sc_Ljust_right.nd rfl (Or.inl rfl) (C8.pe_c c_first_way hr (by omega) rfl (pa_cons pe_int (pa_cons (pe_tup (pa_cons pe_str (pa_cons (pe_tup (pa_cons pe_str (pa_cons (pv 1) pa_nil))) (pa_cons (pv 1) pa_nil)))) (pa_cons (pe_op op_mulS pe_str pe_int) pa_nil)))))
    (pss_one (ps_ret (pe_cmpR (op_eqK (K := K) rfl hr.units) (pv 5) (pe_tup (pa_cons (pe_tup (pa_cons pe_int (pa_cons (pe_ifExp (pt_cmpR op_eq (pe_ix (ix_tupK (K := K) rfl) (pv 1) pe_int (fun _ _ => rfl)) pe_str (nomark _)) pe_int pe_int) pa_nil))) pa_nil)) (nomark _))))))))), ?_⟩
  have pick : DT a l (m + 1) m (tTup (tCons (tC (.str "again")) (tCons (tTup (tCons (tC (.str "one")) (tCons (tC (.str "a")) tNil))) (tCons (tC (.int 0)) (tCons (tC .non) (tCons (tCall sp_pick [] C8.E0 (tCons (tVar 0) (tCons (tLst (tCons (tC (.str "many")) (tCons (tC (.str "few")) tNil))) tNil))) tNil)))))) [some (.ref a), none, none, none, none, none] H (fun d => ∃ b, d = enc (jS b)) := by
    refine (dt_tup (da_cons (dt_et hd.nt fun _ _ => et_str) (da_cons (dt_et (d := .tuple [.str "one", .str "a"]) hd.nt fun _ _ => et_tup (ea_cons et_str (ea_cons et_str ea_nil)) (by simp)) (da_cons (dt_et hd.nt fun _ _ => et_int (i := 0)) (da_cons (dt_et hd.nt fun _ _ => et_non) (da_cons (dt_pick (ls := [.str "many", .str "few"]) (i := 0) rfl hd.nt (fun _ _ => en_lst (ea_cons et_str (ea_cons et_str ea_nil)) (by simp)) (by simp) (by simp)) da_nil))))) ?_).to ?_
    · rintro ds ⟨_, _, rfl, _, _, _, rfl, _, _, _, rfl, _, _, _, rfl, _, _, _, rfl, _, rfl⟩
      simp
    · rintro d ⟨ds, rfl, _, _, rfl, rfl, _, _, rfl, rfl, _, _, rfl, rfl, _, _, rfl, rfl, _, _, rfl, hm, rfl⟩
      simp only [List.mem_cons, List.not_mem_nil, or_false] at hm
      rcases hm with rfl | rfl
      · exact ⟨true, (enc_jS true).symm⟩
      · exact ⟨false, (enc_jS false).symm⟩
  refine sq_setD pick hd fun v1 H1 d sb1 t1 d1 pd r1 => ?_
  obtain ⟨b, rfl⟩ := pd
  have T1 := tabs_smb hT hd sb1
  obtain ⟨go, ge, gf⟩ := j_good b
  obtain ⟨ko, ke, kf⟩ := j_groups b
  have ab : ∀ n : Nat, 2 ≤ n → inAbc 1 (Txt.mul "a" (n : Int)) = true := fun n h => j_abc h
  have lnn : ∀ n : Nat, 2 ≤ n → n ≤ 1000000 → (Txt.mul "a" (n : Int)).length ≤ 1000000 := fun n h h2 => by rw [mul_a_len h]; exact h2
  refine sq_par (d1 := enc (jOdd b)) (d2 := enc (jEven b)) (σ := [some (.ref a), some v1, none, none, none, none]) (ea_cons (ET.to (et_tup (ea_cons et_str (ea_cons (et_var rfl r1) (ea_cons (et_var rfl r1) ea_nil))) (by simp)) (enc_jOdd b).symm) (ea_cons (ET.to (et_tup (ea_cons et_str (ea_cons (et_tup (ea_cons et_str (ea_cons (et_var rfl r1) (ea_cons (et_var rfl r1) ea_nil))) (by simp)) (ea_cons (et_tup (ea_cons et_str (ea_cons (et_var rfl r1) (ea_cons (et_tup (ea_cons et_str ea_nil) (by simp)) ea_nil))) (by simp)) ea_nil))) (by simp)) (enc_jEven b).symm) ea_nil)) fun v2 v3 H2 s2 r2 r3 => ?_
  have T2 := tabs_same T1 s2
  have d2 := d1.same s2
  have r12 := r1.mono (tle s2)
  obtain ⟨So, hSo, lSo⟩ := j_all_odd b
  obtain ⟨Se, hSe, lSe⟩ := j_all_even b
  refine sq_no (b := false) (σ := [some (.ref a), some v1, some v2, some v3, none, none]) (EB.to (eb_orF (eb_test (et_neI (et_lenL (el_stops (s := 1) (ea_cons et_int (ea_cons (et_var rfl r3) (ea_cons (et_mulS et_str et_int mulOk148) ea_nil))) ge (ab 148 (by omega)) (lnn 148 (by omega) (by omega)) ke hSe)) et_int)) (by rw [List.length_map, lSe]; rfl) (eb_test (et_neI (et_lenL (el_stops (s := 1) (ea_cons et_int (ea_cons (et_var rfl r2) (ea_cons (et_mulS et_str et_int mulOk148) ea_nil))) go (ab 148 (by omega)) (lnn 148 (by omega) (by omega)) ko hSo)) et_int))) (by rw [List.length_map, lSo]; rfl)) rfl fun H3 s3 => ?_
  have T3 := tabs_same T2 s3
  have d3 := d2.same s3
  have r13 := r12.mono (tle s3)
  have r23 := r2.mono (tle s3)
  have r33 := r3.mono (tle s3)
  clear r1 r12 r2 r3 T1 T2 hT d1 d2 hd
  refine sq_forT (ds := [enc (jOdd b), enc (jEven b)]) (σ := [some (.ref a), some v1, some v2, some v3, none, none]) (et_tup (ea_cons (et_var rfl r23) (ea_cons (et_var rfl r33) ea_nil)) (by simp)) fun H4 s4 => ⟨fun i σ' H' => TLe H4 H' ∧ Dr H' a l m ∧ Tabs T H' ∧ ∃ v4, σ' = [some (.ref a), some v1, some v2, some v3, v4, none], ⟨TLe.refl _, d3.same s4, tabs_same T3 s4, none, rfl⟩, fun i σ' H' h => h.1, fun i d v σ' H' hi ⟨i1, i2, i3, v4, e⟩ rv => ?_, fun σ' H' ⟨i1, i2, i3, v4, e⟩ => ?_⟩
  · subst e
    have over : ∃ p, d = enc p ∧ goodAll 1 p ∧ groups p ≤ 1000 ∧ allF p (Txt.mul "a" 149) = some none := by
      match i, hi with
      | 0, hi => cases hi; exact ⟨_, rfl, go, ko, j_over_odd b⟩
      | 1, hi => cases hi; exact ⟨_, rfl, ge, ke, j_over_even b⟩
      | _ + 2, hi => simp at hi
    obtain ⟨p, rfl, gp, kp, hp⟩ := over
    show tSeq _ _ _ [some (.ref a), some v1, some v2, some v3, some v, none] H'
    refine sq_neM (told_stops (s := 1) (p := p) (z := Txt.mul "a" 149) (r := none) i3 hx (fun H5 e5 => ea_cons et_int (ea_cons (et_var rfl (rv.mono (ExtN.tle e5))) (ea_cons (et_mulS et_str et_int mulOk149) ea_nil))) gp (ab 149 (by omega)) (lnn 149 (by omega) (by omega)) kp hp (fun S e => by cases e) fun _ H5 e5 T5 => ⟨rfl, false, neM_self.2, ?_⟩)
    rw [if_neg Bool.false_ne_true]
    refine st_neM (told_ways (s := 1) (p := p) (z := Txt.mul "a" 149) (r := none) T5 hx (fun H6 e6 => ea_cons et_int (ea_cons (et_var rfl ((rv.mono (ExtN.tle e5)).mono (ExtN.tle e6))) (ea_cons (et_mulS et_str et_int mulOk149) ea_nil))) gp (ab 149 (by omega)) (lnn 149 (by omega) (by omega)) kp hp (fun S e => by cases e) fun _ H6 e6 T6 => ⟨rfl, false, neM_self.2, ?_⟩)
    rw [if_neg Bool.false_ne_true]
    exact ⟨(i1.trans (ExtN.tle e5)).trans (ExtN.tle e6), (i2.ext e5).ext e6, T6, _, rfl⟩
  · subst e
    have r14 := (r13.mono (tle s4)).mono i1
    refine sq_set (i := 5) (σ := [some (.ref a), some v1, some v2, some v3, v4, none]) (et_first (s := 1) (p := jFirst b) (z := Txt.mul "a" 400) (S := jD b 400) (ea_cons et_int (ea_cons (ET.to (et_tup (ea_cons et_str (ea_cons (et_tup (ea_cons et_str (ea_cons (et_var rfl r14) ea_nil)) (by simp)) (ea_cons (et_var rfl r14) ea_nil))) (by simp)) (enc_jFirst b).symm) (ea_cons (et_mulS et_str et_int mulOk400) ea_nil))) gf (ab 400 (by omega)) (lnn 400 (by omega) (by omega)) kf (j_first b)) fun v5 H5 s5 r5 => ?_
    rw [j_head] at r5
    have r15 := r14.mono (tle s5)
    rw [enc_jS] at r15
    have hlast : ET (tIf (tTest (tOp rEq (tOp (rIxT K) (tVar 1) (tC (.int 4))) (tC (.str "many")))) (tC (.int 400)) (tC (.int 0))) [some (.ref a), some v1, some v2, some v3, v4, some v5] H5 (.int (if b = true then 400 else 0)) := by
      cases b
      · exact et_ifF (eb_test (et_eqS (x := "few") (y := "many") (et_ix (et_var rfl r15) et_int rfl) et_str)) (by decide +kernel) et_int
      · exact et_ifT (eb_test (et_eqS (x := "many") (y := "many") (et_ix (et_var rfl r15) et_int rfl) et_str)) (by decide +kernel) et_int
    have hsh : SeqAt.shaped (.tuple [.tuple [.int 0, .int (if b = true then 400 else 0)]]) = true := (shp.tup (k := 1) (.cons (.tup (k := 0) (.cons .int (.cons .int .nil))) .nil)).shaped
    refine st_ret (σ := [some (.ref a), some v1, some v2, some v3, v4, some v5]) (et_eqD (K := K) (et_var rfl r5) (et_tup (ea_cons (et_tup (ea_cons et_int (ea_cons hlast ea_nil)) (by simp)) ea_nil) (by simp)) hsh hsh) fun v H' s r => ?_
    have hl0 : PyData.canLay0 (.tuple [.tuple [.int 0, .int (if b = true then 400 else 0)]]) = true := (shp.tup (k := 1) (.cons (.tup (k := 0) (.cons .int (.cons .int .nil))) .nil)).1
    rw [SeqAt.eqv_refl _ hl0] at r
    have e := r.bool_inv
    subst e
    exact q H' ((i2.same s5).same s) (tabs_same (tabs_same i3 s5) s)
end
end

section

abbrev s_law : Stmt := topS 75
theorem sc_law : FnScope ["_law_script", "_law_draw_here", "_law_is_great", "_law_turn", "_law_size", "_law_pattern_here", "_law_text_here", "_law_due", "_law_found", "_law_late", "_law_some", "_law_rest", "_law_marks", "_law_begun", "_law_closed"] ["_law_script"] (C8.fnScope s_law) := C8.fnScope_by (by decide +kernel)
abbrev qL : Str := ("law" : Str) ++ (".<locals>." : Str) ++ ("<lambda>" : Str)
open LamX in
def sp_law (K : PySem.W.Frag) (T : List (Addr × Str)) : Sp := fun vs H Q _ => ∃ (a : Addr) (ns : List Int), vs = [.ref a] ∧ SqL K H a (ns.map V.int) ∧ ns.length ≤ 63 ∧ Tabs T H ∧ ∀ H', Q (.bl true) H'
mutual
theorem groups_le : ∀ (p : Pat) (c : Nat), (num p c).2 ≤ c + partsF p
  | .none, c => by rw [num, partsF]; show c ≤ _; omega
  | .empty, c => by rw [num, partsF]; show c ≤ _; omega
  | .one z, c => by rw [num, partsF]; show c ≤ _; omega
  | .row ps, c => by
    rw [num, partsF]
    have := groupsL_le ps c
    show (nums ps c).2 ≤ _; omega
  | .any ps, c => by
    rw [num, partsF]
    have := groupsL_le ps c
    show (nums ps c).2 ≤ _; omega
  | .again p lo hi m, c => by
    rw [num, partsF]
    have := groups_le p c
    show (num p c).2 ≤ _; omega
  | .group p g, c => by
    rw [num, partsF]
    have := groups_le p (c + 1)
    show (num p (c + 1)).2 ≤ _; omega
theorem groupsL_le : ∀ (ps : List Pat) (c : Nat), (nums ps c).2 ≤ c + partsL ps
  | [], c => by rw [nums, partsL]; show c ≤ _; omega
  | p :: ps, c => by
    rw [nums, partsL]
    have h1 := groups_le p c
    have h2 := groupsL_le ps (num p c).2
    show (nums ps (num p c).2).2 ≤ _; omega
end
section
variable {K : PySem.W.Frag} {a l : Addr} {m m' : Nat} {te tb : TE} {ta : TA} {σ : L2.St} {H : Hp} {p : PyData → Prop} {P : List PyData → Prop}
theorem et_lenQ {i : Nat} {a0 : Addr} {xs : List V} (h0 : σ[i]? = some (some (.ref a0))) (hS : SqL K H a0 xs) : ET (tCB (fun xs H Q => ∃ p ys, xs = [.ref p] ∧ (SqL K H p ys ∨ SqT K H p ys) ∧ Q (.int ys.length) H) (tCons (tVar i) tNil)) σ H (.int (xs.length : Nat)) := fun H1 s Q q =>
  ⟨_, h0, a0, xs, rfl, .inl (Same.seq s hS), q _ H1 (Same.refl _) (.int _)⟩
theorem dt_add1 (h : DT a l m m' tb σ H p) (hp : ∀ d, p d → ∃ i : Int, d = .int i) : DT a l m m' (tOp (rI0 fun i j => .int (i + j)) (tC (.int 1)) tb) σ H (fun d => ∃ i : Int, p (.int i) ∧ d = .int (1 + i)) := fun H1 s d1 Q q =>
  h H1 s d1 _ fun v H2 d s2 d2 pd r2 => by
    obtain ⟨i, rfl⟩ := hp d pd
    cases r2.int_inv
    exact ⟨1, i, rfl, rfl, q _ H2 (.int (1 + i)) s2 d2 ⟨i, pd, rfl⟩ (.int _)⟩
/-- for x in a new list of what is drawn -/
theorem st_forD {g : TG} {tb : TS} {D : Ends} (hi : DA a l m m' ta σ H P) (d0 : Dr H a l m) (hz : ∀ ds, P ds → ds.length ≤ 16000000) (h : ∀ p xs H1 ds, SmB a H H1 → Dr H1 a l m' → P ds → p ≠ a → H1 p = some (.lst xs) → TpA H1 xs ds → ∃ Pv : Nat → L2.St → Hp → Prop, Pv 0 σ H1 ∧ (∀ i σ' H', Pv i σ' H' → TLe H1 H' ∧ H' p = some (.lst xs)) ∧
      (∀ i d v σ' H', ds[i]? = some d → Pv i σ' H' → Tp H' v d → g v σ' H' fun σ2 H2 => tb { D with nx := Pv (i + 1), ct := Pv (i + 1), bk := D.nx } σ2 H2) ∧ ∀ σ' H', Pv ds.length σ' H' → D.nx σ' H') :
    tFor (iList K (tLst ta)) g tb D σ H :=
  hi H (SmB.refl _ _) d0 _ fun xs H1 ds s1 d1 pds rx => by
    refine ⟨sz_ok (by rw [rx.length]; exact hz ds pds), fun p hp => ?_⟩
    have sn : Same H1 (upd H1 p (.lst xs)) := same_new hp _
    have np : p ≠ a := fun e => by
      obtain ⟨c, hc, _⟩ := d1.st
      rw [e, hc] at hp; cases hp
    have rx2 := rx.mono (tle sn)
    obtain ⟨Pv, h0, hT, hs, hd⟩ := h p xs _ ds (s1.trans (smb sn)) (d1.same sn) pds np upd_same rx2
    refine ⟨p, rfl, ⟨xs, SqL.of upd_same⟩, ?_⟩
    refine for_list (K := K) (a := p) (xs := xs) (D := D) Pv h0 (fun i σ' H' _ p => SqL.of (hT i σ' H' p).2) (fun i x σ' H' hx p => ?_) (fun σ' H' p => hd σ' H' (by rw [← rx.length]; exact p))
    obtain ⟨d, hd', rd⟩ := (rx2.mono (hT i σ' H' p).1).get hx
    exact hs i d x σ' H' hd' p rd
/-- [x] * 2 -/
theorem el_rep2 {d : PyData} (h : EN te σ H [d]) : EL (tOp rRep te (tC (.int 2))) σ H [d, d] := fun H1 s Q q =>
  h H1 s _ fun p xs H2 hp s2 hx tx => by
    obtain _ | ⟨r0, _ | _⟩ := tx
    refine ⟨p, 2, _, rfl, rfl, hx, by omega, by omega, sz_ok (by simp), fun p' hp' => q _ _ (s2.trans (same_new hp' _)) ⟨p', _, rfl, upd_same, ?_⟩⟩
    exact .cons (r0.mono (tle (same_new hp' _))) (.cons (r0.mono (tle (same_new hp' _))) .nil)
end
/-- the law's second name: any truth -/
theorem dt_great {K : PySem.W.Frag} {a l a0 : Addr} {m : Nat} {σ : L2.St} {H : Hp} {xs : List V} (hS : SqL K H a0 xs) (h0 : σ[0]? = some (some (.ref a0))) (h1 : σ[1]? = some (some (.ref a))) (hna : ∀ H', SmB a H H' → SqL K H' a0 xs) (nt : ∀ xs, H a ≠ some (.tup xs)) :
    DT a l (m + 1) m (tOrV (tOp rEq (tCB (fun xs H Q => ∃ p ys, xs = [.ref p] ∧ (SqL K H p ys ∨ SqT K H p ys) ∧ Q (.int ys.length) H) (tCons (tVar 0) tNil)) (tC (.int 61)))
      (tAndV (tOp rEq (tOp (rI (fun _ j => 0 < j) fun i j => .int (i % j)) (tCB (fun xs H Q => ∃ p ys, xs = [.ref p] ∧ (SqL K H p ys ∨ SqT K H p ys) ∧ Q (.int ys.length) H) (tCons (tVar 0) tNil)) (tC (.int 8))) (tC (.int 5)))
        (tOp rEq (tCall sp_next [] C8.E0 (tCons (tVar 1) (tCons (tC (.int 3)) tNil))) (tC (.int 0))))) σ H (fun d => ∃ b, d = .bool b) := fun H1 s1 d1 Q q => by
  refine (et_eqI (et_lenQ (K := K) (i := 0) h0 (hna H1 s1)) et_int).use fun v3 H3 s3 r3 => ?_
  have e3 := r3.bool_inv
  subst e3
  refine ⟨_, rfl, ?_⟩
  generalize decide ((xs.length : Int) = 61) = b1
  have dd := d1.same s3
  cases b1 with
  | true => exact iteT (q _ H3 (.bool true) (smb s3) (dd.less (by omega)) ⟨true, rfl⟩ (.bl _))
  | false =>
    refine iteF ?_
    refine (et_eqI (et_mod (et_lenQ (K := K) (i := 0) h0 (Same.seq s3 (hna H1 s1))) et_int (by omega)) et_int).use fun v4 H4 s4 r4 => ?_
    have e4 := r4.bool_inv
    subst e4
    refine ⟨_, rfl, ?_⟩
    generalize decide ((xs.length : Int) % 8 = 5) = b2
    have d4 := dd.same s4
    cases b2 with
    | false => exact iteF (q _ H4 (.bool false) ((smb s3).trans (smb s4)) (d4.less (by omega)) ⟨false, rfl⟩ (.bl _))
    | true =>
      refine iteT ?_
      refine ⟨_, h1, a, l, 3, m, rfl, d4, by omega, fun r H5 hr s5 d5 => ?_⟩
      have hb : scal (.int (r : Nat)) (.int 0) = true := rfl
      refine ⟨hb, q _ H5 (.bool (decide (V.int (r : Nat) = .int 0))) (((smb s3).trans (smb s4)).trans s5) d5 ⟨_, rfl⟩ (.bl _)⟩
open LamX in
theorem sq_jr {T : List (Addr × Str)} {a l : Addr} {m : Nat} {σ : L2.St} {H : Hp} {b : Bool} {D : Ends} {t r : TS} (h2 : σ[2]? = some (some (.bl b))) (h1 : σ[1]? = some (some (.ref a))) (d : Dr H a l (m + 1)) (hT : Tabs T H) (q : ∀ H', Dr H' a l m → Tabs T H' → r D σ H') :
    tSeq (tIfS (tAnd (tB (tVar 2)) (tNot (tB (tCall (sp_jr T) [] C8.E0 (tCons (tVar 1) tNil))))) t tNext) r D σ H := by
  refine ⟨_, h2, b, rfl, ?_⟩
  cases b with
  | false => exact iteF (iteF (q H (d.less (by omega)) hT))
  | true => exact iteT ⟨_, h1, a, l, m, rfl, d, hT, fun H' d' t' => ⟨true, rfl, iteF (q H' d' t')⟩⟩
theorem eb_isNL {σ : L2.St} {H : Hp} {i : Nat} {v : V} {ds : List PyData} (h : σ[i]? = some (some v)) (l : Lp H v ds) : EB (tTest (tOp (fun x y H Q => y = .non ∧ Q (.bl (decide (x = .non))) H) (tVar i) (tC .non))) σ H false := fun H1 a Q q => by
  obtain ⟨p, xs, rfl, _, _⟩ := l
  exact ⟨_, h, rfl, false, by simp, q H1 (Same.refl _)⟩
/-- the scope of the law's comprehension -/
abbrev scB : Scope := { kind := .function, names := [(".0", .local), ("_law_rest", .local), ("_law_marks", .local), ("tuple", .globalImplicit)], isGenerator := false, isCoroutine := false }
/-- what a text of the law is -/
def lawT (n : Nat) (d : PyData) : Prop := ∃ z : Str, d = .str z ∧ inAbc n z = true ∧ z.length ≤ 6
section
variable {P : Program} {w : World} {K : PySem.W.Frag} {mg : Str → Option Value} {base : Heap} {c Pc C : Addr} {T : List (Addr × Str)}
open LamX in
theorem ok_law {fl : Addr} {fdl : FuncData} (dl : C8.Def K mg "law" s_law fl fdl) (hcl : fdl.code = .ref c) (X0 : Tx mg) (TMm : TM K mg C) (hx : PySem.W.exmOne K (.ref C) (.ref C) = some true) (Dm : Df K mg "_law_many_told" s_Lmany_told ["_law_work"]) (TB : TabB base mg c Pc) (hmT : (Pc, qL) ∈ T) (hu : ∀ p ∈ T, p.1 = Pc → p.2 = qL)
    (c_Lnext : C8.Cal P w K mg base 3 "_law_next" sp_next []) (c_Lpick : C8.Cal P w K mg base 4 "_law_pick" sp_pick []) (c_Lpattern : C8.Cal P w K mg base 14 "_law_pattern" (spD 300 2 pre_pattern F_pattern) []) (c_Ltext : C8.Cal P w K mg base 4 "_law_text" (spD 7 2 pre_text F_text) []) (c_Lall_stops : C8.Cal P w K mg base 113 "_law_all_stops" sp_lall []) (c_Lall_ways : C8.Cal P w K mg base 222 "_law_all_ways" (spL 2 F_all_ways) [])
    (c_Ljust_right : C8.Cal P w K mg base 227 "_law_just_right" (sp_jr T) []) (c_stops : CalX P w K mg base 224 "stops" (sp_stops C)) (c_ways : CalX P w K mg base 224 "ways" (sp_ways C)) (c_first_way : C8.Cal P w K mg base 224 "first_way" sp_first_way []) : FnOk P w K mg base C8.CX0 228 fl fdl ["_law_script"] (sp_law K T) := by
  refine fn_mkC (k := 227) dl hcl sc_law (fun vs H Q E h => by obtain ⟨a, ns, rfl, _⟩ := h; rfl) fun A outer s H vs Q E hr h => ?_
  obtain ⟨a0, ns, rfl, hS, hn, hT, q⟩ := h
  refine ⟨_, (pss_cons (ps_set (i := 1) sc_law.nd rfl (Or.inl rfl) (pe_lst (pa_cons (pe_slice (sl_listK (K := K) rfl) (pv 0) po_none (po_some pe_int)) (pa_cons pe_int (pa_cons pe_int pa_nil)))))
    (pss_cons (ps_set (i := 2) sc_law.nd rfl (Or.inl rfl) (pe_or (pe_cmpR op_eq (pe_callB (call_len_seqK (K := K) rfl) rfl X0.m_len PySem.boot_len (pa_cons (pv 0) pa_nil)) pe_int (nomark _)) (pe_one (pe_and (pe_cmpR op_eq (pe_op op_mod (pe_callB (call_len_seqK (K := K) rfl) rfl X0.m_len PySem.boot_len (pa_cons (pv 0) pa_nil)) pe_int) pe_int (nomark _)) (pe_one (pe_cmpR op_eq (C8.pe_c c_Lnext hr (by omega) rfl (pa_cons (pv 1) (pa_cons pe_int pa_nil))) pe_int (nomark _)))))))
    (pss_cons (ps_if (PW.pt (pw_and (pt_val (pv 2)) (pw_and1 (pt_not (pt_val (C8.pe_c c_Ljust_right hr (by omega) rfl (pa_cons (pv 1) pa_nil))))))) (pss_one (ps_ret pe_bl)) pss_nil)
    (pss_cons (ps_for PassesOwn.never rfl (pi_range1 rfl X0.m_range (pa_cons pe_int pa_nil)) (pg_name (i := 3) sc_law.nd rfl (Or.inl rfl)) (pss_cons (ps_set (i := 4) sc_law.nd rfl (Or.inr rfl) (pe_op op_add pe_int (C8.pe_c c_Lpick hr (by omega) rfl (pa_cons (pv 1) (pa_cons (pe_lst (pa_cons pe_int (pa_cons pe_int (pa_cons pe_int (pa_cons pe_int pa_nil))))) pa_nil)))))
    (pss_cons (ps_set (i := 5) sc_law.nd rfl (Or.inr rfl) (C8.pe_c c_Lpattern hr (by omega) rfl (pa_cons (pv 1) (pa_cons (pv 4) (pa_cons pe_int pa_nil)))))
    (pss_one (ps_for PassesOwn.never rfl (pi_listK (K := K) rfl (pe_lst (pa_cons pe_str (pa_cons (C8.pe_c c_Ltext hr (by omega) rfl (pa_cons (pv 1) (pa_cons (pv 4) (pa_cons pe_int pa_nil)))) (pa_cons (C8.pe_c c_Ltext hr (by omega) rfl (pa_cons (pv 1) (pa_cons (pv 4) (pa_cons pe_int pa_nil)))) (pa_cons (C8.pe_c c_Ltext hr (by omega) rfl (pa_cons (pv 1) (pa_cons (pv 4) (pa_cons pe_int pa_nil)))) pa_nil)))))) (pg_name (i := 6) sc_law.nd rfl (Or.inr rfl)) (pss_cons (ps_set (i := 7) sc_law.nd rfl (Or.inl rfl) (C8.pe_c c_Lall_stops hr (by omega) rfl (pa_cons (pv 5) (pa_cons (pv 6) pa_nil))))
    (pss_cons (ps_set (i := 8) sc_law.nd rfl (Or.inl rfl) (pe_told (k := 224) (T := T) (t := fun E => tCall (sp_stops C) [] E (tCons (tVar 4) (tCons (tVar 5) (tCons (tVar 6) tNil)))) Dm TMm.g rfl TB rfl hmT hu (hr.mono (by omega)) (lamS_by (sc := C8.fnScope s_law) (by decide +kernel)) rfl (fun _ _ _ _ _ => rfl) (fun A outer s H E f c' hr2 => pe_cX c_stops hr2 (by omega) rfl (passes_call (takes_of rfl rfl rfl rfl) fun _ _ _ _ h => h) (pa_cons (pv 4) (pa_cons (pv 5) (pa_cons (pv 6) pa_nil))))))
    (pss_cons (ps_set (i := 9) sc_law.nd rfl (Or.inl rfl) (pe_told (k := 224) (T := T) (t := fun E => tCall (sp_ways C) [] E (tCons (tVar 4) (tCons (tVar 5) (tCons (tVar 6) tNil)))) Dm TMm.g rfl TB rfl hmT hu (hr.mono (by omega)) (lamS_by (sc := C8.fnScope s_law) (by decide +kernel)) rfl (fun _ _ _ _ _ => rfl) (fun A outer s H E f c' hr2 => pe_cX c_ways hr2 (by omega) rfl (passes_call (takes_of rfl rfl rfl rfl) fun _ _ _ _ h => h) (pa_cons (pv 4) (pa_cons (pv 5) (pa_cons (pv 6) pa_nil))))))
    (pss_cons (ps_if (pt_cmpR op_isN (pv 7) pe_non (nomark _)) (pss_cons (ps_if (pt_cmpR (op_neK (K := K) rfl hr.units) (pe_lst (pa_cons (pv 8) (pa_cons (pv 9) pa_nil))) (pe_op op_rep (pe_lst (pa_cons pe_str pa_nil)) pe_int) (nomark _)) (pss_one (ps_ret pe_bl)) pss_nil)
    (pss_one ps_continue)) pss_nil)
    (pss_cons (ps_setLc (i := 10) (own := [("_law_rest", 11), ("_law_marks", 12)]) (g := gTup K 2 (gCons (gName 11) (gCons (gName 12) gNil))) rfl sc_law.nd rfl rfl (sw_true rfl rfl rfl (by decide +kernel)) (pi_listK (K := K) rfl (pv 7)) (blkOk_by (N := ["_law_script", "_law_draw_here", "_law_is_great", "_law_turn", "_law_size", "_law_pattern_here", "_law_text_here", "_law_due", "_law_found", "_law_late", "_law_some", "_law_rest", "_law_marks", "_law_begun", "_law_closed"]) (sc := C8.fnScope s_law) (by decide +kernel)) (fun _ _ _ _ _ => (pg_tupK (K := K) (n := 2) rfl rfl (pgs_cons (pg_name (i := 11) sc_law.nd rfl (Or.inl rfl)) (pgs_cons (pg_name (i := 12) sc_law.nd rfl (Or.inl rfl)) pgs_nil)))) (fun _ _ _ _ _ => (pts_one (pt_cmpR (op_eqK (K := K) rfl hr.units) (pv 11) (pe_tup pa_nil) (nomark _)))) (fun _ _ _ _ _ => (pe_callTy (call_tuple_ofK (K := K) rfl) rfl X0.m_tuple (by decide +kernel) (pa_cons (pe_lc (own := [("_law_begun", 13), ("_law_closed", 14)]) (g := gTup K 2 (gCons (gName 13) (gCons (gName 14) gNil))) rfl sc_law.nd (pi_tupK (K := K) rfl (pv 12)) (blkOk_by (N := ["_law_script", "_law_draw_here", "_law_is_great", "_law_turn", "_law_size", "_law_pattern_here", "_law_text_here", "_law_due", "_law_found", "_law_late", "_law_some", "_law_rest", "_law_marks", "_law_begun", "_law_closed"]) (sc := scB) (by decide +kernel)) (fun _ _ _ _ _ => (pg_tupK (K := K) (n := 2) rfl rfl (pgs_cons (pg_name (i := 13) sc_law.nd rfl (Or.inl rfl)) (pgs_cons (pg_name (i := 14) sc_law.nd rfl (Or.inl rfl)) pgs_nil)))) (fun _ _ _ _ _ => pts_nil) (fun _ _ _ _ _ => (pv 14))) pa_nil))))
    (pss_cons (ps_if (PW.pt (pw_or (pt_cmpR (op_neK (K := K) rfl hr.units) (pv 8) (pv 7) (nomark _)) (pw_or (pt_cmpR (op_neK (K := K) rfl hr.units) (pv 9) (pv 10) (nomark _)) (pw_or1 (pt_cmpR (op_neK (K := K) rfl hr.units) (pv 10) (C8.pe_c c_Lall_ways hr (by omega) rfl (pa_cons (pv 5) (pa_cons (pv 6) pa_nil))) (nomark _)))))) (pss_one (ps_ret pe_bl)) pss_nil)
    (pss_one (ps_if (pt_cmpR (op_neK (K := K) rfl hr.units) (C8.pe_c c_first_way hr (by omega) rfl (pa_cons (pv 4) (pa_cons (pv 5) (pa_cons (pv 6) pa_nil)))) (pe_ifExp (pt_cmpR (op_neK (K := K) rfl hr.units) (pv 10) (pe_lst pa_nil) (nomark _)) (pe_ix (ix_listK (K := K) rfl) (pv 10) pe_int (fun _ _ => rfl)) pe_non) (nomark _)) (pss_one (ps_ret pe_bl)) pss_nil)))))))))))))
    (pss_one (ps_ret pe_bl)))))), ?_⟩
  refine ⟨.ref a0, rfl, 63, rfl, a0, _, rfl, hS, fun l hl => ⟨sz_ok (by show 3 ≤ 16000000; omega), fun a ha => ?_⟩⟩
  obtain ⟨ns', hcut⟩ : ∃ ns' : List Int, cutV (ns.map V.int) none (some 63) = ns'.map V.int := ⟨_, by unfold cutV; rw [← List.map_drop, ← List.map_take]⟩
  have ne : l ≠ a := fun e => by rw [← e, upd_same] at ha; cases ha
  have hna : H a = none := by rw [upd_ne ne.symm] at ha; exact ha
  have sN : Same H (upd (upd H l (.lst (cutV (ns.map V.int) none (some 63)))) a (.lst [.ref l, .int 0, .int 0])) := (same_new hl _).trans (same_new ha _)
  have dN : Dr (upd (upd H l (.lst (cutV (ns.map V.int) none (some 63)))) a (.lst [.ref l, .int 0, .int 0])) a l (2 ^ 59 + 1) := ⟨⟨0, upd_same, by omega⟩, ⟨ns', by rw [upd_ne ne, upd_same, hcut]⟩, ne⟩
  have tN := tabs_same hT sN
  have hSN : ∀ H', SmB a (upd (upd H l (.lst (cutV (ns.map V.int) none (some 63)))) a (.lst [.ref l, .int 0, .int 0])) H' → SqL K H' a0 (ns.map V.int) := fun H' s' => Same.seq (fun b o e => s' b o (ne_of_none e hna) (sN b o e)) hS
  revert dN tN hSN
  generalize (upd (upd H l (.lst (cutV (ns.map V.int) none (some 63)))) a (.lst [.ref l, .int 0, .int 0])) = H2
  intro dN tN hSN
  clear sN hna ha hl hS hT hcut
  refine sq_setD (l := l) (i := 2) (σ := [some (.ref a0), some (.ref a), none, none, none, none, none, none, none, none, none, none, none, none, none]) (dt_great (hSN H2 (SmB.refl _ _)) rfl rfl hSN dN.nt) dN fun v2 H3 d sb3 t3 d3 pd r2 => ?_
  obtain ⟨b, rfl⟩ := pd
  have e2 := r2.bool_inv
  subst e2
  have T3 := tabs_smb tN dN sb3
  refine sq_jr (m := 10000) (σ := [some (.ref a0), some (.ref a), some (.bl b), none, none, none, none, none, none, none, none, none, none, none, none]) rfl rfl (d3.less (by omega)) T3 fun H4 d4 T4 => ?_
  clear hSN tN dN sb3 t3 d3 T3 r2
  refine sq_forR (n := 4) (σ := [some (.ref a0), some (.ref a), some (.bl b), none, none, none, none, none, none, none, none, none, none, none, none]) (ea_cons (ET.to et_int rfl) ea_nil) (by omega) fun H5 s5 => ⟨fun i σ' H' => Dr H' a l (400 * (4 - i)) ∧ Tabs T H' ∧ ∃ v3 v4 v5 v6 v7 v8 v9 v10 v11 v12 v13 v14 : Option V, σ' = [some (.ref a0), some (.ref a), some (.bl b), v3, v4, v5, v6, v7, v8, v9, v10, v11, v12, v13, v14], ⟨(d4.same s5).less (by omega), tabs_same T4 s5, none, none, none, none, none, none, none, none, none, none, none, none, rfl⟩, fun i σ' H' hi ⟨i1, i2, v3, v4, v5, v6, v7, v8, v9, v10, v11, v12, v13, v14, e⟩ => ?_, fun σ' H' ⟨i1, i2, v3, v4, v5, v6, v7, v8, v9, v10, v11, v12, v13, v14, e⟩ => ?_⟩
  case refine_2 =>
    subst e
    refine st_ret et_bl fun v H' s r => ?_
    cases r.bool_inv
    exact q H'
  subst e
  show tSeq _ _ _ [some (.ref a0), some (.ref a), some (.bl b), some (.int (i : Nat)), v4, v5, v6, v7, v8, v9, v10, v11, v12, v13, v14] H'
  have hm : 400 * (4 - i) = (400 * (4 - (i + 1)) + 399) + 1 := by omega
  rw [hm] at i1
  /- the size -/
  refine sq_setD (l := l) (i := 4) (m := 400 * (4 - (i + 1)) + 399 + 1) (m' := 400 * (4 - (i + 1)) + 399) (σ := [some (.ref a0), some (.ref a), some (.bl b), some (.int (i : Nat)), v4, v5, v6, v7, v8, v9, v10, v11, v12, v13, v14]) (dt_add1 (dt_pick (i := 1) (ls := [.int 0, .int 1, .int 1, .int 2]) rfl i1.nt (fun _ _ => en_lst (ea_cons et_int (ea_cons et_int (ea_cons et_int (ea_cons et_int ea_nil)))) (by simp)) (by simp) (by simp)) (fun d hd => by
    simp only [List.mem_cons, List.not_mem_nil, or_false] at hd
    rcases hd with rfl | rfl | rfl | rfl <;> exact ⟨_, rfl⟩)) i1 fun w4 H6 d sb6 t6 d6 pd r4 => ?_
  obtain ⟨n, hn1, hn3, rfl⟩ : ∃ n : Nat, 1 ≤ n ∧ n ≤ 3 ∧ d = .int (n : Nat) := by
    obtain ⟨j, hj, rfl⟩ := pd
    simp only [List.mem_cons, List.not_mem_nil, or_false, PyData.int.injEq] at hj
    rcases hj with rfl | rfl | rfl | rfl
    · exact ⟨1, by omega, by omega, rfl⟩
    · exact ⟨2, by omega, by omega, rfl⟩
    · exact ⟨2, by omega, by omega, rfl⟩
    · exact ⟨3, by omega, by omega, rfl⟩
  have e4 := r4.int_inv
  subst e4
  have T6 := tabs_smb i2 i1 sb6
  /- the pattern -/
  have hm2 : 400 * (4 - (i + 1)) + 399 = (400 * (4 - (i + 1)) + 99) + 300 := by omega
  rw [hm2] at d6
  refine sq_setD (l := l) (i := 5) (m := 400 * (4 - (i + 1)) + 99 + 300) (m' := 400 * (4 - (i + 1)) + 99) (σ := [some (.ref a0), some (.ref a), some (.bl b), some (.int (i : Nat)), some (.int (n : Nat)), v5, v6, v7, v8, v9, v10, v11, v12, v13, v14]) (dt_call (k := 300) (n := 2) (pre := pre_pattern) (F := F_pattern) (i := 1) rfl (da_cons (dt_et d6.nt fun _ _ => et_var (i := 4) rfl (.int (n : Nat))) (da_cons (dt_et d6.nt fun _ _ => et_int (i := 8)) da_nil)) (by
    rintro ds ⟨_, _, rfl, rfl, _, _, rfl, rfl, rfl⟩
    exact ⟨rfl, n, rfl, hn1, hn3⟩)) d6 fun w5 H7 d sb7 t7 d7 pd r5 => ?_
  obtain ⟨p, rfl, hp⟩ : ∃ p, d = enc p ∧ drawnP n p := by
    obtain ⟨ds, ⟨_, _, rfl, rfl, _, _, rfl, rfl, rfl⟩, n', p, hs, rfl, hp⟩ := pd
    have es : n' = n := by injection hs with h1; injection h1 with h1; omega
    subst es
    exact ⟨p, rfl, hp⟩
  have T7 := tabs_smb T6 d6 sb7
  have hgr : groups p ≤ 1000 := by
    have h1 := groups_le p 0
    have h2 := hp.1.2.2.2.2.1
    show (num p 0).2 ≤ 1000
    omega
  have hok19 : okP 19 p = true := okP_le hp.2.2 (by decide)
  clear i1 i2 sb6 t6 d6 r4 T6 sb7 t7
  /- the texts -/
  have dtx : ∀ (k : Nat) (m' : Nat), k ≤ 6 → DT a l (m' + 7) m' (tCall (spD 7 2 pre_text F_text) [] C8.E0 (tCons (tVar 1) (tCons (tVar 4) (tCons (tC (.int (k : Nat))) tNil)))) [some (.ref a0), some (.ref a), some (.bl b), some (.int (i : Nat)), some (.int (n : Nat)), some w5, v6, v7, v8, v9, v10, v11, v12, v13, v14] H7 (lawT n) := fun k m' hk => by
    refine (dt_call (k := 7) (n := 2) (pre := pre_text) (F := F_text) (i := 1) rfl (da_cons (dt_et d7.nt fun _ _ => et_var (i := 4) rfl (.int (n : Nat))) (da_cons (dt_et d7.nt fun _ _ => et_int (i := ((k : Nat) : Int))) da_nil)) ?_).to ?_
    · rintro ds ⟨_, _, rfl, rfl, _, _, rfl, rfl, rfl⟩
      exact ⟨rfl, n, k, rfl, hn1, hn3, hk⟩
    · rintro d ⟨ds, ⟨_, _, rfl, rfl, _, _, rfl, rfl, rfl⟩, n', k', z, hs, rfl, h1, h2, h3⟩
      have es : n' = n := by injection hs with h1; injection h1 with h1; omega
      subst es
      exact ⟨z, rfl, h1, h3⟩
  obtain ⟨M0, hM0⟩ : ∃ M0, M0 = 400 * (4 - (i + 1)) + 78 := ⟨_, rfl⟩
  have d7' : Dr H7 a l (M0 + 7 + 7 + 7) := d7.less (by omega)
  have x3 : DT a l (M0 + 7 + 7 + 7) (M0 + 7 + 7) (tCall (spD 7 2 pre_text F_text) [] C8.E0 (tCons (tVar 1) (tCons (tVar 4) (tCons (tC (.int 3)) tNil)))) [some (.ref a0), some (.ref a), some (.bl b), some (.int (i : Nat)), some (.int (n : Nat)), some w5, v6, v7, v8, v9, v10, v11, v12, v13, v14] H7 (lawT n) := dtx 3 (M0 + 7 + 7) (by omega)
  have x6 : ∀ m', DT a l (m' + 7) m' (tCall (spD 7 2 pre_text F_text) [] C8.E0 (tCons (tVar 1) (tCons (tVar 4) (tCons (tC (.int 6)) tNil)))) [some (.ref a0), some (.ref a), some (.bl b), some (.int (i : Nat)), some (.int (n : Nat)), some w5, v6, v7, v8, v9, v10, v11, v12, v13, v14] H7 (lawT n) := fun m' => dtx 6 m' (by omega)
  have x0 : DT a l (M0 + 7 + 7 + 7) (M0 + 7 + 7 + 7) (tC (.str "")) [some (.ref a0), some (.ref a), some (.bl b), some (.int (i : Nat)), some (.int (n : Nat)), some w5, v6, v7, v8, v9, v10, v11, v12, v13, v14] H7 (fun x => x = .str "") := dt_et d7.nt fun _ _ => et_str
  have da := da_cons x0 (da_cons x3 (da_cons (x6 (M0 + 7)) (da_cons (x6 M0) da_nil)))
  refine st_forD da d7' (by
    rintro ds ⟨_, _, rfl, rfl, _, _, rfl, _, _, _, rfl, _, _, _, rfl, _, rfl⟩
    simp) fun pl xs H8 ds sb8 d8 hds npl hpl tx => ?_
  subst hM0
  have hall : ∀ d ∈ ds, lawT n d := by
    obtain ⟨_, _, rfl, rfl, _, _, rfl, q1, _, _, rfl, q2, _, _, rfl, q3, rfl⟩ := hds
    intro d hd
    simp only [List.mem_cons, List.not_mem_nil, or_false] at hd
    rcases hd with rfl | rfl | rfl | rfl
    · exact ⟨"", rfl, rfl, by decide +kernel⟩
    · exact q1
    · exact q2
    · exact q3
  have r58 := r5.mono (sb8.t d7.nt)
  have T8 := tabs_smb T7 d7 sb8
  clear hds r5 T7 d7 dtx sb8
  refine ⟨fun j σ' H' => TLe H8 H' ∧ H' pl = some (.lst xs) ∧ Dr H' a l (400 * (4 - (i + 1)) + 78) ∧ Tabs T H' ∧ ∃ v6 v7 v8 v9 v10 v11 v12 v13 v14 : Option V, σ' = [some (.ref a0), some (.ref a), some (.bl b), some (.int (i : Nat)), some (.int (n : Nat)), some w5, v6, v7, v8, v9, v10, v11, v12, v13, v14], ⟨TLe.refl _, hpl, d8, T8, _, _, _, _, _, _, _, _, _, rfl⟩, fun j σ' H' h => ⟨h.1, h.2.1⟩, fun j d v σ' H' hj ⟨j1, j2, j3, j4, u6, u7, u8, u9, u10, u11, u12, u13, u14, e⟩ rv => ?_, fun σ' H' ⟨j1, j2, j3, j4, u6, u7, u8, u9, u10, u11, u12, u13, u14, e⟩ => ?_⟩
  case refine_2 =>
    subst e
    exact ⟨j3.less (by omega), j4, _, _, _, _, _, _, _, _, _, _, _, _, rfl⟩
  subst e
  obtain ⟨z, rfl, hz1, hz2⟩ := hall d (List.mem_of_getElem? hj)
  have ev := rv.str_inv
  subst ev
  have rp := r58.mono j1
  obtain ⟨r, hall', hr⟩ := plain hp z hz2
  have hz3 : z.length ≤ 1000000 := by omega
  have args : ∀ (s7 s8 s9 : Option V) (H9 : Hp), TLe H' H9 → EA (tCons (tVar 4) (tCons (tVar 5) (tCons (tVar 6) tNil))) [some (.ref a0), some (.ref a), some (.bl b), some (.int (i : Nat)), some (.int (n : Nat)), some w5, some (.str z), s7, s8, s9, u10, u11, u12, u13, u14] H9 [.int (n : Int), enc p, .str z] := fun s7 s8 s9 H9 t9 => ea_cons (et_var rfl (.int _)) (ea_cons (et_var rfl (rp.mono t9)) (ea_cons (et_var rfl (.str _)) ea_nil))
  show tSeq _ _ _ [some (.ref a0), some (.ref a), some (.bl b), some (.int (i : Nat)), some (.int (n : Nat)), some w5, some (.str z), u7, u8, u9, u10, u11, u12, u13, u14] H'
  rcases hr with rfl | ⟨S, L, S', rfl, hG, hL, hW, hD, hH⟩
  · refine sq_of ⟨w5, rfl, .str z, rfl, p, z, w5, .str z, none, rfl, rp, .str _, hok19, hgr, hall', fun H9 s9 => ?_⟩
    show tSeq _ _ _ [some (.ref a0), some (.ref a), some (.bl b), some (.int (i : Nat)), some (.int (n : Nat)), some w5, some (.str z), some .non, u8, u9, u10, u11, u12, u13, u14] H9
    refine sq_of (told_stops (s := n) (p := p) (z := z) (r := none) (tabs_same j4 s9) hx (fun H10 e10 => args _ _ _ H10 ((tle s9).trans (ExtN.tle e10))) hp.1 hz1 hz3 hgr hall' (fun _ e => by cases e) fun _ H10 e10 T10 => ?_)
    show tSeq _ _ _ [some (.ref a0), some (.ref a), some (.bl b), some (.int (i : Nat)), some (.int (n : Nat)), some w5, some (.str z), some .non, some (.str "too many"), u9, u10, u11, u12, u13, u14] H10
    refine sq_of (told_ways (s := n) (p := p) (z := z) (r := none) T10 hx (fun H11 e11 => args _ _ _ H11 (((tle s9).trans (ExtN.tle e10)).trans (ExtN.tle e11))) hp.1 hz1 hz3 hgr hall' (fun _ e => by cases e) fun _ H11 e11 T11 => ?_)
    show tSeq _ _ _ [some (.ref a0), some (.ref a), some (.bl b), some (.int (i : Nat)), some (.int (n : Nat)), some w5, some (.str z), some .non, some (.str "too many"), some (.str "too many"), u10, u11, u12, u13, u14] H11
    refine sq_yes (eb_test (et_isN (d := .none) (et_var rfl .non) et_non)) rfl fun H12 s12 => ?_
    have hsh : SeqAt.shaped (.list [.str "too many", .str "too many"]) = true := by decide +kernel
    refine sq_no (eb_test (et_neL (K := K) (ds := [.str "too many", .str "too many"]) (es := [.str "too many", .str "too many"]) (EN.el (en_lst (ea_cons (et_var rfl (.str _)) (ea_cons (et_var rfl (.str _)) ea_nil)) (by simp))) (el_rep2 (en_lst (ea_cons et_str ea_nil) (by simp))) hsh hsh)) (by decide +kernel) fun H13 s13 => ?_
    have eAll : ExtN H' H13 := ((((ExtN.of s9).trans e10).trans e11).trans (ExtN.of s12)).trans (ExtN.of s13)
    exact ⟨j1.trans (ExtN.tle eAll), eAll _ _ j2 (fun ps q => by cases q), j3.ext eAll, tabs_same (tabs_same T11 s12) s13, _, _, _, _, _, _, _, _, _, rfl⟩
  · refine sq_of ⟨w5, rfl, .str z, rfl, p, z, w5, .str z, some S, rfl, rp, .str _, hok19, hgr, hall', fun hokS hlen w7 H9 s9 l7 => ?_⟩
    show tSeq _ _ _ [some (.ref a0), some (.ref a), some (.bl b), some (.int (i : Nat)), some (.int (n : Nat)), some w5, some (.str z), some w7, u8, u9, u10, u11, u12, u13, u14] H9
    refine sq_of (told_stops (s := n) (p := p) (z := z) (r := some S) (tabs_same j4 s9) hx (fun H10 e10 => args _ _ _ H10 ((tle s9).trans (ExtN.tle e10))) hp.1 hz1 hz3 hgr hall' (fun S2 e _ _ w8 H10 e10 T10 l8 => ?_) fun e => by cases e)
    cases e
    show tSeq _ _ _ [some (.ref a0), some (.ref a), some (.bl b), some (.int (i : Nat)), some (.int (n : Nat)), some w5, some (.str z), some w7, some w8, u9, u10, u11, u12, u13, u14] H10
    refine sq_of (told_ways (s := n) (p := p) (z := z) (r := some S) T10 hx (fun H11 e11 => args _ _ _ H11 (((tle s9).trans (ExtN.tle e10)).trans (ExtN.tle e11))) hp.1 hz1 hz3 hgr hall' (fun S2 e _ _ w9 H11 e11 T11 l9 => ?_) fun e => by cases e)
    cases e
    show tSeq _ _ _ [some (.ref a0), some (.ref a), some (.bl b), some (.int (i : Nat)), some (.int (n : Nat)), some w5, some (.str z), some w7, some w8, some w9, u10, u11, u12, u13, u14] H11
    have l7' := (l7.ext e10).ext e11
    have l8' := l8.ext e11
    have eB : ExtN H' H11 := ((ExtN.of s9).trans e10).trans e11
    refine sq_no (eb_isNL rfl l7') rfl fun H12 s12 => ?_
    refine sq_setL (i := 10) (σ := [some (.ref a0), some (.ref a), some (.bl b), some (.int (i : Nat)), some (.int (n : Nat)), some w5, some (.str z), some w7, some w8, some w9, u10, u11, u12, u13, u14]) (EN.el (en_lcL S encS (fun s => s.1.isEmpty) (fun s => spans s.2) (el_var rfl (l7'.mono s12)) (by omega) fun s hs => lcT2 (by decide) (fun y1 y2 H1 s1 r1 r2 => ?_) fun e y1 y2 H1 s1 r1 r2 => ?_)) fun w10 H13 s13 l10 => ?_
    · have hsh := (okR_shp (hokS s hs).1).shaped
      unfold encR at r1 hsh
      have e := eb_test (et_eqNil (K := K) (ta := tVar 11) (σ := (((wipe [some (.ref a0), some (.ref a), some (.bl b), some (.int (i : Nat)), some (.int (n : Nat)), some w5, some (.str z), some w7, some w8, some w9, u10, u11, u12, u13, u14] [11, 12]).set 11 (some y1)).set 12 (some y2))) (et_var rfl r1) hsh)
      rw [List.isEmpty_map] at e
      exact e
    · unfold encM at r2
      have hM := (hokS s hs).2.1
      refine ET.to (et_tupL (EN.el (en_lcT s.2 (fun x => .tuple [x.1, x.2]) (fun _ => true) (fun x => x.2) (et_var rfl r2) (by omega) fun x hx => lcT2 (by decide) (fun v1 v2 H1 s1 r1 r2 => eb_yes) fun _ v1 v2 H1 s1 r1 r2 => et_var rfl r2))) ?_
      rw [filter_yes]; rfl
    have e1 : (S.filter fun s => s.1.isEmpty).map (fun s => spans s.2) = (waysL S).map spans := by rw [waysL, List.map_map]; rfl
    rw [e1] at l10
    show tSeq _ _ _ [some (.ref a0), some (.ref a), some (.bl b), some (.int (i : Nat)), some (.int (n : Nat)), some w5, some (.str z), some w7, some w8, some w9, some w10, u11, u12, u13, u14] H13
    have s1213 := s12.trans s13
    have shS : SeqAt.shaped (.list (S.map encS)) = true := (shp.lst (k := 23) (.of fun d hd => by
      obtain ⟨s, hs, rfl⟩ := List.mem_map.mp hd
      exact okS_shp (hokS s hs))).shaped
    have shW : SeqAt.shaped (.list ((waysL S).map spans)) = true := (shp.lst (k := 2) (.of fun d hd => by
      obtain ⟨M, hM, rfl⟩ := List.mem_map.mp hd
      obtain ⟨s, hs, rfl⟩ := List.mem_map.mp hM
      exact spans_shp (hokS s (List.mem_filter.mp hs).1).2)).shaped
    have c0 : ∀ {d : PyData}, SeqAt.shaped d = true → PyData.eqv d d = true := fun {d} h => by
      unfold SeqAt.shaped at h
      rw [Bool.and_eq_true] at h
      exact SeqAt.eqv_refl d h.1
    have rpA := (rp.mono (ExtN.tle eB)).mono (tle s1213)
    refine sq_no (b := false) (EB.to (eb_orF (eb_test (et_neL (K := K) (ds := S.map encS) (es := S.map encS) (el_var rfl (l8'.mono s1213)) (el_var rfl (l7'.mono s1213)) shS shS)) (by rw [c0 shS]; rfl) (eb_orF (eb_test (et_neL (K := K) (ds := (waysL S).map spans) (es := (waysL S).map spans) (el_var rfl (l9.mono s1213)) (el_var rfl l10) shW shW)) (by rw [c0 shW]; rfl) (eb_test (et_neL (K := K) (ds := (waysL S).map spans) (es := (waysL S).map spans) (el_var rfl l10) (el_call (F := F_all_ways) (ea_cons (et_var rfl rpA) (ea_cons (et_var rfl (.str _)) ea_nil)) rfl ⟨p, z, L, rfl, hok19, hgr, hz3, hG, hL, hW.symm⟩) shW shW)))) (by rw [c0 shW]; rfl)) rfl fun H14 s14 => ?_
    have s1214 := s1213.trans s14
    have l10' := l10.mono s14
    have eC : ExtN H' H14 := eB.trans (ExtN.of s1214)
    have fin : ∀ H15, Same H14 H15 → TLe H8 H15 ∧ H15 pl = some (.lst xs) ∧ Dr H15 a l (400 * (4 - (i + 1)) + 78) ∧ Tabs T H15 ∧ ∃ v6 v7 v8 v9 v10 v11 v12 v13 v14 : Option V, [some (.ref a0), some (.ref a), some (.bl b), some (.int (i : Nat)), some (.int (n : Nat)), some w5, some (.str z), some w7, some w8, some w9, some w10, u11, u12, u13, u14] = [some (.ref a0), some (.ref a), some (.bl b), some (.int (i : Nat)), some (.int (n : Nat)), some w5, v6, v7, v8, v9, v10, v11, v12, v13, v14] := fun H15 s15 =>
      ⟨(j1.trans (ExtN.tle eC)).trans (tle s15), s15 _ _ (eC _ _ j2 (fun ps q => by cases q)), (j3.ext eC).same s15, tabs_same (tabs_same T11 s1214) s15, _, _, _, _, _, _, _, _, _, rfl⟩
    have rpB := (rp.mono (ExtN.tle eC))
    have fst := et_first (E := C8.E0) (σ := [some (.ref a0), some (.ref a), some (.bl b), some (.int (i : Nat)), some (.int (n : Nat)), some w5, some (.str z), some w7, some w8, some w9, some w10, u11, u12, u13, u14]) (t := tCons (tVar 4) (tCons (tVar 5) (tCons (tVar 6) tNil))) (H := H14) (s := n) (p := p) (z := z) (ea_cons (et_var rfl (.int _)) (ea_cons (et_var rfl rpB) (ea_cons (et_var rfl (.str _)) ea_nil))) hp.1 hz1 hz3 hgr hD
    rw [hH] at fst
    have snd : ET (tIf (tTest (tOp (rNeD K) (tVar 10) (tLst tNil))) (tOp (rIxL K) (tVar 10) (tC (.int 0))) (tC .non)) [some (.ref a0), some (.ref a), some (.bl b), some (.int (i : Nat)), some (.int (n : Nat)), some w5, some (.str z), some w7, some w8, some w9, some w10, u11, u12, u13, u14] H14 (headW (waysL S)) := by
      cases e : waysL S with
      | nil =>
        rw [e] at l10' shW
        exact et_ifF (eb_test (et_neNilL (el_var rfl l10') shW)) rfl et_non
      | cons M Ms =>
        rw [e] at l10' shW
        exact et_ifT (eb_test (et_neNilL (el_var rfl l10') shW)) rfl (et_ixL (el_var rfl l10') et_int atI_0)
    have shH : SeqAt.shaped (headW (waysL S)) = true := by
      cases e : waysL S with
      | nil => exact (by decide +kernel : SeqAt.shaped .none = true)
      | cons M Ms =>
        have hM : M ∈ waysL S := by rw [e]; exact List.mem_cons_self
        obtain ⟨s, hs, rfl⟩ := List.mem_map.mp hM
        exact (spans_shp (hokS s (List.mem_filter.mp hs).1).2).shaped
    exact st_ifF (EB.to (eb_test (et_neD (K := K) fst snd shH shH)) (by rw [c0 shH]; rfl)) fun H15 s15 => fin H15 s15
end
end

section
open PySem.Spec PyProof.Rows
set_option maxHeartbeats 0
/-! the end: what the top leaves, and the law's promise -/
section
variable {K : PySem.W.Frag} {h : Heap} {mg : Str → Option Value}
theorem df_of (X : K.In h) (G : h.Ns mainGlobals mg) (c : He.SaysD hFacts hDefs K) {x : Str} {i : Nat} {ps : List Str} (k kf : Nat) (hd : hDefs[k]? = some (dfd x i)) (hf : hFacts[kf]? = some (.glo x))
    (hb : ∀ (kV doc pm : Value) (an : Option Addr) (cdv ct : Value) (us : List Value), us.length = ps.length → bindArgs (PySem.W.fnOf x x (C8.fnArgs (topS i)) (C8.fnBody (topS i)) (C8.fnScope (topS i)) .none kV doc pm an cdv ct) ⟨us, []⟩ = pure (ps.zip us)) : Df K mg x (topS i) ps := by
  obtain ⟨fd, F⟩ := c.def_ k hd
  have F' : FunD K x x (C8.fnArgs (topS i)) (C8.fnBody (topS i)) (C8.fnScope (topS i)) [] [] (He.fAd K (x, none)) fd := F
  have b := FunD.bindsN (ps := ps) F' hb
  obtain ⟨oc, od, dV, kV, doc, pm, an, cdv, ct, osl, e1, e2, e3, _, _⟩ := F'.ex
  exact ⟨He.fAd K (x, none), fd, ⟨⟨oc, od, dV, kV, doc, pm, an, cdv, ct, osl, e1, e2, e3⟩, He.glo_ok X G (c.fact kf hf), F'.kp⟩, b⟩
/-- .. with its code object -/
theorem dfc_of (X : K.In h) (G : h.Ns mainGlobals mg) (c : He.SaysD hFacts hDefs K) {x : Str} {i : Nat} {ps : List Str} (k kf : Nat) (hd : hDefs[k]? = some (dfd x i)) (hf : hFacts[kf]? = some (.glo x))
    (hb : ∀ (kV doc pm : Value) (an : Option Addr) (cdv ct : Value) (us : List Value), us.length = ps.length → bindArgs (PySem.W.fnOf x x (C8.fnArgs (topS i)) (C8.fnBody (topS i)) (C8.fnScope (topS i)) .none kV doc pm an cdv ct) ⟨us, []⟩ = pure (ps.zip us)) :
    ∃ fd : FuncData, C8.Def K mg x (topS i) (He.ga K x) fd ∧ Binds K fd ps [] ∧ fd.code = .ref (He.codeOf K (x, none)) ∧ ∀ (s : Shared) (us : List Value), us.length = ps.length → BindsTo s fd ⟨us, []⟩ (ps.zip us) := by
  obtain ⟨fd, F⟩ := c.def_ k hd
  have F' : FunD K x x (C8.fnArgs (topS i)) (C8.fnBody (topS i)) (C8.fnScope (topS i)) [] [] (He.fAd K (x, none)) fd := F
  have b := FunD.bindsN (ps := ps) F' hb
  have bA := FunD.bindsA (ps := ps) F' hb
  obtain ⟨oc, od, dV, kV, doc, pm, an, cdv, ct, osl, e1, e2, e3, _, _⟩ := F'.ex
  obtain ⟨cc, hc⟩ := He.codeIn_ref e3
  have hfc : fd.code = .ref cc := by rw [e1]; exact hc
  have e4 : He.codeOf K (x, none) = cc := He.codeOf_eq (p := (x, none)) e2 hfc
  exact ⟨fd, ⟨⟨oc, od, dV, kV, doc, pm, an, cdv, ct, osl, e1, e2, e3⟩, He.glo_ok X G (c.fact kf hf), F'.kp⟩, b, by rw [e4]; exact hfc, bA⟩
theorem tx_of (X : K.In h) (G : h.Ns mainGlobals mg) (c : He.SaysD hFacts hDefs K) : Tx mg where
  m_min := He.free_ok X G (c.fact 0 (f := .free "min") rfl)
  m_max := He.free_ok X G (c.fact 1 (f := .free "max") rfl)
  m_len := He.free_ok X G (c.fact 2 (f := .free "len") rfl)
  m_isinstance := He.free_ok X G (c.fact 3 (f := .free "isinstance") rfl)
  m_int := He.free_ok X G (c.fact 4 (f := .free "int") rfl)
  m_bool := He.free_ok X G (c.fact 5 (f := .free "bool") rfl)
  m_str := He.free_ok X G (c.fact 6 (f := .free "str") rfl)
  m_tuple := He.free_ok X G (c.fact 7 (f := .free "tuple") rfl)
  m_list := He.free_ok X G (c.fact 8 (f := .free "list") rfl)
  m_all := He.free_ok X G (c.fact 9 (f := .free "all") rfl)
  m_sum := He.free_ok X G (c.fact 10 (f := .free "sum") rfl)
  m_zip := He.free_ok X G (c.fact 11 (f := .free "zip") rfl)
  m_range := He.free_ok X G (c.fact 12 (f := .free "range") rfl)
  m_enumerate := He.free_ok X G (c.fact 13 (f := .free "enumerate") rfl)
  g_LETTERS := by
    obtain ⟨t, e⟩ := He.str_ok X G (c.fact 14 (f := .str "LETTERS" "abc") rfl)
    exact ⟨_, e, t, rfl⟩
  g_MOST_PARTS := by
    obtain ⟨t, e⟩ := He.int_ok X G (c.fact 15 (f := .int "MOST_PARTS" 12) rfl)
    exact ⟨_, e, t, rfl⟩
  g_MOST_WEIGHT := by
    obtain ⟨t, e⟩ := He.int_ok X G (c.fact 16 (f := .int "MOST_WEIGHT" 8) rfl)
    exact ⟨_, e, t, rfl⟩
  g_MOST_TIMES := by
    obtain ⟨t, e⟩ := He.int_ok X G (c.fact 17 (f := .int "MOST_TIMES" 3) rfl)
    exact ⟨_, e, t, rfl⟩
  g_MOST_STOPS := by
    obtain ⟨t, e⟩ := He.int_ok X G (c.fact 18 (f := .int "MOST_STOPS" 300) rfl)
    exact ⟨_, e, t, rfl⟩
theorem tm_of (X : K.In h) (G : h.Ns mainGlobals mg) (c : He.SaysD hFacts hDefs K) : TM K mg (He.ga K "TooMany") := by
  obtain ⟨h1, h2, h3, h4⟩ := He.exc_ok (c.fact 25 (f := .exc "TooMany") rfl)
  exact ⟨He.glo_ok X G (c.fact 24 (f := .glo "TooMany") rfl), h1, h2, h3, h4⟩
theorem cc_of (c : He.SaysD hFacts hDefs K) : CC K (He.ga K "Counter") := ⟨He.cls_ok (c.fact 20 (f := .cls "Counter") rfl), He.noat_ok (c.fact 21 (f := .noat "Counter" "many") rfl)⟩
theorem dfm_of (c : He.SaysD hFacts hDefs K) : DfM K (He.ga K "Counter") "numbered" "Counter.numbered" s_numbered ["self", "pattern"] := by
  obtain ⟨fd, F⟩ := c.def_ 62 (d := dfm "numbered" "Counter.numbered" 1) rfl
  have F' : FunD K "numbered" "Counter.numbered" (C8.fnArgs s_numbered) (C8.fnBody s_numbered) (C8.fnScope s_numbered) [] [] (He.ma K (He.ga K "Counter") "numbered") fd := F
  have b := FunD.bindsN (ps := ["self", "pattern"]) F' fun _ _ _ _ _ _ us hl => match us, hl with | [_, _], _ => rfl
  obtain ⟨oc, od, dV, kV, doc, pm, an, cdv, ct, osl, e1, e2, e3, _, _⟩ := F'.ex
  exact ⟨_, fd, He.meth_ok (c.fact 22 (f := .meth "Counter" "numbered") rfl), ⟨oc, od, dV, kV, doc, pm, an, cdv, ct, osl, e1, e2, e3⟩, b⟩
theorem dfi_of (X : K.In h) (G : h.Ns mainGlobals mg) (c : He.SaysD hFacts hDefs K) : DfI K mg (He.ga K "Counter") := by
  obtain ⟨fd, F⟩ := c.def_ 61 (d := dfm "__init__" "Counter.__init__" 0) rfl
  have F' : FunD K "__init__" "Counter.__init__" (C8.fnArgs s___init__) (C8.fnBody s___init__) (C8.fnScope s___init__) [] [] (He.ma K (He.ga K "Counter") "__init__") fd := F
  have b := FunD.bindsN (ps := ["self"]) F' fun _ _ _ _ _ _ us hl => match us, hl with | [_], _ => rfl
  obtain ⟨oc, od, dV, kV, doc, pm, an, cdv, ct, osl, e1, e2, e3, _, _⟩ := F'.ex
  exact ⟨_, fd, He.mkr_ok (c.fact 23 (f := .mkr "Counter") rfl), He.glo_ok X G (c.fact 19 (f := .glo "Counter") rfl), ⟨oc, od, dV, kV, doc, pm, an, cdv, ct, osl, e1, e2, e3⟩, b⟩
end
/-- the law keeps its promise -/
theorem law_ok {P : Program} {w : World} {K : PySem.W.Frag} {h base : Heap} {mg : Str → Option Value} (X : K.In h) (G : h.Ns mainGlobals mg) (c : He.SaysD hFacts hDefs K) {fdl : FuncData} (dl : C8.Def K mg "law" (topS 75) (He.ga K "law") fdl) (hcl : fdl.code = .ref (He.codeOf K ("law", none)))
    (ne : (He.cT K ("law", none)).2 ≠ (He.cT K ("_law_just_right", none)).2) (TL : LamX.TabB base mg (He.cT K ("law", none)).1 (He.cT K ("law", none)).2) (TJ : LamX.TabB base mg (He.cT K ("_law_just_right", none)).1 (He.cT K ("_law_just_right", none)).2) :
    FnOk P w K mg base C8.CX0 228 (He.ga K "law") fdl ["_law_script"] (sp_law K [((He.cT K ("_law_just_right", none)).2, qJ), ((He.cT K ("law", none)).2, qL)]) := by
  have T := tx_of X G c
  have TMm := tm_of X G c
  have TC := cc_of c
  have DM := dfm_of c
  have DI := dfi_of X G c
  have hx : PySem.W.exmOne K (.ref (He.ga K "TooMany")) (.ref (He.ga K "TooMany")) = some true := He.exm_ok (c.fact 26 (f := .exm "TooMany" "TooMany" true) rfl)
  have c_is_number : C8.Cal P w K mg base 1 "is_number" (spT 3 F_is_number) [] := c_is_number T (df_of X G c 0 27 (x := "is_number") (i := 11) (ps := ["thing", "low", "high"]) rfl rfl (fun _ _ _ _ _ _ us hl => match us, hl with | [_, _, _], _ => rfl))
  have c_is_size : C8.Cal P w K mg base 2 "is_size" (spT 1 F_is_size) [] := c_is_size T (df_of X G c 1 28 (x := "is_size") (i := 12) (ps := ["thing"]) rfl rfl (fun _ _ _ _ _ _ us hl => match us, hl with | [_], _ => rfl)) c_is_number
  have c_check_size : C8.Cal P w K mg base 3 "check_size" (spT 1 F_check_size) [] := c_check_size T (df_of X G c 2 29 (x := "check_size") (i := 13) (ps := ["thing"]) rfl rfl (fun _ _ _ _ _ _ us hl => match us, hl with | [_], _ => rfl)) c_is_size
  have c_is_text : C8.Cal P w K mg base 1 "is_text" (spT 2 F_is_text) [] := c_is_text T (df_of X G c 3 30 (x := "is_text") (i := 14) (ps := ["size", "thing"]) rfl rfl (fun _ _ _ _ _ _ us hl => match us, hl with | [_, _], _ => rfl))
  have c_check_text : C8.Cal P w K mg base 2 "check_text" (spT 2 F_check_text) [] := c_check_text T (df_of X G c 4 31 (x := "check_text") (i := 15) (ps := ["size", "thing"]) rfl rfl (fun _ _ _ _ _ _ us hl => match us, hl with | [_, _], _ => rfl)) c_is_text
  have c_is_word_of : C8.Cal P w K mg base 1 "is_word_of" (spT 2 F_is_word_of) [] := c_is_word_of T (df_of X G c 5 32 (x := "is_word_of") (i := 16) (ps := ["thing", "words"]) rfl rfl (fun _ _ _ _ _ _ us hl => match us, hl with | [_, _], _ => rfl))
  have c_is_letters : C8.Cal P w K mg base 2 "is_letters" (spT 2 F_is_letters) [] := c_is_letters T (df_of X G c 6 33 (x := "is_letters") (i := 17) (ps := ["size", "thing"]) rfl rfl (fun _ _ _ _ _ _ us hl => match us, hl with | [_, _], _ => rfl)) c_is_text
  have c_is_form : C8.Cal P w K mg base 27 "is_form" (spT 3 (F_is_form 12)) [] := c_is_form_all T (df_of X G c 8 35 (x := "is_form") (i := 19) (ps := ["size", "thing", "deep"]) rfl rfl (fun _ _ _ _ _ _ us hl => match us, hl with | [_, _, _], _ => rfl)) (df_of X G c 7 34 (x := "is_again") (i := 18) (ps := ["size", "thing", "deep"]) rfl rfl (fun _ _ _ _ _ _ us hl => match us, hl with | [_, _, _], _ => rfl)) c_is_number c_is_word_of c_is_letters 12 (by omega)
  have c_inner_of : C8.Cal P w K mg base 1 "inner_of" (spL 1 F_inner_of) [] := c_inner_of T (df_of X G c 9 36 (x := "inner_of") (i := 20) (ps := ["pattern"]) rfl rfl (fun _ _ _ _ _ _ us hl => match us, hl with | [_], _ => rfl))
  have c_parts_of : C8.Cal P w K mg base 13 "parts_of" (spT 1 (F_parts_of 12)) [] := c_parts_of_all T (df_of X G c 10 37 (x := "parts_of") (i := 21) (ps := ["pattern"]) rfl rfl (fun _ _ _ _ _ _ us hl => match us, hl with | [_], _ => rfl)) c_inner_of 12
  have c_weight_of : C8.Cal P w K mg base 13 "weight_of" (spT 1 (F_weight_of 12)) [] := c_weight_of_all T (df_of X G c 11 38 (x := "weight_of") (i := 22) (ps := ["pattern"]) rfl rfl (fun _ _ _ _ _ _ us hl => match us, hl with | [_], _ => rfl)) c_inner_of 12
  have c_is_pattern : C8.Cal P w K mg base 28 "is_pattern" (spT 2 F_is_pattern) [] := c_is_pattern T (df_of X G c 12 39 (x := "is_pattern") (i := 23) (ps := ["size", "thing"]) rfl rfl (fun _ _ _ _ _ _ us hl => match us, hl with | [_, _], _ => rfl)) c_is_form c_parts_of c_weight_of
  have c_check_pattern : C8.Cal P w K mg base 29 "check_pattern" (spT 2 F_check_pattern) [] := c_check_pattern T (df_of X G c 13 40 (x := "check_pattern") (i := 24) (ps := ["size", "thing"]) rfl rfl (fun _ _ _ _ _ _ us hl => match us, hl with | [_, _], _ => rfl)) c_is_pattern
  have c_check_for : C8.Cal P w K mg base 30 "check_for" (spT 3 F_check_for) [] := c_check_for T (df_of X G c 26 53 (x := "check_for") (i := 40) (ps := ["size", "pattern", "text"]) rfl rfl (fun _ _ _ _ _ _ us hl => match us, hl with | [_, _, _], _ => rfl)) c_check_size c_check_pattern c_check_text
  have MK : C8.Mak P w K mg base 1 "Counter" (He.ga K "Counter") (sp_init (He.ga K "Counter")) [] := mk_counter TC DI
  have M_numbered : C8.Met P w K mg base 19 (He.ga K "Counter") "numbered" (sp_num (He.ga K "Counter") 19) [] := m_numbered_all T TC DM 19
  have c_groups_of : C8.Cal P w K mg base 20 "groups_of" (spT 1 F_groups_of) [] := c_groups_of T TC (df_of X G c 14 41 (x := "groups_of") (i := 28) (ps := ["pattern"]) rfl rfl (fun _ _ _ _ _ _ us hl => match us, hl with | [_], _ => rfl)) MK M_numbered
  have c_first_rest : C8.Cal P w K mg base 20 "first_rest" (spT 1 F_first_rest) [] := c_first_rest T TC (df_of X G c 15 42 (x := "first_rest") (i := 29) (ps := ["pattern"]) rfl rfl (fun _ _ _ _ _ _ us hl => match us, hl with | [_], _ => rfl)) MK M_numbered
  have c_no_marks : C8.Cal P w K mg base 21 "no_marks" (spT 1 F_no_marks) [] := c_no_marks T (df_of X G c 16 43 (x := "no_marks") (i := 30) (ps := ["pattern"]) rfl rfl (fun _ _ _ _ _ _ us hl => match us, hl with | [_], _ => rfl)) c_groups_of
  have c_marked : C8.Cal P w K mg base 1 "marked" (spT 3 F_marked) [] := c_marked (df_of X G c 17 44 (x := "marked") (i := 31) (ps := ["marks", "group", "pair"]) rfl rfl (fun _ _ _ _ _ _ us hl => match us, hl with | [_, _, _], _ => rfl))
  have c_aged : C8.Cal P w K mg base 1 "aged" (spT 1 F_aged) [] := c_aged T (df_of X G c 18 45 (x := "aged") (i := 32) (ps := ["frame"]) rfl rfl (fun _ _ _ _ _ _ us hl => match us, hl with | [_], _ => rfl))
  have c_stops_of : C8.Cal P w K mg base 221 "stops_of" (spL 3 (F_stops 110)) [] := c_stops_of_all T (df_of X G c 20 47 (x := "stops_of") (i := 34) (ps := ["rest", "marks", "place"]) rfl rfl (fun _ _ _ _ _ _ us hl => match us, hl with | [_, _, _], _ => rfl)) (df_of X G c 19 46 (x := "turn_stops") (i := 33) (ps := ["frame", "left", "marks", "place"]) rfl rfl (fun _ _ _ _ _ _ us hl => match us, hl with | [_, _, _, _], _ => rfl)) c_marked c_aged 110
  have c_first_stops : C8.Cal P w K mg base 222 "first_stops" (spL 1 F_first_stops) [] := c_first_stops T (df_of X G c 22 49 (x := "first_stops") (i := 36) (ps := ["pattern"]) rfl rfl (fun _ _ _ _ _ _ us hl => match us, hl with | [_], _ => rfl)) c_stops_of c_first_rest c_no_marks
  have c_stops_behind : C8.Cal P w K mg base 222 "stops_behind" (spL 3 F_stops_behind) [] := c_stops_behind T (df_of X G c 21 48 (x := "stops_behind") (i := 35) (ps := ["stop", "letter", "place"]) rfl rfl (fun _ _ _ _ _ _ us hl => match us, hl with | [_, _, _], _ => rfl)) c_stops_of
  have c_next_stops : C8.Cal P w K mg base 223 "next_stops" (spLL 2 F_next_stops) [] := c_next_stops T (df_of X G c 24 51 (x := "next_stops") (i := 38) (ps := ["some", "letter", "place"]) rfl rfl (fun _ _ _ _ _ _ us hl => match us, hl with | [_, _, _], _ => rfl)) c_stops_behind
  have c_spans_of : C8.Cal P w K mg base 1 "spans_of" (spT 1 F_spans_of) [] := c_spans_of T (df_of X G c 25 52 (x := "spans_of") (i := 39) (ps := ["marks"]) rfl rfl (fun _ _ _ _ _ _ us hl => match us, hl with | [_], _ => rfl))
  have c_first_of : C8.Cal P w K mg base 2 "first_of" (spLT 0 F_first_of) [] := c_first_of T (df_of X G c 30 57 (x := "first_of") (i := 44) (ps := ["some"]) rfl rfl (fun _ _ _ _ _ _ us hl => match us, hl with | [_], _ => rfl)) c_spans_of
  have c_few : CalX P w K mg base 1 "few" (sp_few (He.ga K "TooMany")) := c_few_ok T TMm (df_of X G c 27 54 (x := "few") (i := 41) (ps := ["some"]) rfl rfl (fun _ _ _ _ _ _ us hl => match us, hl with | [_], _ => rfl))
  have c_all_stops : CalX P w K mg base 223 "all_stops" (sp_all (He.ga K "TooMany")) := c_all_stops_ok T (df_of X G c 28 55 (x := "all_stops") (i := 42) (ps := ["pattern", "text"]) rfl rfl (fun _ _ _ _ _ _ us hl => match us, hl with | [_, _], _ => rfl)) c_few c_first_stops c_stops_behind
  have c_stops : CalX P w K mg base 224 "stops" (sp_stops (He.ga K "TooMany")) := c_stops T (df_of X G c 29 56 (x := "stops") (i := 43) (ps := ["size", "pattern", "text"]) rfl rfl (fun _ _ _ _ _ _ us hl => match us, hl with | [_, _, _], _ => rfl)) c_check_for c_all_stops
  have c_ways : CalX P w K mg base 224 "ways" (sp_ways (He.ga K "TooMany")) := c_ways T (df_of X G c 32 59 (x := "ways") (i := 46) (ps := ["size", "pattern", "text"]) rfl rfl (fun _ _ _ _ _ _ us hl => match us, hl with | [_, _, _], _ => rfl)) c_check_for c_all_stops c_spans_of
  have c_without_later : C8.Cal P w K mg base 1 "without_later" (spLL 0 F_without_later) [] := c_without_later T (df_of X G c 23 50 (x := "without_later") (i := 37) (ps := ["some"]) rfl rfl (fun _ _ _ _ _ _ us hl => match us, hl with | [_], _ => rfl))
  have c_first_way : C8.Cal P w K mg base 224 "first_way" (sp_first_way) [] := c_first_way T (df_of X G c 31 58 (x := "first_way") (i := 45) (ps := ["size", "pattern", "text"]) rfl rfl (fun _ _ _ _ _ _ us hl => match us, hl with | [_, _, _], _ => rfl)) c_check_for c_without_later c_first_stops c_next_stops c_first_of
  have c_Lcell_at : C8.Cal P w K mg base 1 "_law_cell_at" (sp_cell) [] := c_Lcell_at T (df_of X G c 33 60 (x := "_law_cell_at") (i := 48) (ps := ["_law_script", "_law_k"]) rfl rfl (fun _ _ _ _ _ _ us hl => match us, hl with | [_, _], _ => rfl))
  have c_Ldraw : C8.Cal P w K mg base 1 "_law_draw" (sp_draw) [] := c_Ldraw T (df_of X G c 34 61 (x := "_law_draw") (i := 49) (ps := ["_law_cell", "_law_k", "_law_bound"]) rfl rfl (fun _ _ _ _ _ _ us hl => match us, hl with | [_, _, _], _ => rfl))
  have c_Lnumber : C8.Cal P w K mg base 2 "_law_number" (sp_number) [] := c_Lnumber T (df_of X G c 35 62 (x := "_law_number") (i := 50) (ps := ["_law_cell", "_law_k", "_law_bound"]) rfl rfl (fun _ _ _ _ _ _ us hl => match us, hl with | [_, _, _], _ => rfl)) c_Ldraw
  have c_Lnext : C8.Cal P w K mg base 3 "_law_next" (sp_next) [] := c_Lnext T (df_of X G c 36 63 (x := "_law_next") (i := 51) (ps := ["_law_draw_here", "_law_bound"]) rfl rfl (fun _ _ _ _ _ _ us hl => match us, hl with | [_, _], _ => rfl)) c_Lcell_at c_Lnumber
  have c_Lpick : C8.Cal P w K mg base 4 "_law_pick" (sp_pick) [] := c_Lpick T (df_of X G c 37 64 (x := "_law_pick") (i := 52) (ps := ["_law_draw_here", "_law_things"]) rfl rfl (fun _ _ _ _ _ _ us hl => match us, hl with | [_, _], _ => rfl)) c_Lnext
  have c_Lmany : C8.Cal P w K mg base 5 "_law_many" (spD 3 1 one1 F_many) [] := c_Lmany T (df_of X G c 39 66 (x := "_law_many") (i := 54) (ps := ["_law_draw_here", "_law_part"]) rfl rfl (fun _ _ _ _ _ _ us hl => match us, hl with | [_, _], _ => rfl)) c_Lpick
  have c_Lletters : C8.Cal P w K mg base 4 "_law_letters" (spD 4 1 pre_size F_letters) [] := c_Lletters T (df_of X G c 38 65 (x := "_law_letters") (i := 53) (ps := ["_law_draw_here", "_law_size"]) rfl rfl (fun _ _ _ _ _ _ us hl => match us, hl with | [_, _], _ => rfl)) c_Lnext
  have c_Ltext : C8.Cal P w K mg base 4 "_law_text" (spD 7 2 pre_text F_text) [] := c_Ltext T (df_of X G c 45 72 (x := "_law_text") (i := 60) (ps := ["_law_draw_here", "_law_size", "_law_most"]) rfl rfl (fun _ _ _ _ _ _ us hl => match us, hl with | [_, _, _], _ => rfl)) c_Lnext
  have c_Lgrown : ∀ d, C8.Cal P w K mg base (d + 5) "_law_grown" (spG d) [] := c_Lgrown_all T (df_of X G c 40 67 (x := "_law_grown") (i := 55) (ps := ["_law_draw_here", "_law_size", "_law_deep"]) rfl rfl (fun _ _ _ _ _ _ us hl => match us, hl with | [_, _, _], _ => rfl)) c_Lnext c_Lpick c_Lletters c_Lmany
  have c_Linner : C8.Cal P w K mg base 1 "_law_inner" (spL 1 F_inner_of) [] := c_Linner T (df_of X G c 41 68 (x := "_law_inner") (i := 56) (ps := ["_law_pattern_here"]) rfl rfl (fun _ _ _ _ _ _ us hl => match us, hl with | [_], _ => rfl))
  have c_Lparts : C8.Cal P w K mg base 13 "_law_parts" (spT 1 (F_parts_of 12)) [] := c_Lparts_all T (df_of X G c 42 69 (x := "_law_parts") (i := 57) (ps := ["_law_pattern_here"]) rfl rfl (fun _ _ _ _ _ _ us hl => match us, hl with | [_], _ => rfl)) c_Linner 12
  have c_Lweight : C8.Cal P w K mg base 13 "_law_weight" (spT 1 (F_weight_of 12)) [] := c_Lweight_all T (df_of X G c 43 70 (x := "_law_weight") (i := 58) (ps := ["_law_pattern_here"]) rfl rfl (fun _ _ _ _ _ _ us hl => match us, hl with | [_], _ => rfl)) c_Linner 12
  have c_Lpattern : C8.Cal P w K mg base 14 "_law_pattern" (spD 300 2 pre_pattern F_pattern) [] := c_Lpattern T (df_of X G c 44 71 (x := "_law_pattern") (i := 59) (ps := ["_law_draw_here", "_law_size", "_law_most"]) rfl rfl (fun _ _ _ _ _ _ us hl => match us, hl with | [_, _, _], _ => rfl)) c_Lgrown c_Lletters c_Lparts c_Lweight
  have c_Lnumbered : C8.Cal P w K mg base 19 "_law_numbered" (sp_lnum 19) [] := c_Lnumbered_all T (df_of X G c 46 73 (x := "_law_numbered") (i := 61) (ps := ["_law_pattern_here", "_law_box"]) rfl rfl (fun _ _ _ _ _ _ us hl => match us, hl with | [_, _], _ => rfl)) 19
  have c_Lgroups : C8.Cal P w K mg base 20 "_law_groups" (spT 1 F_groups_of) [] := c_Lgroups T (df_of X G c 47 74 (x := "_law_groups") (i := 62) (ps := ["_law_pattern_here"]) rfl rfl (fun _ _ _ _ _ _ us hl => match us, hl with | [_], _ => rfl)) c_Lnumbered
  have c_Lwith : C8.Cal P w K mg base 1 "_law_with" (spT 3 F_marked) [] := c_Lwith (df_of X G c 49 76 (x := "_law_with") (i := 64) (ps := ["_law_marks", "_law_group", "_law_pair"]) rfl rfl (fun _ _ _ _ _ _ us hl => match us, hl with | [_, _, _], _ => rfl))
  have c_Lsettled : C8.Cal P w K mg base 1 "_law_settled" (spT 1 F_aged) [] := c_Lsettled T (df_of X G c 48 75 (x := "_law_settled") (i := 63) (ps := ["_law_frame"]) rfl rfl (fun _ _ _ _ _ _ us hl => match us, hl with | [_], _ => rfl))
  have c_Lstops_of : C8.Cal P w K mg base 111 "_law_stops_of" (spL 3 (F_stops 110)) [] := c_Lstops_of_all T (df_of X G c 50 77 (x := "_law_stops_of") (i := 65) (ps := ["_law_rest", "_law_marks", "_law_place"]) rfl rfl (fun _ _ _ _ _ _ us hl => match us, hl with | [_, _, _], _ => rfl)) c_Lwith c_Lsettled 110
  have c_Lfirst_stops : C8.Cal P w K mg base 112 "_law_first_stops" (spL 1 F_first_stops) [] := c_Lfirst_stops T (df_of X G c 51 78 (x := "_law_first_stops") (i := 66) (ps := ["_law_pattern_here"]) rfl rfl (fun _ _ _ _ _ _ us hl => match us, hl with | [_], _ => rfl)) c_Lstops_of c_Lnumbered c_Lgroups
  have c_Lnext_stops : C8.Cal P w K mg base 112 "_law_next_stops" (spLL 2 F_next_stops) [] := c_Lnext_stops T (df_of X G c 52 79 (x := "_law_next_stops") (i := 67) (ps := ["_law_some", "_law_letter", "_law_place"]) rfl rfl (fun _ _ _ _ _ _ us hl => match us, hl with | [_, _, _], _ => rfl)) c_Lstops_of
  have c_Lall_stops : C8.Cal P w K mg base 113 "_law_all_stops" (sp_lall) [] := c_Lall_stops T (df_of X G c 53 80 (x := "_law_all_stops") (i := 68) (ps := ["_law_pattern_here", "_law_text_here"]) rfl rfl (fun _ _ _ _ _ _ us hl => match us, hl with | [_, _], _ => rfl)) c_Lfirst_stops c_Lnext_stops
  have c_Lgone : C8.Cal P w K mg base 221 "_law_gone" (spL 5 (F_gone 100)) [] := (c_Lgone_alls T (df_of X G c 54 81 (x := "_law_gone") (i := 69) (ps := ["_law_pattern_here", "_law_text_here", "_law_at", "_law_spans", "_law_base"]) rfl rfl (fun _ _ _ _ _ _ us hl => match us, hl with | [_, _, _, _, _], _ => rfl)) (df_of X G c 55 82 (x := "_law_gone_all") (i := 70) (ps := ["_law_part", "_law_text_here", "_law_lots", "_law_base"]) rfl rfl (fun _ _ _ _ _ _ us hl => match us, hl with | [_, _, _, _], _ => rfl)) (df_of X G c 56 83 (x := "_law_gone_again") (i := 71) (ps := ["_law_pattern_here", "_law_text_here", "_law_at", "_law_spans", "_law_base", "_law_done"]) rfl rfl (fun _ _ _ _ _ _ us hl => match us, hl with | [_, _, _, _, _, _], _ => rfl)) c_Lwith c_Lgroups 100).1
  have c_Lall_ways : C8.Cal P w K mg base 222 "_law_all_ways" (spL 2 F_all_ways) [] := c_Lall_ways T (df_of X G c 57 84 (x := "_law_all_ways") (i := 72) (ps := ["_law_pattern_here", "_law_text_here"]) rfl rfl (fun _ _ _ _ _ _ us hl => match us, hl with | [_, _], _ => rfl)) c_Lgone c_Lgroups
  have Dm : Df K mg "_law_many_told" s_Lmany_told ["_law_work"] := (df_of X G c 58 85 (x := "_law_many_told") (i := 73) (ps := ["_law_work"]) rfl rfl (fun _ _ _ _ _ _ us hl => match us, hl with | [_], _ => rfl))
  obtain ⟨fdj, dj, bj, hcj, _⟩ := dfc_of X G c 59 86 (x := "_law_just_right") (i := 74) (ps := ["_law_draw_here"]) rfl rfl (fun _ _ _ _ _ _ us hl => match us, hl with | [_], _ => rfl)
  have hJ : ∀ p ∈ [((He.cT K ("_law_just_right", none)).2, qJ), ((He.cT K ("law", none)).2, qL)], p.1 = (He.cT K ("_law_just_right", none)).2 → p.2 = qJ := fun p hp e => by
    simp only [List.mem_cons, List.not_mem_nil, or_false] at hp
    rcases hp with rfl | rfl
    · rfl
    · exact absurd e ne
  have hL : ∀ p ∈ [((He.cT K ("_law_just_right", none)).2, qJ), ((He.cT K ("law", none)).2, qL)], p.1 = (He.cT K ("law", none)).2 → p.2 = qL := fun p hp e => by
    simp only [List.mem_cons, List.not_mem_nil, or_false] at hp
    rcases hp with rfl | rfl
    · exact absurd e.symm ne
    · rfl
  have c_Ljust_right := c_Ljust_right (P := P) (w := w) T TMm hx ⟨_, fdj, dj, bj, hcj⟩ Dm TJ (List.mem_cons_self) hJ c_Lpick c_stops c_ways c_first_way
  exact ok_law dl hcl T TMm hx Dm TL (List.mem_cons_of_mem _ List.mem_cons_self) hL c_Lnext c_Lpick c_Lpattern c_Ltext c_Lall_stops c_Lall_ways c_Ljust_right c_stops c_ways c_first_way
section
open PySem.W PySem.Calls
theorem h_call : WalkO hView hNames (XL hView []) hHook.says HR.toRowW hDef [] fun f vs => PySem.call f vs := by
  refine LamX.walk_ofTsE (l := hLaw) (n := 63) (k := 228) (x := "_law_script") (CX := fun _ => C8.CX0) rfl (by decide) h_dfl ⟨rfl, by decide, by decide⟩ ?F (fun _ _ _ _ _ z => z)
  intro w mg fa h Y G hmg0
  obtain ⟨K, KX, c⟩ := Y
  have hmg : mg ("law" : PySem.Str) = some (.ref fa) := by
    rw [← h_name]
    exact hmg0
  have cD := c.t.d
  obtain ⟨fd, dl, bl, hcl, bA⟩ := dfc_of KX G cD 60 87 (x := "law") (i := 75) (ps := ["_law_script"]) rfl rfl (fun _ _ _ _ _ _ us hl => match us, hl with | [_], _ => rfl)
  have efa : fa = He.ga K "law" := by
    have e := hmg.symm.trans dl.mgf
    injection e with e
    injection e
  subst efa
  have ne : (He.cT K ("law", none)).2 ≠ (He.cT K ("_law_just_right", none)).2 := of_decide_eq_true c.more
  have mJ : (("_law_just_right", none) : He.Defn) ∈ hTabs := List.mem_cons_self
  have mL : (("law", none) : He.Defn) ∈ hTabs := List.mem_cons_of_mem _ List.mem_cons_self
  have both : ∀ {Z : Addr × Addr → Prop}, Z (He.cT K ("_law_just_right", none)) → Z (He.cT K ("law", none)) → ∀ p ∈ [He.cT K ("_law_just_right", none), He.cT K ("law", none)], Z p := fun {Z} h1 h2 p hp => by
    simp only [List.mem_cons, List.not_mem_nil, or_false] at hp
    rcases hp with rfl | rfl
    · exact h1
    · exact h2
  refine ⟨K, KX, fd, [He.cT K ("_law_just_right", none), He.cT K ("law", none)], sp_law K [((He.cT K ("_law_just_right", none)).2, qJ), ((He.cT K ("law", none)).2, qL)], both (Z := fun p => h.get? p.2 = some { cls := .none, data := .fields #[] }) (c.empty _ mJ) (c.empty _ mL), both (Z := fun p => K.lookup p.2 = none) (c.out _ mJ) (c.out _ mL),
    both (Z := fun p => PySem.W.CodeHd h p.1 p.2) (PySem.W.codeHd_of_K KX (c.hd _ mJ)) (PySem.W.codeHd_of_K KX (c.hd _ mL)), fun s v => bA s [v] rfl, fun H a ns hl _ hT hS => ⟨a, ns, rfl, hS, hl, fun p hp => ?_, fun _ => rfl⟩, fun base hK hG hB => law_ok KX G cD dl hcl ne (hB _ (List.mem_cons_of_mem _ List.mem_cons_self)) (hB _ List.mem_cons_self)⟩
  simp only [List.mem_cons, List.not_mem_nil, or_false] at hp
  rcases hp with rfl | rfl
  · exact LamX.TabS.nil (hT _ List.mem_cons_self)
  · exact LamX.TabS.nil (hT _ (List.mem_cons_of_mem _ List.mem_cons_self))
end
end
end PW
theorem PySem.Challenge.cw_patternways_k36_whole_ways_holds : PySem.Challenge.rw_patternways_k36_whole_ways.Holds := by
  exact ⟨PW.h_said, HandSHeadRun.head_any (r := PW.HR) (q := PW.hView) (H := PW.hHook) (ob := PW.hOb) (M := 20000) (loose := PW.hNames) (d := PW.hDef) (kwd := []) PW.hOb_eq PW.h_open PW.h_fence PW.hRun PW.h_def PW.h_the PW.h_kw (by rfl) PW.h_row PW.h_ok PW.h_bare PW.h_prom PW.h_call⟩
