import PyProof.Rows.All
import Wide.All
import OpenK.AllK
import Wide.FinOn
import HandS.ForMost
import HandS.Wide
import HandS.WideBits
import HandS.Style
import HandS.TupAny
import HandS.TupMul
import HandS.Star
import HandS.Conv
import HandS.SortInts
import HandS.Zip
import HandS.SetKeys
import KE.GoesEnum
import KE.KDictCopyH
import PyProof.ConsumeWalk
import PyProof.DictRoadsH
import PyProof.Rows.TupTab
import HandS.ExcInit
import HandS.ExcField
import HandS.WordsExc
import HandS.ClsMeth
import OpenK.KCls
import KE.KDictZip
import HandS.Zip0
import HandS.SortKw
import KE.SortKeyHeap
import KE.KSortKey
import HandS.IsInst
import HandS.SetFor
import HandS.Strs
import HandS.Ends
import PyProof.Rows.RegFStrParts
import PySem.Challenge.RW_botheven_k78_whole_standings_mended
set_option Elab.async false
set_option linter.all false
set_option Elab.async false
set_option linter.all false
set_option maxRecDepth 100000
set_option maxHeartbeats 4000000
/-! The data layer: what a piece of code evaluates to, as data over a heap G that never changes, beside the tracked heap H. -/
namespace Bw
open PySem PySem.Spec PyProof.Rows L2

/-! ### data stays -/
theorem sqT_mono {K : PySem.W.Frag} {G G' : Hp} {a : Addr} {xs : List V} (e : Same G G') (h : SqT K G a xs) : SqT K G' a xs := by
  rcases h with (h | ⟨o, h⟩) | h
  · exact .inl (.inl (e _ _ h))
  · exact .inl (.inr ⟨o, e _ _ h⟩)
  · exact .inr h
section
variable {K : PySem.W.Frag} {G G' : Hp}
mutual
theorem dp_mono (e : Same G G') : ∀ (d : PyData) (v : V), Dp K G v d → Dp K G' v d
  | .none, _, h => by cases h; exact .non
  | .bool b, _, h => by cases h; exact .bl b
  | .int i, _, h => by cases h; exact .int i
  | .str x, _, h => by cases h; exact .str x
  | .list ds, _, h => by
    cases h with
    | lst hs ha => exact .lst (e.seq hs) (dpa_mono e ds _ ha)
  | .tuple ds, _, h => by
    cases h with
    | tup hs ha => exact .tup (sqT_mono e hs) (dpa_mono e ds _ ha)
  | .dict _, _, h => by cases h
theorem dpa_mono (e : Same G G') : ∀ (ds : List PyData) (vs : List V), DpAll K G vs ds → DpAll K G' vs ds
  | [], _, h => by cases h; exact .nil
  | d :: ds, _, h => by
    cases h with
    | cons h1 h2 => exact .cons (dp_mono e d _ h1) (dpa_mono e ds _ h2)
end
end
end Bw
namespace L2
open PySem
section
variable {K : PySem.W.Frag} {G G' : Hp}
theorem DpAll.len : ∀ {ds : List PyData} {vs : List V}, DpAll K G vs ds → vs.length = ds.length
  | [], _, h => by cases h; rfl
  | d :: ds, _, h => by
    cases h with
    | cons h1 h2 => rw [List.length_cons, List.length_cons, DpAll.len h2]
theorem DpAll.get : ∀ {ds : List PyData} {vs : List V} {i : Nat} {d : PyData}, DpAll K G vs ds → ds[i]? = some d → ∃ v, vs[i]? = some v ∧ Dp K G v d
  | [], _, i, d, h, e => by simp at e
  | d0 :: ds, _, i, d, h, e => by
    cases h with
    | @cons v vs _ _ h1 h2 =>
      cases i with
      | zero =>
        have e' : d0 = d := by simpa using e
        subst e'
        exact ⟨v, by simp, h1⟩
      | succ i =>
        obtain ⟨u, eu, hu⟩ := DpAll.get h2 (show ds[i]? = some d by simpa using e)
        exact ⟨u, by simpa using eu, hu⟩
theorem DpAll.app {vs us : List V} {ds es : List PyData} (h : DpAll K G vs ds) (h' : DpAll K G us es) : DpAll K G (vs ++ us) (ds ++ es) := by
  induction ds generalizing vs with
  | nil => cases h; exact h'
  | cons d ds ih =>
    cases h with
    | cons h1 h2 => exact .cons h1 (ih h2)
theorem DpAll.ints : ∀ {ns : List Int} {vs : List V}, DpAll K G vs (ns.map PyData.int) → vs = ns.map V.int
  | [], _, h => by cases h; rfl
  | n :: ns, _, h => by
    cases h with
    | cons h1 h2 =>
      cases h1
      rw [DpAll.ints h2]; rfl
theorem DpAll.ofInts (ns : List Int) : DpAll K G (ns.map V.int) (ns.map PyData.int) := by
  induction ns with
  | nil => exact .nil
  | cons n ns ih => exact .cons (.int n) ih
theorem DpAll.bools : ∀ {ns : List Bool} {vs : List V}, DpAll K G vs (ns.map PyData.bool) → vs = ns.map V.bl
  | [], _, h => by cases h; rfl
  | n :: ns, _, h => by
    cases h with
    | cons h1 h2 =>
      cases h1
      rw [DpAll.bools h2]; rfl
theorem DpAll.of_get : ∀ {ds : List PyData} {vs : List V}, vs.length = ds.length → (∀ (i : Nat) v d, vs[i]? = some v → ds[i]? = some d → Dp K G v d) → DpAll K G vs ds
  | [], [], _, _ => .nil
  | [], _ :: _, h, _ => by simp at h
  | _ :: _, [], h, _ => by simp at h
  | d :: ds, v :: vs, h, f => .cons (f 0 v d (by simp) (by simp)) (DpAll.of_get (by simpa using h) fun i u e hu he => f (i + 1) u e (by simpa using hu) (by simpa using he))
end

end L2
namespace Bw
open PySem PySem.Spec PyProof.Rows L2
/-! ### how the two heaps grow -/
structure Gr (G H G' H' : Hp) : Prop where
  g : Same G G'
  h : Same H H'
  s : Same G' H'
  n : ∀ a, G a = none → H a ≠ none → G' a = none
theorem Gr.refl {G H : Hp} (s : Same G H) : Gr G H G H := ⟨Same.refl _, Same.refl _, s, fun _ h _ => h⟩
theorem Same.some {H H' : Hp} (h : Same H H') {a : Addr} (n : H a ≠ none) : H' a ≠ none := by
  cases e : H a with
  | none => exact absurd e n
  | some o => rw [h a o e]; exact fun z => nomatch z
theorem Gr.trans {G H G1 H1 G2 H2 : Hp} (a : Gr G H G1 H1) (b : Gr G1 H1 G2 H2) : Gr G H G2 H2 :=
  ⟨a.g.trans b.g, a.h.trans b.h, b.s, fun x e n => b.n x (a.n x e n) (Same.some a.h n)⟩
theorem same_new {H : Hp} {p : Addr} {o : HO} (h : H p = none) : Same H (upd H p o) := fun a u e => by
  rw [upd_ne (ne_of_none e h)]; exact e
/-- new data -/
theorem Gr.new {G H : Hp} {p : Addr} {o : HO} (s : Same G H) (h : H p = none) : Gr G H (upd G p o) (upd H p o) := by
  have hg : G p = none := s.free h
  refine ⟨same_new hg, same_new h, fun a u e => ?_, fun a e n => ?_⟩
  · by_cases ha : a = p
    · subst ha
      rw [upd_same] at e ⊢
      exact e
    · rw [upd_ne ha] at e ⊢
      exact s a u e
  · have ha : a ≠ p := fun z => n (by rw [z]; exact h)
    rw [upd_ne ha]; exact e
/-- a new thing that will change -/
theorem Gr.lay {G H : Hp} {p : Addr} {o : HO} (s : Same G H) (h : H p = none) : Gr G H G (upd H p o) :=
  ⟨Same.refl _, same_new h, fun a u e => by rw [upd_ne (ne_of_none (s a u e) h)]; exact s a u e, fun _ e _ => e⟩
/-- a thing of one's own is changed: data stays -/
theorem same_mut {G H : Hp} {p : Addr} {o : HO} (s : Same G H) (h : G p = none) : Same G (upd H p o) := fun a u e => by
  rw [upd_ne (ne_of_none e h)]; exact s a u e
/-- a thing of one's own: not data, and it stands -/
structure Mu (G H : Hp) (p : Addr) (o : HO) : Prop where
  n : G p = none
  h : H p = some o
theorem Mu.gr {G H G' H' : Hp} {p : Addr} {o : HO} (m : Mu G H p o) (g : Gr G H G' H') : Mu G' H' p o :=
  ⟨g.n p m.n (by rw [m.h]; exact fun z => nomatch z), g.h p o m.h⟩
theorem Mu.lay {G H : Hp} {p : Addr} {o : HO} (s : Same G H) (h : H p = none) : Mu G (upd H p o) p o := ⟨s.free h, upd_same⟩
theorem Mu.put {G H : Hp} {p : Addr} {o o' : HO} (m : Mu G H p o) : Mu G (upd H p o') p o' := ⟨m.n, upd_same⟩
theorem Mu.ne {G H : Hp} {p q : Addr} {o o' : HO} (m : Mu G H p o) (h : p ≠ q) : Mu G (upd H q o') p o := ⟨m.n, by rw [upd_ne h]; exact m.h⟩

/-! ### what evaluates to what: from data G within the heap H, and from all that grows of them -/
def ED (K : PySem.W.Frag) (te : TE) (σ : L2.St) (G H : Hp) (d : PyData) : Prop := ∀ G1 H1, Gr G H G1 H1 → ∀ Q : VK, (∀ v G' H', Gr G1 H1 G' H' → Dp K G' v d → Q v H') → te σ H1 Q
def ET (tt : TT) (σ : L2.St) (G H : Hp) (b : Bool) : Prop := ∀ G1 H1, Gr G H G1 H1 → ∀ Q : Bool → Hp → Prop, (∀ G' H', Gr G1 H1 G' H' → Q b H') → tt σ H1 Q
def EA (K : PySem.W.Frag) (ta : TA) (σ : L2.St) (G H : Hp) (ds : List PyData) : Prop := ∀ G1 H1, Gr G H G1 H1 → ∀ Q : List V → Hp → Prop, (∀ vs G' H', Gr G1 H1 G' H' → DpAll K G' vs ds → Q vs H') → ta σ H1 Q
def EO (to : TO) (σ : L2.St) (G H : Hp) (o : Option Int) : Prop := ∀ G1 H1, Gr G H G1 H1 → ∀ Q : Option Int → Hp → Prop, (∀ G' H', Gr G1 H1 G' H' → Q o H') → to σ H1 Q
/-- an operation on two values, of data d and e, gives z -/
def RD (K : PySem.W.Frag) (r : R2) (d e z : PyData) : Prop := ∀ x y G H, Same G H → Dp K G x d → Dp K G y e → ∀ Q : VK, (∀ v G' H', Gr G H G' H' → Dp K G' v z → Q v H') → r x y H Q
def RU (K : PySem.W.Frag) (r : V → Hp → VK → Prop) (d z : PyData) : Prop := ∀ x G H, Same G H → Dp K G x d → ∀ Q : VK, (∀ v G' H', Gr G H G' H' → Dp K G' v z → Q v H') → r x H Q
def RA (K : PySem.W.Frag) (r : List V → Hp → VK → Prop) (ds : List PyData) (z : PyData) : Prop := ∀ xs G H, Same G H → DpAll K G xs ds → ∀ Q : VK, (∀ v G' H', Gr G H G' H' → Dp K G' v z → Q v H') → r xs H Q
section
variable {K : PySem.W.Frag} {σ : L2.St} {G G' H H' : Hp} {ta tb te : TE} {t u : TT} {d e z : PyData} {r : R2}
theorem ED.mono (g : Gr G H G' H') (h : ED K te σ G H d) : ED K te σ G' H' d := fun G1 H1 g1 Q q => h G1 H1 (g.trans g1) Q q
theorem ET.mono {b : Bool} (g : Gr G H G' H') (h : ET t σ G H b) : ET t σ G' H' b := fun G1 H1 g1 Q q => h G1 H1 (g.trans g1) Q q
theorem EA.mono {ta : TA} {ds : List PyData} (g : Gr G H G' H') (h : EA K ta σ G H ds) : EA K ta σ G' H' ds := fun G1 H1 g1 Q q => h G1 H1 (g.trans g1) Q q
theorem EO.mono {to : TO} {o : Option Int} (g : Gr G H G' H') (h : EO to σ G H o) : EO to σ G' H' o := fun G1 H1 g1 Q q => h G1 H1 (g.trans g1) Q q
/-- where it stands -/
theorem ED.now (s : Same G H) (h : ED K te σ G H d) {Q : VK} (q : ∀ v G' H', Gr G H G' H' → Dp K G' v d → Q v H') : te σ H Q := h G H (Gr.refl s) Q q
theorem ET.now {b : Bool} (s : Same G H) (h : ET t σ G H b) {Q : Bool → Hp → Prop} (q : ∀ G' H', Gr G H G' H' → Q b H') : t σ H Q := h G H (Gr.refl s) Q q
theorem EA.now {ta : TA} {ds : List PyData} (s : Same G H) (h : EA K ta σ G H ds) {Q : List V → Hp → Prop} (q : ∀ vs G' H', Gr G H G' H' → DpAll K G' vs ds → Q vs H') : ta σ H Q := h G H (Gr.refl s) Q q
/-- what is the same at every heap -/
theorem ed_any {v : V} (h : ∀ G, Dp K G v d) (ht : ∀ (H : Hp) (Q : VK), Q v H → te σ H Q) : ED K te σ G H d := fun G1 H1 g Q q => ht H1 Q (q v G1 H1 (Gr.refl g.s) (h G1))
theorem ed_var {i : Nat} {v : V} (h : σ[i]? = some (some v)) (r : Dp K G v d) : ED K (tVar i) σ G H d := fun G1 H1 g _ q => ⟨v, h, q v G1 H1 (Gr.refl g.s) (dp_mono g.g _ _ r)⟩
theorem ed_int {i : Int} : ED K (tC (.int i)) σ G H (.int i) := ed_any (fun _ => .int i) fun _ _ q => q
theorem ed_bl {b : Bool} : ED K (tC (.bl b)) σ G H (.bool b) := ed_any (fun _ => .bl b) fun _ _ q => q
theorem ed_str {x : Str} : ED K (tC (.str x)) σ G H (.str x) := ed_any (fun _ => .str x) fun _ _ q => q
theorem ed_non : ED K (tC .non) σ G H .none := ed_any (fun _ => .non) fun _ _ q => q
theorem ed_op (ha : ED K ta σ G H d) (hb : ED K tb σ G H e) (hr : RD K r d e z) : ED K (tOp r ta tb) σ G H z := fun G0 H0 g0 Q q =>
  ha G0 H0 g0 _ fun x G1 H1 g1 hx => hb G1 H1 (g0.trans g1) _ fun y G2 H2 g2 hy => hr x y G2 H2 g2.s (dp_mono g2.g _ _ hx) hy Q fun v G3 H3 g3 hv => q v G3 H3 ((g1.trans g2).trans g3) hv
theorem ed_un {r : V → Hp → VK → Prop} (ha : ED K ta σ G H d) (hr : RU K r d z) : ED K (tUn r ta) σ G H z := fun G0 H0 g0 Q q =>
  ha G0 H0 g0 _ fun x G1 H1 g1 hx => hr x G1 H1 g1.s hx Q fun v G3 H3 g3 hv => q v G3 H3 (g1.trans g3) hv
theorem ea_nil : EA K tNil σ G H [] := fun G1 H1 g _ q => q [] G1 H1 (Gr.refl g.s) .nil
theorem ea_cons {tr : TA} {ds : List PyData} (h : ED K te σ G H d) (hr : EA K tr σ G H ds) : EA K (tCons te tr) σ G H (d :: ds) := fun G0 H0 g0 _ q =>
  h G0 H0 g0 _ fun x G1 H1 g1 hx => hr G1 H1 (g0.trans g1) _ fun xs G2 H2 g2 hxs => q _ G2 H2 (g1.trans g2) (.cons (dp_mono g2.g _ _ hx) hxs)
theorem line_of {n : Nat} (h : n ≤ 100000) : n ≤ sizeLine := Nat.le_trans h (by decide)
theorem line_lt {n : Nat} (h : n < 100000) : n < sizeLine := Nat.lt_of_lt_of_le h (by decide)
theorem ed_tup {ta : TA} {ds : List PyData} (h : EA K ta σ G H ds) (hl : ds.length ≤ 100000) : ED K (tTup ta) σ G H (.tuple ds) := fun G0 H0 g0 _ q =>
  h G0 H0 g0 _ fun xs G1 H1 g1 hx => ⟨line_of (by rw [DpAll.len hx]; exact hl), fun p hp => q _ (upd G1 p (.tup xs)) _ (g1.trans (Gr.new g1.s hp)) (.tup (.of upd_same) (dpa_mono (same_new (g1.s.free hp)) _ _ hx))⟩
theorem ed_lst {ta : TA} {ds : List PyData} (h : EA K ta σ G H ds) (hl : ds.length ≤ 100000) : ED K (tLst ta) σ G H (.list ds) := fun G0 H0 g0 _ q =>
  h G0 H0 g0 _ fun xs G1 H1 g1 hx => ⟨line_of (by rw [DpAll.len hx]; exact hl), fun p hp => q _ (upd G1 p (.lst xs)) _ (g1.trans (Gr.new g1.s hp)) (.lst (.of upd_same) (dpa_mono (same_new (g1.s.free hp)) _ _ hx))⟩
theorem ed_cb {r : List V → Hp → VK → Prop} {ta : TA} {ds : List PyData} (h : EA K ta σ G H ds) (hr : RA K r ds z) : ED K (tCB r ta) σ G H z := fun G0 H0 g0 Q q =>
  h G0 H0 g0 _ fun xs G1 H1 g1 hx => hr xs G1 H1 g1.s hx Q fun v G2 H2 g2 hv => q v G2 H2 (g1.trans g2) hv
/-! tests -/
theorem et_test {b : Bool} (h : ED K te σ G H (.bool b)) : ET (tTest te) σ G H b := fun G0 H0 g0 _ q => h G0 H0 g0 _ fun v G1 H1 g hv => by
  cases hv
  exact ⟨b, rfl, q G1 H1 g⟩
theorem et_B {b : Bool} (h : ED K te σ G H (.bool b)) : ET (tB te) σ G H b := fun G0 H0 g0 _ q => h G0 H0 g0 _ fun v G1 H1 g hv => by
  cases hv
  exact ⟨b, rfl, q G1 H1 g⟩
theorem et_and {a b : Bool} (h1 : ET t σ G H a) (h2 : a = true → ET u σ G H b) : ET (tAnd t u) σ G H (a && b) := fun G0 H0 g0 Q q => h1 G0 H0 g0 _ fun G1 H1 g => by
  cases a with
  | true =>
    rw [if_pos rfl]
    exact h2 rfl G1 H1 (g0.trans g) Q fun G2 H2 g2 => q G2 H2 (g.trans g2)
  | false =>
    rw [if_neg Bool.false_ne_true]
    exact q G1 H1 g
theorem et_or {a b : Bool} (h1 : ET t σ G H a) (h2 : a = false → ET u σ G H b) : ET (tOr t u) σ G H (a || b) := fun G0 H0 g0 Q q => h1 G0 H0 g0 _ fun G1 H1 g => by
  cases a with
  | true =>
    rw [if_pos rfl]
    exact q G1 H1 g
  | false =>
    rw [if_neg Bool.false_ne_true]
    exact h2 rfl G1 H1 (g0.trans g) Q fun G2 H2 g2 => q G2 H2 (g.trans g2)
theorem et_not {a : Bool} (h1 : ET t σ G H a) : ET (tNot t) σ G H (!a) := fun G0 H0 g0 _ q => h1 G0 H0 g0 _ fun G1 H1 g => q G1 H1 g
theorem et_is {a b : Bool} (h : ET t σ G H a) (e : a = b) : ET t σ G H b := e ▸ h
theorem ed_is (h : ED K te σ G H d) (e : d = z) : ED K te σ G H z := e ▸ h
theorem ea_is {ta : TA} {ds es : List PyData} (h : EA K ta σ G H ds) (e : ds = es) : EA K ta σ G H es := e ▸ h
theorem ed_if {b : Bool} (h : ET t σ G H b) (h1 : b = true → ED K ta σ G H d) (h2 : b = false → ED K tb σ G H d) : ED K (tIf t ta tb) σ G H d := fun G0 H0 g0 Q q => h G0 H0 g0 _ fun G1 H1 g => by
  cases b with
  | true =>
    rw [if_pos rfl]
    exact h1 rfl G1 H1 (g0.trans g) Q fun v G2 H2 g2 hv => q v G2 H2 (g.trans g2) hv
  | false =>
    rw [if_neg Bool.false_ne_true]
    exact h2 rfl G1 H1 (g0.trans g) Q fun v G2 H2 g2 hv => q v G2 H2 (g.trans g2) hv
theorem ed_andV {a b : Bool} (h1 : ED K ta σ G H (.bool a)) (h2 : a = true → ED K tb σ G H (.bool b)) : ED K (tAndV ta tb) σ G H (.bool (a && b)) := fun G0 H0 g0 Q q => h1 G0 H0 g0 _ fun v G1 H1 g hv => by
  cases hv
  refine ⟨a, rfl, ?_⟩
  cases a with
  | true =>
    rw [if_pos rfl]
    exact h2 rfl G1 H1 (g0.trans g) Q fun v G2 H2 g2 hv => q v G2 H2 (g.trans g2) hv
  | false =>
    rw [if_neg Bool.false_ne_true]
    exact q _ G1 H1 g (.bl false)
theorem ed_notV {a : Bool} (h1 : ED K ta σ G H (.bool a)) : ED K (tNotV ta) σ G H (.bool (!a)) := fun G0 H0 g0 _ q => h1 G0 H0 g0 _ fun v G1 H1 g hv => by
  cases hv
  exact ⟨a, rfl, q _ G1 H1 g (.bl _)⟩
theorem ed_isN {b : Bool} (ha : ED K ta σ G H d) (hb : b = (match d with | .none => true | _ => false)) : ED K (tIsN ta) σ G H (.bool b) := fun G0 H0 g0 _ q => ha G0 H0 g0 _ fun v G1 H1 g hv => by
  have e : decide (v = .non) = b := by
    subst hb
    cases hv <;> simp
  rw [e]
  exact q _ G1 H1 g (.bl b)
theorem ed_notN {b : Bool} (ha : ED K ta σ G H d) (hb : b = (match d with | .none => false | _ => true)) : ED K (tNotN ta) σ G H (.bool b) := fun G0 H0 g0 _ q => ha G0 H0 g0 _ fun v G1 H1 g hv => by
  have e : (!decide (v = .non)) = b := by
    subst hb
    cases hv <;> simp
  rw [e]
  exact q _ G1 H1 g (.bl b)
/-! operations -/
theorem rd_I0 {g : Int → Int → Int} {i j : Int} : RD K (rI0 fun i j => .int (g i j)) (.int i) (.int j) (.int (g i j)) := fun x y G H s hx hy Q q => by
  cases hx; cases hy
  exact ⟨i, j, rfl, rfl, q _ G H (Gr.refl s) (.int _)⟩
theorem rd_B0 {g : Int → Int → Bool} {i j : Int} : RD K (rI0 fun i j => .bl (g i j)) (.int i) (.int j) (.bool (g i j)) := fun x y G H s hx hy Q q => by
  cases hx; cases hy
  exact ⟨i, j, rfl, rfl, q _ G H (Gr.refl s) (.bl _)⟩
theorem rd_I {C : Int → Int → Prop} {g : Int → Int → Int} {i j : Int} (hc : C i j) : RD K (rI C fun i j => .int (g i j)) (.int i) (.int j) (.int (g i j)) := fun x y G H s hx hy Q q => by
  cases hx; cases hy
  exact ⟨i, j, rfl, rfl, hc, q _ G H (Gr.refl s) (.int _)⟩
theorem ru_I {g : Int → Int} {i : Int} : RU K (rU fun i => .int (g i)) (.int i) (.int (g i)) := fun x G H s hx Q q => by
  cases hx
  exact ⟨i, rfl, q _ G H (Gr.refl s) (.int _)⟩
theorem rd_eqI {i j : Int} : RD K rEq (.int i) (.int j) (.bool (decide (i = j))) := fun x y G H s hx hy Q q => by
  cases hx; cases hy
  refine ⟨rfl, ?_⟩
  have e : decide (V.int i = V.int j) = decide (i = j) := by simp
  rw [e]
  exact q _ G H (Gr.refl s) (.bl _)
theorem rd_neI {i j : Int} : RD K rNe (.int i) (.int j) (.bool (!decide (i = j))) := fun x y G H s hx hy Q q => by
  cases hx; cases hy
  refine ⟨rfl, ?_⟩
  have e : decide (V.int i = V.int j) = decide (i = j) := by simp
  rw [e]
  exact q _ G H (Gr.refl s) (.bl _)
theorem rd_neS {i j : Str} : RD K rNe (.str i) (.str j) (.bool (!decide (i = j))) := fun x y G H s hx hy Q q => by
  cases hx; cases hy
  refine ⟨rfl, ?_⟩
  have e : decide (V.str i = V.str j) = decide (i = j) := by simp
  rw [e]
  exact q _ G H (Gr.refl s) (.bl _)
theorem rd_eqD (h1 : SeqAt.shaped d = true) (h2 : SeqAt.shaped e = true) : RD K (rEqD K) d e (.bool (PyData.eqv d e)) := fun x y G H s hx hy Q q =>
  ⟨d, e, dp_mono s _ _ hx, dp_mono s _ _ hy, h1, h2, q _ G H (Gr.refl s) (.bl _)⟩
theorem rd_neD (h1 : SeqAt.shaped d = true) (h2 : SeqAt.shaped e = true) : RD K (rNeD K) d e (.bool (!PyData.eqv d e)) := fun x y G H s hx hy Q q =>
  ⟨d, e, dp_mono s _ _ hx, dp_mono s _ _ hy, h1, h2, q _ G H (Gr.refl s) (.bl _)⟩
theorem rd_ixL {ds : List PyData} {i : Int} {j : Nat} (hj : ixN ds.length i = some j) (hd : ds[j]? = some z) : RD K (rIxL K) (.list ds) (.int i) z := fun x y G H s hx hy Q q => by
  cases hx with
  | @lst a xs _ hs ha =>
    cases hy
    obtain ⟨v, hv, hz⟩ := ha.get hd
    refine ⟨a, xs, i, v, rfl, rfl, s.seq hs, ?_, q _ G H (Gr.refl s) hz⟩
    unfold atI
    rw [ha.len, hj]
    exact hv
theorem rd_ixT {ds : List PyData} {i : Int} {j : Nat} (hj : ixN ds.length i = some j) (hd : ds[j]? = some z) : RD K (rIxT K) (.tuple ds) (.int i) z := fun x y G H s hx hy Q q => by
  cases hx with
  | @tup a xs _ hs ha =>
    cases hy
    obtain ⟨v, hv, hz⟩ := ha.get hd
    refine ⟨a, xs, i, v, rfl, rfl, sqT_mono s hs, ?_, q _ G H (Gr.refl s) hz⟩
    unfold atI
    rw [ha.len, hj]
    exact hv
theorem ixN_nat {n j : Nat} (h : j < n) : ixN n (j : Int) = some j := by
  unfold ixN
  rw [if_pos (by omega), if_pos (by omega)]
  simp
theorem rd_ixLn {ds : List PyData} {j : Nat} (hd : ds[j]? = some z) : RD K (rIxL K) (.list ds) (.int (j : Int)) z :=
  rd_ixL (ixN_nat (List.getElem?_eq_some_iff.mp hd).1) hd
theorem rd_ixTn {ds : List PyData} {j : Nat} (hd : ds[j]? = some z) : RD K (rIxT K) (.tuple ds) (.int (j : Int)) z :=
  rd_ixT (ixN_nat (List.getElem?_eq_some_iff.mp hd).1) hd
theorem inV_ints (k : Int) (ns : List Int) : inV (.int k) (ns.map V.int) = decide (k ∈ ns) := by
  unfold inV
  rw [List.any_map]
  induction ns with
  | nil => rfl
  | cons n ns ih =>
    rw [List.any_cons, ih]
    show (n == k || decide (k ∈ ns)) = decide (k ∈ n :: ns)
    by_cases h : n = k
    · subst h; simp
    · have h' : ¬ k = n := fun z => h z.symm
      have : (n == k) = false := by simpa using h
      rw [this]
      simp [h']
theorem flat_ints (ns : List Int) : (ns.map V.int).all flatV = true := by
  induction ns with
  | nil => rfl
  | cons n ns ih => rw [List.map_cons, List.all_cons, ih]; rfl
theorem rd_inT {neg : Bool} {k : Int} {ns : List Int} : RD K (rIn K neg) (.int k) (.tuple (ns.map PyData.int)) (.bool (if neg then !decide (k ∈ ns) else decide (k ∈ ns))) := fun x y G H s hx hy Q q => by
  cases hx
  cases hy with
  | @tup a xs _ hs ha =>
    have e := ha.ints
    subst e
    refine ⟨a, _, rfl, .inr (sqT_mono s hs), rfl, flat_ints ns, ?_⟩
    rw [inV_ints]
    exact q _ G H (Gr.refl s) (.bl _)
theorem rd_inL {neg : Bool} {k : Int} {ns : List Int} : RD K (rIn K neg) (.int k) (.list (ns.map PyData.int)) (.bool (if neg then !decide (k ∈ ns) else decide (k ∈ ns))) := fun x y G H s hx hy Q q => by
  cases hx
  cases hy with
  | @lst a xs _ hs ha =>
    have e := ha.ints
    subst e
    refine ⟨a, _, rfl, .inl (s.seq hs), rfl, flat_ints ns, ?_⟩
    rw [inV_ints]
    exact q _ G H (Gr.refl s) (.bl _)
end

/-! ### calls of the program's defs -/
/-- a def whose answer hangs on its arguments' data alone -/
def spD {α : Type} (K : PySem.W.Frag) (P : α → Prop) (args : α → List PyData) (res : α → PyData) : Sp := fun vs H Q _ =>
  ∃ (x : α) (G : Hp), P x ∧ Same G H ∧ DpAll K G vs (args x) ∧ ∀ v G' H', Gr G H G' H' → Dp K G' v (res x) → Q v H'
/-- a def that may be called: its promise, its name -/
def Cal (P : Program) (w : World) (K : PySem.W.Frag) (mg : Str → Option Value) (base : Heap) (CX : CXT) (x : Str) (k : Nat) (ps : List Str) (sp : Sp) : Prop :=
  ∃ (f : Addr) (fd : FuncData), FnOk P w K mg base CX k f fd ps sp ∧ mg x = some (.ref f) ∧ PySem.W.keepIn K (.ref f) = true ∧ Binds K fd ps []
/-- the def of a statement of the top -/
structure Fd (K : PySem.W.Frag) (mg : Str → Option Value) (x : Str) (st : Stmt) (f : Addr) (fd : FuncData) : Prop where
  fn : Fun K x x st f fd
  mg : mg x = some (.ref f)
section
variable {X : Cx} {x : Str} {p pos : Pos} {e : Expr} {es : List Expr} {t : TA} {k : Nat} {ps : List Str} {sp : Sp}
theorem pe_cal (C : Cal X.prog X.w X.K X.mg X.base CX0 x k ps sp) (hr : Room k X.A) (hg : Gl X x) (ha : PA X (e :: es) t)
    (he : starEach (e :: es) X.env = (false, eval e X.env) :: starEach es X.env := by rfl) (hpl : (backTo pos (starEach es X.env)).any (·.1) = false := by rfl) (hd : (x == ("__debug__" : Str)) = false := by decide) :
    PE X (.Call (.Name x p) (e :: es) [] pos) (tCall sp [] E0 t) := by
  obtain ⟨f, fd, F, hm, hk, hb⟩ := C
  exact pe_call F hr hg hm hk hb .nil pass0 ha hd he hpl
end
section
variable {K : PySem.W.Frag} {σ : L2.St} {G H : Hp}
theorem ed_call {α : Type} {P : α → Prop} {args : α → List PyData} {res : α → PyData} {E : XK} {ta : TA} (x : α) (h : EA K ta σ G H (args x)) (hp : P x) : ED K (tCall (spD K P args res) [] E ta) σ G H (res x) := fun G0 H0 g0 Q q =>
  h G0 H0 g0 _ fun xs G1 H1 g1 hx => ⟨x, G1, hp, g1.s, by rw [List.append_nil]; exact hx, fun v G2 H2 g2 hv => q v G2 H2 (g1.trans g2) hv⟩
end
/-- THE RULE for a def whose answer is data of its arguments' data -/
theorem okD {α : Type} {P : Program} {w : World} {K : PySem.W.Frag} {mg : Str → Option Value} {base : Heap} {x : Str} {st : Stmt} {f : Addr} {fd : FuncData} {N ps : List Str} {k : Nat} {Pr : α → Prop} {args : α → List PyData} {res : α → PyData}
    (F : Fd K mg x st f fd) (S : FnScope N ps (defScope st)) (hb : Binds K fd ps []) (len : ∀ a, (args a).length = ps.length)
    (hbody : ∀ (cdv : Value) (A : Around) (outer : List Env) (s : Shared) (H G : Hp) (vs : List V) (a : α) (Q : VK) (E : XK), Room k (A.deeper (envOfC x (defScope st) s.heap.objs.size f cdv)) → Pr a → Same G H → DpAll K G vs (args a) →
      (∀ v G' H', Gr G H G' H' → Dp K G' v (res a) → Q v H') →
      ∃ t, PSs (cxOf CX0 P w K mg base N x (defScope st) f cdv A outer s H E).nox (defBody st) t ∧ t { nx := fun _ H' => Q .non H', rt := Q } (start N vs) H) :
    Cal P w K mg base CX0 x (k + 1) ps (spD K Pr args res) := by
  refine ⟨f, fd, ?_, F.mg, F.fn.kp, hb⟩
  refine F.fn.ok S (fun vs H Q E h => ?_) (fun cdv A outer s H vs Q E hr h => ?_)
  · obtain ⟨a, G, _, _, h, _⟩ := h
    rw [h.len]
    exact len a
  · obtain ⟨a, G, hp, hs, hv, q⟩ := h
    exact hbody cdv A outer s H G vs a Q E hr hp hs hv q
end Bw
set_option Elab.async false
set_option linter.all false
set_option maxRecDepth 100000
set_option maxHeartbeats 4000000
/-! Statements, loops, comprehensions over the data layer. -/
namespace Bw
open PySem PySem.Spec PyProof.Rows L2

/-! ### what is walked -/
/-- the walk J yields the data ds, from data G on -/
def Yl (K : PySem.W.Frag) (J : It) (G : Hp) (ds : List PyData) : Prop := ∀ (i : Nat) (G1 H1 : Hp), Same G G1 → Same G1 H1 →
  (∀ d, ds[i]? = some d → J.go i H1 ∧ ∀ x H', J.yld i H1 x H' → ∃ G', Gr G1 H1 G' H' ∧ Dp K G' x d) ∧ (ds.length = i → J.stop i H1)
def ES (K : PySem.W.Frag) (wi : TI) (σ : L2.St) (G H : Hp) (ds : List PyData) : Prop := ∀ G1 H1, Gr G H G1 H1 → ∀ R : It → Hp → Prop, (∀ J G' H', Gr G1 H1 G' H' → Yl K J G' ds → R J H') → wi σ H1 R
section
variable {K : PySem.W.Frag} {σ : L2.St} {G G' H H' : Hp} {te tl : TE} {d : PyData} {ds : List PyData}
theorem yl_list {a : Addr} {xs : List V} (hs : SqL K G a xs) (ha : DpAll K G xs ds) : Yl K (Itl K a) G ds := fun i G1 H1 gg gs => by
  have h1 : SqL K H1 a xs := gs.seq (gg.seq hs)
  refine ⟨fun d hd => ?_, fun hl => ⟨xs, h1, by rw [ha.len]; exact Nat.le_of_eq hl⟩⟩
  obtain ⟨v, hv, hz⟩ := ha.get hd
  refine ⟨⟨xs, v, h1, hv⟩, fun x H' y => ?_⟩
  obtain ⟨e, y⟩ := y
  subst e
  have e2 := y xs h1
  rw [hv] at e2
  cases e2
  exact ⟨G1, Gr.refl gs, dp_mono gg _ _ hz⟩
theorem yl_tup {a : Addr} {xs : List V} (hs : SqT K G a xs) (ha : DpAll K G xs ds) : Yl K (Itt K a) G ds := fun i G1 H1 gg gs => by
  have h1 : SqT K H1 a xs := sqT_mono gs (sqT_mono gg hs)
  refine ⟨fun d hd => ?_, fun hl => ⟨xs, h1, by rw [ha.len]; exact Nat.le_of_eq hl⟩⟩
  obtain ⟨v, hv, hz⟩ := ha.get hd
  refine ⟨⟨xs, v, h1, hv⟩, fun x H' y => ?_⟩
  obtain ⟨e, y⟩ := y
  subst e
  have e2 := y xs h1
  rw [hv] at e2
  cases e2
  exact ⟨G1, Gr.refl gs, dp_mono gg _ _ hz⟩
/-- lo, lo + 1, .. : n ints -/
def intsD (lo : Int) (n : Nat) : List PyData := (List.range n).map fun i => .int (lo + (i : Nat))
theorem yl_rng {lo : Int} {n : Nat} : Yl K (Itr lo n) G (intsD lo n) := fun i G1 H1 gg gs => by
  unfold intsD
  refine ⟨fun d hd => ?_, fun hl => by
    have h' : n = i := by simpa using hl
    have h' := Nat.le_of_eq h'
    exact h'⟩
  rw [List.getElem?_map] at hd
  by_cases hi : i < n
  · rw [List.getElem?_range hi] at hd
    cases hd
    refine ⟨hi, fun x H' y => ?_⟩
    obtain ⟨e, y⟩ := y
    subst e y
    exact ⟨G1, Gr.refl gs, .int _⟩
  · rw [List.getElem?_eq_none (by simpa using hi)] at hd
    cases hd
theorem es_list (h : ED K tl σ G H (.list ds)) : ES K (iList K tl) σ G H ds := fun G1 H1 g R q => h G1 H1 g _ fun v G2 H2 g2 hv => by
  cases hv with
  | @lst a xs _ hs ha => exact ⟨a, rfl, ⟨xs, g2.s.seq hs⟩, q _ G2 H2 g2 (yl_list hs ha)⟩
theorem es_tup (h : ED K tl σ G H (.tuple ds)) : ES K (iTup K tl) σ G H ds := fun G1 H1 g R q => h G1 H1 g _ fun v G2 H2 g2 hv => by
  cases hv with
  | @tup a xs _ hs ha => exact ⟨a, rfl, ⟨xs, sqT_mono g2.s hs⟩, q _ G2 H2 g2 (yl_tup hs ha)⟩
theorem es_rng1 {ta : TA} {n : Int} (h : EA K ta σ G H [.int n]) (h1 : -(2 ^ 62) ≤ n) (h2 : n < 2 ^ 62) : ES K (iRng1 ta) σ G H (intsD 0 n.toNat) := fun G1 H1 g R q => h G1 H1 g _ fun vs G2 H2 g2 hv => by
  cases hv with
  | cons a b => cases a; cases b; exact ⟨n, rfl, h1, h2, q _ G2 H2 g2 yl_rng⟩
theorem es_rng2 {ta : TA} {lo n : Int} (h : EA K ta σ G H [.int lo, .int n]) (h1 : -(2 ^ 62) ≤ lo ∧ lo < 2 ^ 62 ∧ -(2 ^ 62) ≤ n ∧ n < 2 ^ 62) : ES K (iRng2 ta) σ G H (intsD lo (n - lo).toNat) := fun G1 H1 g R q => h G1 H1 g _ fun vs G2 H2 g2 hv => by
  cases hv with
  | cons a b =>
    cases a
    cases b with
    | cons a b => cases a; cases b; exact ⟨lo, n, rfl, h1, q _ G2 H2 g2 yl_rng⟩
end

/-! ### targets -/
section
variable {K : PySem.W.Frag} {G H : Hp} {σ : L2.St} {x : V} {Q : L2.St → Hp → Prop} {t1 t2 : TG}
theorem gnil_eq (Q : L2.St → Hp → Prop) : (fun σ H => gNil [] σ H Q) = Q := by
  funext σ H
  exact propext ⟨fun z => z.2, fun z => ⟨rfl, z⟩⟩
theorem g_pair {d1 d2 : PyData} (hx : Dp K G x (.tuple [d1, d2])) : ∃ v1 v2, Dp K G v1 d1 ∧ Dp K G v2 d2 ∧
    ∀ (t1 t2 : TG) (σ : L2.St) (H : Hp) (Q : L2.St → Hp → Prop), Same G H → (t1 v1 σ H fun σ1 H1 => t2 v2 σ1 H1 Q) → gTup K 2 (gCons t1 (gCons t2 gNil)) x σ H Q := by
  cases hx with
  | @tup a xs _ hs ha =>
    cases ha with
    | @cons v1 r1 _ _ h1 ha =>
      cases ha with
      | @cons v2 r2 _ _ h2 ha =>
        cases ha
        refine ⟨v1, v2, h1, h2, fun t1 t2 σ H Q s k => ⟨a, _, rfl, sqT_mono s hs, rfl, v1, _, rfl, ?_⟩⟩
        have e : (fun σ1 H1 => t2 v2 σ1 H1 Q) = fun σ1 H1 => gCons t2 gNil [v2] σ1 H1 Q := by
          funext σ1 H1
          refine propext ⟨fun z => ⟨v2, [], rfl, ?_⟩, fun z => ?_⟩
          · rw [gnil_eq]; exact z
          · obtain ⟨v, r, e1, z⟩ := z
            cases e1
            rw [gnil_eq] at z
            exact z
        rw [← e]
        exact k
theorem g_tup2 {d1 d2 : PyData} (s : Same G H) (hx : Dp K G x (.tuple [d1, d2])) (h : ∀ v1 v2, Dp K G v1 d1 → Dp K G v2 d2 → t1 v1 σ H fun σ1 H1 => t2 v2 σ1 H1 Q) : gTup K 2 (gCons t1 (gCons t2 gNil)) x σ H Q := by
  obtain ⟨v1, v2, h1, h2, k⟩ := g_pair hx
  exact k t1 t2 σ H Q s (h v1 v2 h1 h2)
end

/-! ### statements -/
section
variable {K : PySem.W.Frag} {D : Ends} {σ : L2.St} {G H Gi Hi : Hp} {te ta tb : TE} {tt : TT} {tu tw : TS} {g : TG} {d : PyData}
/-- a statement and what follows it -/
theorem seq_ (h : tu { D with nx := tw D } σ H) : tSeq tu tw D σ H := h
theorem s_set {i : Nat} (s : Same G H) (h : ED K te σ G H d) (k : ∀ v G' H', Gr G H G' H' → Dp K G' v d → D.nx (σ.set i (some v)) H') : tAsg te (gName i) D σ H := h.now s k
theorem s_asg (s : Same G H) (h : ED K te σ G H d) (k : ∀ v G' H', Gr G H G' H' → Dp K G' v d → g v σ H' D.nx) : tAsg te g D σ H := h.now s k
theorem s_par {i j : Nat} {ta : TA} {d1 d2 : PyData} (s : Same G H) (h : EA K ta σ G H [d1, d2]) (k : ∀ v w G' H', Gr G H G' H' → Dp K G' v d1 → Dp K G' w d2 → D.nx ((σ.set i (some v)).set j (some w)) H') : tPar i j ta D σ H :=
  h.now s fun vs G' H' g hv => by
    cases hv with
    | @cons v _ _ _ h1 hv =>
      cases hv with
      | @cons w _ _ _ h2 hv =>
        cases hv
        exact ⟨v, w, rfl, k v w G' H' g h1 h2⟩
theorem s_ret (s : Same G H) (h : ED K te σ G H d) (k : ∀ v G' H', Gr G H G' H' → Dp K G' v d → D.rt v H') : tRet te D σ H := h.now s k
theorem s_if {b : Bool} (s : Same G H) (h : ET tt σ G H b) (h1 : b = true → ∀ G' H', Gr G H G' H' → tu D σ H') (h2 : b = false → ∀ G' H', Gr G H G' H' → tw D σ H') : tIfS tt tu tw D σ H := h.now s fun G' H' g => by
  cases b with
  | true => rw [if_pos rfl]; exact h1 rfl G' H' g
  | false => rw [if_neg Bool.false_ne_true]; exact h2 rfl G' H' g
/-- p.append(e), p the place i -/
theorem s_app {i : Nat} {p : Addr} {xs : List V} (s : Same G H) (hv : σ[i]? = some (some (.ref p))) (m : Mu G H p (.lst xs)) (hz : xs.length < 100000) (h : ED K te σ G H d)
    (k : ∀ v G' H', Gr G H G' H' → Dp K G' v d → Mu G' (upd H' p (.lst (xs ++ [v]))) p (.lst (xs ++ [v])) → Same G' (upd H' p (.lst (xs ++ [v]))) → D.nx σ (upd H' p (.lst (xs ++ [v])))) :
    tDrop (tBM K "list" rAppend (tVar i) (tCons te tNil)) D σ H := by
  refine ⟨_, hv, .inl ⟨rfl, xs, .of m.h⟩, h.now s fun v G' H' g hd => ?_⟩
  have m' := m.gr g
  exact ⟨p, xs, v, rfl, rfl, m'.h, line_lt hz, k v G' H' g hd m'.put (same_mut g.s m'.n)⟩
/-- p[k] = e, p the place i -/
theorem s_put {i : Nat} {p : Addr} {xs : List V} {j : Nat} (s : Same G H) (hv : σ[i]? = some (some (.ref p))) (m : Mu G H p (.lst xs)) (h : ED K te σ G H d) (hi : ED K tb σ G H (.int (j : Int))) (hj : j < xs.length)
    (k : ∀ v G' H', Gr G H G' H' → Dp K G' v d → Mu G' (upd H' p (.lst (xs.set j v))) p (.lst (xs.set j v)) → Same G' (upd H' p (.lst (xs.set j v))) → D.nx σ (upd H' p (.lst (xs.set j v)))) :
    tAsg te (gSub (tVar i) tb rSetL) D σ H := h.now s fun v G1 H1 g1 hd => ⟨_, hv, (hi.mono g1).now g1.s fun y G2 H2 g2 hy => by
  cases hy
  have g := g1.trans g2
  have m' := m.gr g
  exact ⟨p, xs, (j : Int), j, rfl, rfl, m'.h, ixN_nat hj, k v G2 H2 g (dp_mono g2.g _ _ hd) m'.put (same_mut g.s m'.n)⟩⟩
/-- from the entry on: what was changed is one's own -/
theorem Gr.mut {p : Addr} {o : HO} (g : Gr Gi Hi G H) (hp : Hi p = none) (hn : G p = none) : Gr Gi Hi G (upd H p o) :=
  ⟨g.g, fun a u e => by rw [upd_ne (ne_of_none e hp)]; exact g.h a u e, same_mut g.s hn, g.n⟩
/-- one's own thing becomes data -/
theorem Gr.freeze {p : Addr} {o : HO} (g : Gr Gi Hi G H) (hp : Hi p = none) (m : Mu G H p o) : Gr Gi Hi (upd G p o) H :=
  ⟨g.g.trans (same_new m.n), g.h, fun a u e => by
      by_cases ha : a = p
      · subst ha; rw [upd_same] at e; rw [← e]; exact m.h
      · rw [upd_ne ha] at e; exact g.s a u e,
    fun a e n => by rw [upd_ne (fun z => n (by rw [z]; exact hp))]; exact g.n a e n⟩
/-- freshness at the entry -/
theorem Gr.fresh {p : Addr} (g : Gr Gi Hi G H) (h : H p = none) : Hi p = none := g.h.free h

/-! ### loops -/
/-- behind a turn -/
def Nx (Gi Hi G : Hp) (P : L2.St → Hp → Hp → Prop) : L2.St → Hp → Prop := fun σ H => ∃ G', Gr Gi Hi G' H ∧ Same G G' ∧ P σ G' H
theorem s_for {wi : TI} {ds : List PyData} (h : ES K wi σ G H ds) (gr : Gr Gi Hi G H) (Pv : Nat → L2.St → Hp → Hp → Prop) (h0 : ∀ G' H', Gr G H G' H' → Pv 0 σ G' H')
    (hs : ∀ i d x σ' G1 H1 G' H', ds[i]? = some d → Gr Gi Hi G1 H1 → Same G G1 → Pv i σ' G1 H1 → Gr G1 H1 G' H' → Dp K G' x d →
      g x σ' H' fun σ2 H2 => tu { D with nx := Nx Gi Hi G1 (Pv (i + 1)), ct := Nx Gi Hi G1 (Pv (i + 1)), bk := D.nx } σ2 H2)
    (hd : ∀ σ' G' H', Gr Gi Hi G' H' → Same G G' → Pv ds.length σ' G' H' → D.nx σ' H') : tFor wi g tu D σ H :=
  h G H (Gr.refl gr.s) _ fun J G0 H0 g0 y => by
    refine ⟨fun i m σ' H' => m = ds.length - i ∧ i ≤ ds.length ∧ ∃ G', Gr Gi Hi G' H' ∧ Same G0 G' ∧ Pv i σ' G' H', ⟨ds.length, by simp, Nat.zero_le _, G0, gr.trans g0, Same.refl _, h0 G0 H0 g0⟩, ?_⟩
    rintro i m σ' H' ⟨rfl, hi, G1, g1, s1, p⟩
    have yy := y i G1 H' s1 g1.s
    by_cases hlt : i < ds.length
    · refine .inr ⟨(yy.1 ds[i] (by simp [hlt])).1, Nx Gi Hi G1 (Pv (i + 1)), fun σ3 H3 ⟨G3, a, b, c⟩ => ⟨ds.length - (i + 1), by omega, rfl, hlt, G3, a, s1.trans b, c⟩, fun x H2 yl => ?_⟩
      obtain ⟨G2, g2, hx⟩ := (yy.1 ds[i] (by simp [hlt])).2 x H2 yl
      exact hs i ds[i] x σ' G1 H' G2 H2 (by simp [hlt]) g1 (g0.g.trans s1) p g2 hx
    · have e : i = ds.length := by omega
      subst e
      exact .inl ⟨yy.2 rfl, hd σ' G1 H' g1 (g0.g.trans s1) p⟩
/-- typed items -/
theorem s_forT {α : Type} (xs : List α) (enc : α → PyData) {wi : TI} (h : ES K wi σ G H (xs.map enc)) (gr : Gr Gi Hi G H) (Pv : List α → L2.St → Hp → Hp → Prop) (h0 : ∀ G' H', Gr G H G' H' → Pv [] σ G' H')
    (hs : ∀ pre a post x σ' G1 H1 G' H', xs = pre ++ a :: post → Gr Gi Hi G1 H1 → Same G G1 → Pv pre σ' G1 H1 → Gr G1 H1 G' H' → Dp K G' x (enc a) →
      g x σ' H' fun σ2 H2 => tu { D with nx := Nx Gi Hi G1 (Pv (pre ++ [a])), ct := Nx Gi Hi G1 (Pv (pre ++ [a])), bk := D.nx } σ2 H2)
    (hd : ∀ σ' G' H', Gr Gi Hi G' H' → Same G G' → Pv xs σ' G' H' → D.nx σ' H') : tFor wi g tu D σ H := by
  refine s_for h gr (fun i => Pv (xs.take i)) (fun G' H' g' => by rw [List.take_zero]; exact h0 G' H' g') (fun i d x σ' G1 H1 G' H' hd g1 s1 p g2 hx => ?_) (fun σ' G' H' g1 s1 p => hd σ' G' H' g1 s1 (by rw [List.length_map, List.take_length] at p; exact p))
  rw [List.getElem?_map] at hd
  cases e : xs[i]? with
  | none => rw [e] at hd; cases hd
  | some a =>
    rw [e] at hd
    cases hd
    obtain ⟨hi, ea⟩ := List.getElem?_eq_some_iff.mp e
    have sp : xs = xs.take i ++ a :: xs.drop (i + 1) := by
      rw [← ea, List.getElem_cons_drop, List.take_append_drop]
    have tk : xs.take (i + 1) = xs.take i ++ [a] := by
      rw [List.take_succ, e]; rfl
    rw [tk]
    exact hs _ a _ x σ' G1 H1 G' H' sp g1 s1 p g2 hx
theorem s_while {c : TT} (gr : Gr Gi Hi G H) (Pv : Nat → L2.St → Hp → Hp → Prop) (m0 : Nat) (h0 : Pv m0 σ G H)
    (hs : ∀ m σ' G1 H1, Gr Gi Hi G1 H1 → Same G G1 → Pv m σ' G1 H1 → ∃ b, ET c σ' G1 H1 b ∧
      (b = true → ∀ G' H', Gr G1 H1 G' H' → tu { D with nx := Nx Gi Hi G1 (fun σ2 G2 H2 => ∃ m', m' < m ∧ Pv m' σ2 G2 H2), ct := Nx Gi Hi G1 (fun σ2 G2 H2 => ∃ m', m' < m ∧ Pv m' σ2 G2 H2), bk := D.nx } σ' H') ∧
      (b = false → ∀ G' H', Gr G1 H1 G' H' → D.nx σ' H')) : tWhile c tu D σ H := by
  refine ⟨fun m σ' H' => ∃ G', Gr Gi Hi G' H' ∧ Same G G' ∧ Pv m σ' G' H', ⟨m0, G, gr, Same.refl _, h0⟩, ?_⟩
  rintro m σ' H' ⟨G1, g1, s1, p⟩
  obtain ⟨b, hb, h1, h2⟩ := hs m σ' G1 H' g1 s1 p
  refine hb.now g1.s fun G2 H2 g2 => ?_
  cases b with
  | true =>
    rw [if_pos rfl]
    exact ⟨_, fun σ3 H3 ⟨G3, a, b, m', l, c⟩ => ⟨m', l, G3, a, s1.trans b, c⟩, h1 rfl G2 H2 g2⟩
  | false =>
    rw [if_neg Bool.false_ne_true]
    exact h2 rfl G2 H2 g2

/-! ### comprehensions -/
/-- a new list, tracked as one -/
def EL (K : PySem.W.Frag) (te : TE) (σ : L2.St) (G H : Hp) (ds : List PyData) : Prop := ∀ G1 H1, Gr G H G1 H1 → ∀ Q : VK, (∀ a xs G' H', Gr G1 H1 G' H' → G' a = some (.lst xs) → DpAll K G' xs ds → Q (.ref a) H') → te σ H1 Q
theorem EL.ed (h : EL K te σ G H ds) : ED K te σ G H (.list ds) := fun G1 H1 g Q q => h G1 H1 g Q fun a xs G' H' g' e d => q _ G' H' g' (.lst (.of e) d)
theorem EL.mono (g : Gr G H G' H') (h : EL K te σ G H ds) : EL K te σ G' H' ds := fun G1 H1 g1 Q q => h G1 H1 (g.trans g1) Q q
theorem EL.is {es : List PyData} (h : EL K te σ G H ds) (e : ds = es) : EL K te σ G H es := e ▸ h
theorem el_lc {α : Type} (xs : List α) (enc : α → PyData) (f : α → Bool) (v : α → PyData) {wi : TI} {vs : List Nat} (h : ES K wi σ G H (xs.map enc)) (hn : xs.length ≤ 99999)
    (hs : ∀ a ∈ xs, ∀ x G' H', Gr G H G' H' → Dp K G' x (enc a) → ∃ σ2, (∀ Q : L2.St → Hp → Prop, Q σ2 H' → g x (wipe σ vs) H' Q) ∧ wipe σ2 vs = wipe σ vs ∧ ET tt σ2 G' H' (f a) ∧ (f a = true → ED K te σ2 G' H' (v a))) :
    EL K (tLc wi g tt te vs) σ G H ((xs.filter f).map v) := fun G0 H0 g0 Q q => h G0 H0 g0 _ fun J G1 H1 g1 y Dl hDl => by
  have hf : ∀ {G' H'}, Gr G1 H1 G' H' → True := fun _ => trivial
  refine ⟨fun i m H' => m = xs.length - i ∧ i ≤ xs.length ∧ ∃ G' acc, Gr G1 H1 G' H' ∧ Mu G' H' Dl (.lst acc) ∧ DpAll K G' acc (((xs.take i).filter f).map v), ⟨xs.length, by simp, Nat.zero_le _, G1, [], Gr.lay g1.s hDl, Mu.lay g1.s hDl, by rw [List.take_zero]; exact .nil⟩, ?_⟩
  rintro i m H' ⟨rfl, hi, G2, acc, g2, mu, da⟩
  have yy := y i G2 H' g2.g g2.s
  by_cases hlt : i < xs.length
  · have hx0 : (xs.map enc)[i]? = some (enc xs[i]) := by simp [hlt]
    refine .inr ⟨(yy.1 _ hx0).1, fun H3 => ∃ G3 acc, Gr G1 H1 G3 H3 ∧ Mu G3 H3 Dl (.lst acc) ∧ DpAll K G3 acc (((xs.take (i + 1)).filter f).map v), fun H3 ⟨G3, ac, a, b, c⟩ => ⟨xs.length - (i + 1), by omega, rfl, hlt, G3, ac, a, b, c⟩, fun x H3 yl => ?_⟩
    obtain ⟨G3, g3, hx⟩ := (yy.1 _ hx0).2 x H3 yl
    obtain ⟨σ2, k1, k2, k3, k4⟩ := hs xs[i] (List.getElem_mem hlt) x G3 H3 (((g0.trans g1).trans g2).trans g3) hx
    have tk : xs.take (i + 1) = xs.take i ++ [xs[i]] := by
      rw [List.take_succ, List.getElem?_eq_getElem hlt]; rfl
    refine k1 _ ⟨k2, k3.now g3.s fun G4 H4 g4 => ?_⟩
    cases hfa : f xs[i] with
    | true =>
      rw [if_pos rfl]
      refine k4 hfa G4 H4 g4 _ fun u G5 H5 g5 hu => ?_
      have g35 := (g3.trans g4).trans g5
      have mu5 := mu.gr g35
      have al : acc.length ≤ i := by
        rw [da.len, List.length_map]
        refine Nat.le_trans (List.length_filter_le _ _) ?_
        rw [List.length_take]
        omega
      refine ⟨acc, mu5.h, line_lt (by omega), G5, acc ++ [u], (g2.trans g35).mut hDl mu5.n, mu5.put, ?_⟩
      rw [tk, List.filter_append, List.map_append, List.filter_cons, if_pos hfa]
      exact (dpa_mono g35.g _ _ da).app (.cons hu .nil)
    | false =>
      rw [if_neg Bool.false_ne_true]
      have g34 := g3.trans g4
      refine ⟨G4, acc, g2.trans g34, mu.gr g34, ?_⟩
      rw [tk, List.filter_append, List.map_append, List.filter_cons, if_neg (by rw [hfa]; decide)]
      show DpAll K G4 acc (_ ++ [])
      rw [List.append_nil]
      exact dpa_mono g34.g _ _ da
  · have e : i = xs.length := by omega
    subst e
    refine .inl ⟨yy.2 (by simp), ?_⟩
    rw [List.take_length] at da
    exact q _ _ _ H' ((g1.trans (Gr.refl g1.s)).trans (g2.freeze hDl mu)) upd_same (dpa_mono (same_new mu.n) _ _ da)
theorem ed_lc {α : Type} (xs : List α) (enc : α → PyData) (f : α → Bool) (v : α → PyData) {wi : TI} {vs : List Nat} (h : ES K wi σ G H (xs.map enc)) (hn : xs.length ≤ 99999)
    (hs : ∀ a ∈ xs, ∀ x G' H', Gr G H G' H' → Dp K G' x (enc a) → ∃ σ2, (∀ Q : L2.St → Hp → Prop, Q σ2 H' → g x (wipe σ vs) H' Q) ∧ wipe σ2 vs = wipe σ vs ∧ ET tt σ2 G' H' (f a) ∧ (f a = true → ED K te σ2 G' H' (v a))) :
    ED K (tLc wi g tt te vs) σ G H (.list ((xs.filter f).map v)) := (el_lc xs enc f v h hn hs).ed
end
end Bw
set_option Elab.async false
set_option linter.all false
set_option maxRecDepth 100000
set_option maxHeartbeats 4000000
/-! enumerate over a tuple. -/
namespace PySem
open Sem (wp)
namespace EnB
/-- enumerate(v), one argument, over anything that begins -/
theorem meets_one {v : Value} {o : Obj} {Hq : Heap → Prop} (B : Begins v o Hq) :
    Meets (Builtin.«enumerate.__new__» ⟨[.type "enumerate", v], []⟩) (fun _ R s => Hq s.heap ∧
      R (.ok (.ret (.ref (s.heap.push o).objs.size))) { s with heap := (s.heap.push o).push { cls := .type "enumerate", data := .fields #[.none, .bool false, .ref s.heap.objs.size, rawInt 0, .none, .none] } }) :=
  .of_wp fun prog w A R s h => by
    obtain ⟨hp, g, d, tk, os⟩ := s
    obtain ⟨h1, h⟩ := h
    have hsub := sub_enumerate
    have begins : ∀ {A' : Around} {E : Value → Shared → Prop} {Q : Value → Shared → Prop}, Q (.ref hp.objs.size) ⟨hp.push o, g, d, tk, os⟩ → wpAny (model prog w) A' (pyIter v) Q E ⟨hp, g, d, tk, os⟩ :=
      fun q => B.iter prog w _ _ ⟨hp, g, d, tk, os⟩ _ h1 q
    wp_walk using begins
    refine wpAny_stack_any fun st => wpAny_pure ?_
    split
    · rename_i c _ _ _ _ _
      cases (c == Value.type "enumerate") <;> (wp_walk using begins; exact ⟨_, rfl, h⟩)
    · wp_walk using begins
      exact ⟨_, rfl, h⟩
section
variable {prog : Program} {w : World} {A : Around} {E : Value → Shared → Prop} {s : Shared}
theorem call_one {v : Value} {o : Obj} {Hq : Heap → Prop} {Q : Value → Shared → Prop} (B : Begins v o Hq) (h1 : Hq s.heap)
    (h : ∀ h', IsEnum h' (s.heap.objs.size + 1) s.heap.objs.size 0 .none → h'.get? s.heap.objs.size = some o → h'.objs.size = s.heap.objs.size + 2 →
      (∀ b u, s.heap.get? b = some u → h'.get? b = some u) → Q (.ref (s.heap.objs.size + 1)) { s with heap := h' }) :
    wpAny (model prog w) A (call (.type "enumerate") [v]) Q E s := by
  refine callType_new F.called_enumerate (by decide) (F.typeCall_enumerate_1 _) (F.newCall_enumerate_1 _) (fun obj => F.args_object_init_2 obj _) F.entry_enumerate_new (meets_one B) ⟨h1, ?_⟩
  have hz : (s.heap.push o).objs.size = s.heap.objs.size + 1 := Heap.size_push ..
  show _ ∧ _
  rw [hz]
  have he : IsEnum ((s.heap.push o).push { cls := .type "enumerate", data := .fields #[.none, .bool false, .ref s.heap.objs.size, rawInt 0, .none, .none] }) (s.heap.objs.size + 1) s.heap.objs.size 0 .none := by
    have z := Heap.get?_push_size (s.heap.push o) (o := { cls := .type "enumerate", data := .fields #[.none, .bool false, .ref s.heap.objs.size, rawInt 0, .none, .none] }) rfl
    rw [hz] at z
    exact z
  exact ⟨⟨_, he, rfl⟩, h _ he (Heap.get?_push_of_some _ (Heap.get?_push_size _ B.free)) (by rw [Heap.size_push, hz]) fun b u x => Heap.get?_push_of_some _ (Heap.get?_push_of_some _ x)⟩
end
end EnB
end PySem
namespace Bw
open PySem PySem.Spec PyProof.Rows L2
/-- the tuple at a, each item in a new pair with its number -/
def IteT (K : PySem.W.Frag) (a : Addr) : It :=
  ⟨fun i H => ∃ (xs : List V) (x : V), SqT K H a xs ∧ xs[i]? = some x,
   fun i H v H' => ∃ T x, v = .ref T ∧ H T = none ∧ H' = upd H T (.tup [.int (i : Nat), x]) ∧ ∀ xs, SqT K H a xs → xs[i]? = some x,
   fun i H => ∃ xs : List V, SqT K H a xs ∧ xs.length = i⟩
theorem turn_enumT {P : Program} {w : World} {K : PySem.W.Frag} {elts : List Expr} {kk : Nat} {tpos : Pos} (a e it : Addr) :
    Turn P w K (.Tuple elts kk tpos) (IteT K a) [e, it] e (fun i h => (∃ old, IsEnum h e it ((i : Nat) : Int) old) ∧ h.IsTupleIter it a i ∧ e ≠ it) where
  mem := List.mem_cons_self ..
  obj := fun i h st b hb => by
    obtain ⟨⟨old, he⟩, ⟨o, ho, hc, hd⟩, _⟩ := st
    rcases List.mem_cons.mp hb with z | z
    · exact z ▸ ⟨_, he, fun v q => nomatch q⟩
    · exact List.mem_singleton.mp z ▸ ⟨o, ho, fun v q => by rw [hd] at q; cases q⟩
  keep := fun i h h' ⟨⟨old, he⟩, hi, hne⟩ k => ⟨⟨old, k e (by simp) _ he⟩, hi.at fun o q => k it (by simp) o q, hne⟩
  item := by
    intro X hP hw hK hc i pins s σ H E I hf st hg
    subst hP hw hK
    obtain ⟨⟨old, he⟩, hit, hne⟩ := st
    obtain ⟨xs, x, hq, hx⟩ := hg
    obtain ⟨its, rv, tup, _⟩ := I.tuple hq
    obtain ⟨u, hu, ru⟩ := rv.get hx
    have hel : e < s.heap.objs.size := Heap.lt_size he
    have hil : it < s.heap.objs.size := by obtain ⟨_, q, _⟩ := hit; exact Heap.lt_size q
    have hai : a ≠ it := fun z => by
      obtain ⟨o1, q1, c1, _⟩ := hit
      obtain ⟨o2, q2, c2, _⟩ := tup
      rw [← z, q2] at q1
      cases q1
      rw [c2] at c1
      injection c1 with c1
      exact absurd c1 (by decide)
    have hea : e ≠ a := fun z => by
      obtain ⟨o2, q2, c2, _⟩ := tup
      have q1 := he
      rw [z] at q1
      have q3 := q2.symm.trans q1
      rw [Option.some.inj q3] at c2
      injection c2 with c2
      exact absurd c2 (by decide)
    have D := Draws.tuple (prog := X.prog) (w := X.w) (A := X.A.in1) (I.ok.hd hc) it a hai its.toArray
    have hlt : i < its.toArray.size := by
      have := (List.getElem?_eq_some_iff.mp hu).1
      simpa using this
    have hef : e ∉ [it, a] := fun z => by
      rcases List.mem_cons.mp z with q | q
      · exact hne q
      · exact hea (List.mem_singleton.mp q)
    refine wpAny_pyNext_enum_itemC D he ⟨hit, tup⟩ hlt hne hef fun y h' tk hP ho hst' hT hsz hk => ?_
    have ey : y = u := by
      have hP' : its.toArray[i]? = some y := hP
      have : its[i]? = some y := by simpa using hP'
      rw [hu] at this
      exact (Option.some.inj this).symm
    subst ey
    refine ⟨_, rfl, wpAny_letOwnedTupleGo_enum (s := { s with heap := h', toks := tk + 1 }) ho fun h'' he' sb => ?_⟩
    have hT2 : h''.get? s.heap.objs.size = some { cls := .type "tuple", data := .seq #[.int i tk, y] } := (sb.2 _ (Nat.ne_of_gt hel)).trans hT
    have new : ObjOk X.prog X.w (upd H s.heap.objs.size (.tup [.int (i : Nat), x])) h'' s.heap.objs.size (.tup [.int (i : Nat), x]) :=
      ⟨by show 2 ≤ sizeLine; decide, [.int i tk, y], .cons ⟨_, rfl⟩ (.cons ru .nil), ⟨_, hT2, rfl, _, rfl⟩⟩
    have I1 : Inv X pins σ (upd H s.heap.objs.size (.tup [.int (i : Nat), x])) { s with heap := h'', toks := tk + 1 } :=
      I.turnedNew (ch := [e, it]) (fun b ob hb q => (sb.2 b (fun z => hb (by simp [z]))).trans (hk b ob (fun z => hb (by simp [z])) (fun z => hb (by simp [z])) q)) hf (Nat.le_refl _) new
    refine ⟨.ref s.heap.objs.size, _, I1, rfl, ⟨_, x, rfl, I.hok.fresh (Nat.le_refl _), rfl, fun ys hy => by rw [I.tuple_inj hy hq]; exact hx⟩, ⟨⟨y, ?_⟩, hst'.1.at fun o q => (sb.2 it (Ne.symm hne)).trans q, hne⟩, fun b hb => ?_⟩
    · have e1 : ((i + 1 : Nat) : Int) = (i : Int) + 1 := by omega
      rw [e1]; exact he'
    · have hb' : b < s.heap.objs.size := by
        rcases List.mem_cons.mp hb with z | z
        · rw [z]; exact hel
        · rw [List.mem_singleton.mp z]; exact hil
      rw [upd_ne (Nat.ne_of_lt hb')]
      exact (hf b hb).1
  done := by
    intro X hP hw hK hc i pins s σ H E I hf st hg
    subst hP hw hK
    obtain ⟨⟨old, he⟩, hit, hne⟩ := st
    obtain ⟨xs, hq, hx⟩ := hg
    obtain ⟨its, rv, tup, _⟩ := I.tuple hq
    obtain ⟨f0, f1, f2, f3, f4, f5⟩ := hf it (by simp)
    have hl := rv.length
    have hai : a ≠ it := fun z => by
      obtain ⟨o1, q1, c1, _⟩ := hit
      obtain ⟨o2, q2, c2, _⟩ := tup
      rw [← z, q2] at q1
      cases q1
      rw [c2] at c1
      injection c1 with c1
      exact absurd c1 (by decide)
    have D := Draws.tuple (prog := X.prog) (w := X.w) (A := X.A.in1) (I.ok.hd hc) it a hai its.toArray
    have hn : its.toArray.size = i := by rw [List.size_toArray, ← hl]; exact hx
    exact wpAny_pyNext_enum_endD D he ⟨by rw [hn]; exact hit, tup⟩ fun h' eb => ⟨rfl, I.turned (t' := s.toks) (fun b o hb q => eb b o hb q) f0 f1 f3 f4 f5⟩
  self := fun A i s Q E ⟨⟨_, he⟩, _⟩ h => wpAny_pyIter_enum he h
def iEnumT (K : PySem.W.Frag) (ta : TA) : TI := fun σ H R => ta σ H fun vs H1 => ∃ a xs, vs = [.ref a] ∧ SqT K H1 a xs ∧ R (IteT K a) H1
theorem pi_enumT {X : Cx} {e : Expr} {ta : TA} {p pos tpos : Pos} {elts : List Expr} {kk : Nat} (hg : Gl X "enumerate") (hm : X.mg "enumerate" = none) (ha : PA X [e] ta) (hs : starEach [e] X.env = [(false, eval e X.env)] := by rfl) :
    PI X (.Tuple elts kk tpos) (.Call (.Name "enumerate" p) [e] [] pos) (iEnumT X.K ta) := by
  refine ⟨fun pins s σ H R I h => ?_⟩
  refine Call_ (ld_blt I hg hm boot_enumerate (PyProof.Rows.callWith_type1 (thn (ha.run pos pins s σ H _ I h) fun us s1 ⟨vs, H1, I1, r1, a, xs, ex, hq, q⟩ => ?_) hs rfl))
  subst ex
  cases r1 with
  | cons r rr =>
    cases rr
    cases r
    obtain ⟨its, rv, tup, _⟩ := I1.tuple hq
    refine PySem.EnB.call_one (begins_tuple a its.toArray) tup fun h' he hit hsz hk => wpAny_pyIter_enum he ?_
    have I2 : Inv X pins σ H1 { s1 with heap := h' } := I1.kept (t' := s1.toks) hk
    refine ⟨s1.heap.objs.size + 1, [s1.heap.objs.size + 1, s1.heap.objs.size], _, _, H1, rfl, I2, turn_enumT a (s1.heap.objs.size + 1) s1.heap.objs.size, ⟨⟨.none, he⟩, ⟨_, hit, rfl, rfl⟩, Nat.succ_ne_self _⟩, fun b hb => ?_, q⟩
    have hle : s1.heap.objs.size ≤ b := by
      rcases List.mem_cons.mp hb with z | z
      · rw [z]; exact Nat.le_add_right _ _
      · rw [List.mem_singleton.mp z]; exact Nat.le_refl _
    exact I1.fpOk hle (I1.hok.fresh hle)
/-- pairs of a number and an item -/
def numbered (ds : List PyData) : List PyData := ds.zipIdx.map fun p => .tuple [.int (p.2 : Nat), p.1]
theorem numbered_map {α : Type} (xs : List α) (f : α → PyData) : numbered (xs.map f) = xs.zipIdx.map fun p => .tuple [.int (p.2 : Nat), f p.1] := by
  unfold numbered
  rw [List.zipIdx_map, List.map_map]
  rfl
section
variable {K : PySem.W.Frag} {σ : L2.St} {G H : Hp} {ta : TA} {ds : List PyData}
theorem numbered_get {i : Nat} {d : PyData} (h : (numbered ds)[i]? = some d) : ∃ e, ds[i]? = some e ∧ d = .tuple [.int (i : Nat), e] := by
  unfold numbered at h
  rw [List.getElem?_map, List.getElem?_zipIdx] at h
  cases e : ds[i]? with
  | none => rw [e] at h; cases h
  | some z =>
    rw [e] at h
    refine ⟨z, rfl, ?_⟩
    simpa using h.symm
/-- a new pair is data -/
theorem new_pair {x : V} {e : PyData} {n : Int} {G1 H1 : Hp} {T : Addr} (gs : Same G1 H1) (hT : H1 T = none) (hz : Dp K G1 x e) :
    ∃ G', Gr G1 H1 G' (upd H1 T (.tup [.int n, x])) ∧ Dp K G' (.ref T) (.tuple [.int n, e]) :=
  ⟨upd G1 T (.tup [.int n, x]), Gr.new gs hT, .tup (.of upd_same) (.cons (.int n) (.cons (dp_mono (same_new (gs.free hT)) _ _ hz) .nil))⟩
theorem es_enumT (h : EA K ta σ G H [.tuple ds]) : ES K (iEnumT K ta) σ G H (numbered ds) := fun G1 H1 g R q => h G1 H1 g _ fun vs G2 H2 g2 hv => by
  cases hv with
  | cons a b =>
    cases b
    cases a with
    | @tup a xs _ hs ha =>
      refine ⟨a, xs, rfl, sqT_mono g2.s hs, q _ G2 H2 g2 fun i G3 H3 gg gs => ?_⟩
      have h3 : SqT K H3 a xs := sqT_mono gs (sqT_mono gg hs)
      refine ⟨fun d hd => ?_, fun hl => ⟨xs, h3, by rw [ha.len, ← hl]; unfold numbered; simp⟩⟩
      obtain ⟨e, he, rfl⟩ := numbered_get hd
      obtain ⟨v, hv, hz⟩ := ha.get he
      refine ⟨⟨xs, v, h3, hv⟩, fun x H' y => ?_⟩
      obtain ⟨T, u, rfl, hT, rfl, y⟩ := y
      have e2 := y xs h3
      rw [hv] at e2
      cases e2
      exact new_pair gs hT (dp_mono gg _ _ hz)
theorem es_enum (h : EA K ta σ G H [.list ds]) : ES K (iEnum K ta) σ G H (numbered ds) := fun G1 H1 g R q => h G1 H1 g _ fun vs G2 H2 g2 hv => by
  cases hv with
  | cons a b =>
    cases b
    cases a with
    | @lst a xs _ hs ha =>
      refine ⟨a, xs, rfl, g2.s.seq hs, q _ G2 H2 g2 fun i G3 H3 gg gs => ?_⟩
      have h3 : SqL K H3 a xs := gs.seq (gg.seq hs)
      refine ⟨fun d hd => ?_, fun hl => ⟨xs, h3, Nat.le_of_eq (by rw [ha.len, ← hl]; unfold numbered; simp)⟩⟩
      obtain ⟨e, he, rfl⟩ := numbered_get hd
      obtain ⟨v, hv, hz⟩ := ha.get he
      refine ⟨⟨xs, v, h3, hv⟩, fun x H' y => ?_⟩
      obtain ⟨T, u, rfl, hT, rfl, y⟩ := y
      have e2 := y xs h3
      rw [hv] at e2
      cases e2
      exact new_pair gs hT (dp_mono gg _ _ hz)
end
end Bw
/-! Vectors over two elements, by their places below m: sums, products, spans, and the lemma of the second orthogonal. -/
namespace Bo
abbrev Vec := Nat → Bool
def vadd (f g : Vec) : Vec := fun i => (f i).xor (g i)
def vzero : Vec := fun _ => false
def EqM (m : Nat) (f g : Vec) : Prop := ∀ i, i < m → f i = g i
theorem EqM.rfl {m : Nat} {f : Vec} : EqM m f f := fun _ _ => Eq.refl _
theorem EqM.symm {m : Nat} {f g : Vec} (h : EqM m f g) : EqM m g f := fun i hi => (h i hi).symm
theorem EqM.trans {m : Nat} {f g k : Vec} (h : EqM m f g) (h' : EqM m g k) : EqM m f k := fun i hi => (h i hi).trans (h' i hi)
theorem EqM.add {m : Nat} {f g f' g' : Vec} (h : EqM m f f') (h' : EqM m g g') : EqM m (vadd f g) (vadd f' g') := fun i hi => by
  show (f i).xor (g i) = (f' i).xor (g' i)
  rw [h i hi, h' i hi]
def dot : Nat → Vec → Vec → Bool
  | 0, _, _ => false
  | m + 1, f, g => (dot m f g).xor (f m && g m)
theorem dot_congr {m : Nat} {f g f' g' : Vec} (h : EqM m f f') (h' : EqM m g g') : dot m f g = dot m f' g' := by
  induction m with
  | zero => rfl
  | succ m ih =>
    show (dot m f g).xor (f m && g m) = (dot m f' g').xor (f' m && g' m)
    rw [ih (fun i hi => h i (by omega)) (fun i hi => h' i (by omega)), h m (by omega), h' m (by omega)]
theorem dot_comm (m : Nat) (f g : Vec) : dot m f g = dot m g f := by
  induction m with
  | zero => rfl
  | succ m ih =>
    show (dot m f g).xor (f m && g m) = (dot m g f).xor (g m && f m)
    rw [ih, Bool.and_comm]
theorem dot_add (m : Nat) (f g k : Vec) : dot m (vadd f g) k = (dot m f k).xor (dot m g k) := by
  induction m with
  | zero => rfl
  | succ m ih =>
    show (dot m (vadd f g) k).xor ((f m).xor (g m) && k m) = ((dot m f k).xor (f m && k m)).xor ((dot m g k).xor (g m && k m))
    rw [ih]
    cases dot m f k <;> cases dot m g k <;> cases f m <;> cases g m <;> cases k m <;> rfl
theorem dot_add' (m : Nat) (f g k : Vec) : dot m k (vadd f g) = (dot m k f).xor (dot m k g) := by
  rw [dot_comm, dot_add, dot_comm m f, dot_comm m g]
theorem dot_zero (m : Nat) (g : Vec) : dot m vzero g = false := by
  induction m with
  | zero => rfl
  | succ m ih =>
    show (dot m vzero g).xor (false && g m) = false
    rw [ih]; rfl
theorem dot_zero' (m : Nat) (g : Vec) : dot m g vzero = false := by rw [dot_comm, dot_zero]
/-- one place alone -/
def unit (j : Nat) : Vec := fun i => decide (i = j)
theorem dot_unit_ge : ∀ {m j : Nat} (f : Vec), m ≤ j → dot m (unit j) f = false
  | 0, _, _, _ => rfl
  | m + 1, j, f, h => by
    show (dot m (unit j) f).xor (decide (m = j) && f m) = false
    rw [dot_unit_ge f (by omega), decide_eq_false (by omega)]; rfl
theorem dot_unit {m j : Nat} (f : Vec) (h : j < m) : dot m (unit j) f = f j := by
  induction m with
  | zero => omega
  | succ m ih =>
    show (dot m (unit j) f).xor (decide (m = j) && f m) = f j
    by_cases e : j = m
    · subst e
      rw [dot_unit_ge f (Nat.le_refl _), decide_eq_true rfl]
      simp
    · rw [ih (by omega), decide_eq_false (by omega)]
      simp
inductive Span (m : Nat) (G : List Vec) : Vec → Prop
  | zero {x : Vec} (h : EqM m x vzero) : Span m G x
  | step {x y g : Vec} (hg : g ∈ G) (hy : Span m G y) (h : EqM m x (vadd y g)) : Span m G x
theorem Span.congr {m : Nat} {G : List Vec} {x y : Vec} (h : Span m G x) (e : EqM m y x) : Span m G y := by
  cases h with
  | zero h => exact .zero (e.trans h)
  | step hg hy h => exact .step hg hy (e.trans h)
theorem Span.mem {m : Nat} {G : List Vec} {g : Vec} (h : g ∈ G) : Span m G g :=
  .step h (.zero EqM.rfl) fun i _ => by show g i = (false).xor (g i); simp
theorem Span.add {m : Nat} {G : List Vec} {x y : Vec} (hx : Span m G x) (hy : Span m G y) : Span m G (vadd x y) := by
  induction hx with
  | zero h => exact hy.congr fun i hi => by show (_ : Bool).xor (y i) = y i; rw [h i hi]; show (false).xor (y i) = y i; simp
  | @step x z g hg _ h ih =>
    refine .step hg ih fun i hi => ?_
    show (x i).xor (y i) = ((z i).xor (y i)).xor (g i)
    rw [h i hi]
    show ((z i).xor (g i)).xor (y i) = ((z i).xor (y i)).xor (g i)
    cases z i <;> cases g i <;> cases y i <;> rfl
theorem Span.sub {m : Nat} {G G' : List Vec} {x : Vec} (h : Span m G x) (s : ∀ g ∈ G, Span m G' g) : Span m G' x := by
  induction h with
  | zero h => exact .zero h
  | step hg _ h ih => exact (ih.add (s _ hg)).congr h
theorem Span.mono {m : Nat} {G G' : List Vec} {x : Vec} (h : Span m G x) (s : ∀ g ∈ G, g ∈ G') : Span m G' x := h.sub fun g hg => .mem (s g hg)
/-- what is orthogonal to the generators is so to the span -/
theorem Span.orth {m : Nat} {G : List Vec} {x y : Vec} (h : Span m G x) (o : ∀ g ∈ G, dot m y g = false) : dot m y x = false := by
  induction h with
  | zero h => rw [dot_congr EqM.rfl h, dot_zero']
  | step hg _ h ih => rw [dot_congr EqM.rfl h, dot_add', ih, o _ hg]; rfl
/-- a vector is a sum of some, or there is one that is orthogonal to them and not to it -/
theorem dual (m : Nat) : ∀ (G : List Vec) (x : Vec), Span m G x ∨ ∃ y, (∀ g ∈ G, dot m y g = false) ∧ dot m y x = true
  | [], x => by
    by_cases h : ∃ i, i < m ∧ x i = true
    · obtain ⟨i, hi, hx⟩ := h
      exact .inr ⟨unit i, fun g hg => (by cases hg), by rw [dot_unit x hi, hx]⟩
    · refine .inl (.zero fun i hi => ?_)
      show x i = false
      cases e : x i with
      | false => rfl
      | true => exact absurd ⟨i, hi, e⟩ h
  | g :: G, x => by
    rcases dual m G x with h | ⟨y, hy, hyx⟩
    · exact .inl (h.mono fun k hk => List.mem_cons_of_mem _ hk)
    · cases eg : dot m y g with
      | false => exact .inr ⟨y, fun k hk => by
          rcases List.mem_cons.mp hk with e | e
          · rw [e]; exact eg
          · exact hy k e, hyx⟩
      | true =>
        rcases dual m G (vadd x g) with h | ⟨z, hz, hzx⟩
        · refine .inl (.step (List.mem_cons_self ..) (h.mono fun k hk => List.mem_cons_of_mem _ hk) fun i _ => ?_)
          show x i = ((x i).xor (g i)).xor (g i)
          cases x i <;> cases g i <;> rfl
        · rw [dot_add'] at hzx
          cases ez : dot m z g with
          | false =>
            rw [ez] at hzx
            refine .inr ⟨z, fun k hk => ?_, by simpa using hzx⟩
            rcases List.mem_cons.mp hk with e | e
            · rw [e]; exact ez
            · exact hz k e
          | true =>
            rw [ez] at hzx
            have hzx' : dot m z x = false := by simpa using hzx
            refine .inr ⟨vadd y z, fun k hk => ?_, by rw [dot_add, hyx, hzx']; rfl⟩
            rw [dot_add]
            rcases List.mem_cons.mp hk with e | e
            · rw [e, eg, ez]; rfl
            · rw [hy k e, hz k e]; rfl
end Bo
/-! Webs: stars, cuts, even lots. -/
namespace Bo
abbrev Ties := List (Nat × Nat)
def ends (T : Ties) (k : Nat) : Nat × Nat := T.getD k (0, 0)
def Web (n : Nat) (T : Ties) : Prop := ∀ e ∈ T, e.1 < e.2 ∧ e.2 < n
theorem ends_mem {T : Ties} {k : Nat} (h : k < T.length) : ends T k ∈ T := by
  unfold ends
  rw [List.getD_eq_getElem?_getD, List.getElem?_eq_getElem h]
  exact List.getElem_mem h
theorem Web.lt {n : Nat} {T : Ties} (w : Web n T) {k : Nat} (h : k < T.length) : (ends T k).1 < (ends T k).2 ∧ (ends T k).2 < n := w _ (ends_mem h)
def star (T : Ties) (p : Nat) : Vec := fun k => decide ((ends T k).1 = p) || decide ((ends T k).2 = p)
def cutv (T : Ties) (s : Nat → Bool) : Vec := fun k => (s (ends T k).1).xor (s (ends T k).2)
def stars (n : Nat) (T : Ties) : List Vec := (List.range n).map (star T)
theorem mem_stars {n : Nat} {T : Ties} {g : Vec} : g ∈ stars n T ↔ ∃ p, p < n ∧ star T p = g := by
  unfold stars
  rw [List.mem_map]
  constructor
  · rintro ⟨p, hp, e⟩
    exact ⟨p, List.mem_range.mp hp, e⟩
  · rintro ⟨p, hp, e⟩
    exact ⟨p, List.mem_range.mpr hp, e⟩
def IsEven (n : Nat) (T : Ties) (x : Vec) : Prop := ∀ p, p < n → dot T.length x (star T p) = false
def IsCut (T : Ties) (x : Vec) : Prop := ∃ s, EqM T.length x (cutv T s)
section
variable {n : Nat} {T : Ties}
theorem IsEven.congr {x y : Vec} (h : IsEven n T x) (e : EqM T.length y x) : IsEven n T y := fun p hp => by
  rw [dot_congr e EqM.rfl]
  exact h p hp
theorem IsCut.congr {x y : Vec} (h : IsCut T x) (e : EqM T.length y x) : IsCut T y := let ⟨s, z⟩ := h; ⟨s, e.trans z⟩
theorem IsEven.add {x y : Vec} (h : IsEven n T x) (h' : IsEven n T y) : IsEven n T (vadd x y) := fun p hp => by
  rw [dot_add, h p hp, h' p hp]; rfl
theorem IsEven.zero : IsEven n T vzero := fun _ _ => dot_zero _ _
theorem cutv_add (s t : Nat → Bool) : vadd (cutv T s) (cutv T t) = cutv T fun p => (s p).xor (t p) := by
  funext k
  show ((s _).xor (s _)).xor ((t _).xor (t _)) = ((s _).xor (t _)).xor ((s _).xor (t _))
  cases s (ends T k).1 <;> cases s (ends T k).2 <;> cases t (ends T k).1 <;> cases t (ends T k).2 <;> rfl
theorem IsCut.add {x y : Vec} (h : IsCut T x) (h' : IsCut T y) : IsCut T (vadd x y) := by
  obtain ⟨s, z⟩ := h
  obtain ⟨t, z'⟩ := h'
  exact ⟨_, (EqM.add z z').trans fun i _ => by rw [cutv_add]⟩
theorem IsCut.zero : IsCut T vzero := ⟨fun _ => false, fun _ _ => rfl⟩
theorem star_cut (w : Web n T) (p : Nat) : EqM T.length (star T p) (cutv T fun q => decide (q = p)) := fun k hk => by
  have h := w.lt hk
  show (decide _ || decide _) = Bool.xor (decide _) (decide _)
  by_cases a : (ends T k).1 = p <;> by_cases b : (ends T k).2 = p
  · omega
  · simp [a, b]
  · simp [a, b]
  · simp [a, b]
theorem star_isCut (w : Web n T) (p : Nat) : IsCut T (star T p) := ⟨_, star_cut w p⟩
theorem span_cut (w : Web n T) {x : Vec} (h : Span T.length (stars n T) x) : IsCut T x := by
  induction h with
  | zero h => exact IsCut.zero.congr h
  | step hg _ h ih =>
    obtain ⟨p, _, e⟩ := mem_stars.mp hg
    rw [← e] at h
    exact (ih.add (star_isCut w p)).congr h
/-- a cut is the sum of its places' stars -/
theorem cut_span (w : Web n T) (s : Nat → Bool) : Span T.length (stars n T) (cutv T s) := by
  have key : ∀ j, j ≤ n → Span T.length (stars n T) (cutv T fun q => s q && decide (q < j)) := by
    intro j
    induction j with
    | zero =>
      intro _
      refine .zero fun k _ => ?_
      show Bool.xor (_ && decide (_ < 0)) (_ && decide (_ < 0)) = false
      simp
    | succ j ih =>
      intro hj
      have h0 := ih (by omega)
      cases e : s j with
      | false =>
        refine h0.congr fun k _ => ?_
        have q : ∀ x, (s x && decide (x < j + 1)) = (s x && decide (x < j)) := by
          intro x
          by_cases hx : x = j
          · rw [hx, e]; rfl
          · have : decide (x < j + 1) = decide (x < j) := by
              by_cases h : x < j
              · rw [decide_eq_true h, decide_eq_true (by omega)]
              · rw [decide_eq_false h, decide_eq_false (by omega)]
            rw [this]
        show Bool.xor (s _ && decide (_ < j + 1)) (s _ && decide (_ < j + 1)) = Bool.xor (s _ && decide (_ < j)) (s _ && decide (_ < j))
        rw [q, q]
      | true =>
        refine .step (g := star T j) (mem_stars.mpr ⟨j, by omega, rfl⟩) h0 fun k hk => ?_
        have q : ∀ x, (s x && decide (x < j + 1)) = Bool.xor (s x && decide (x < j)) (decide (x = j)) := by
          intro x
          by_cases hx : x = j
          · rw [hx, e]; simp
          · have : decide (x < j + 1) = decide (x < j) := by
              by_cases h : x < j
              · rw [decide_eq_true h, decide_eq_true (by omega)]
              · rw [decide_eq_false h, decide_eq_false (by omega)]
            rw [this, decide_eq_false hx]; simp
        show Bool.xor (s _ && _) (s _ && _) = Bool.xor (Bool.xor (s _ && _) (s _ && _)) (star T j k)
        rw [q, q, star_cut w j k hk]
        show _ = Bool.xor _ (Bool.xor (decide ((ends T k).1 = j)) (decide ((ends T k).2 = j)))
        cases s (ends T k).1 && decide ((ends T k).1 < j) <;> cases s (ends T k).2 && decide ((ends T k).2 < j) <;> cases decide ((ends T k).1 = j) <;> cases decide ((ends T k).2 = j) <;> rfl
  refine (key n (Nat.le_refl _)).congr fun k hk => ?_
  have h := w.lt hk
  show Bool.xor (s _) (s _) = Bool.xor (s _ && _) (s _ && _)
  rw [decide_eq_true (show (ends T k).1 < n by omega), decide_eq_true h.2, Bool.and_true, Bool.and_true]
theorem cut_iff (w : Web n T) (x : Vec) : IsCut T x ↔ Span T.length (stars n T) x :=
  ⟨fun ⟨s, e⟩ => (cut_span w s).congr e, span_cut w⟩
theorem even_cut (w : Web n T) {x y : Vec} (h : IsEven n T x) (h' : IsCut T y) : dot T.length x y = false :=
  ((cut_iff w y).mp h').orth fun g hg => by
    obtain ⟨p, hp, e⟩ := mem_stars.mp hg
    rw [← e]
    exact h p hp
/-- what meets all even lots evenly is a cut -/
theorem cut_of_orth (w : Web n T) {y : Vec} (h : ∀ x, IsEven n T x → dot T.length y x = false) : IsCut T y := by
  rcases dual T.length (stars n T) y with z | ⟨x, hx, hy⟩
  · exact span_cut w z
  · have ev : IsEven n T x := fun p hp => hx _ (mem_stars.mpr ⟨p, hp, rfl⟩)
    rw [dot_comm, h x ev] at hy
    cases hy
/-- the second orthogonal of cuts with even lots: E a list of vectors that spans the even lots -/
theorem both_orth (w : Web n T) {E : List Vec} (hE : ∀ x, IsEven n T x → Span T.length E x) (hE' : ∀ g ∈ E, IsEven n T g) {z : Vec} (h : ∀ y, IsEven n T y → IsCut T y → dot T.length y z = false) :
    ∃ c e, IsCut T c ∧ IsEven n T e ∧ EqM T.length z (vadd c e) := by
  rcases dual T.length (stars n T ++ E) z with q | ⟨y, hy, hz⟩
  · clear h
    induction q with
    | zero h => exact ⟨vzero, vzero, .zero, .zero, h⟩
    | @step x y g hg _ h ih =>
      obtain ⟨c, e, hc, he, hx⟩ := ih
      rcases List.mem_append.mp hg with q | q
      · obtain ⟨p, _, ep⟩ := mem_stars.mp q
        refine ⟨vadd c g, e, hc.add (by rw [← ep]; exact star_isCut w p), he, h.trans fun i hi => ?_⟩
        show (y i).xor (g i) = ((c i).xor (g i)).xor (e i)
        rw [hx i hi]
        show ((c i).xor (e i)).xor (g i) = ((c i).xor (g i)).xor (e i)
        cases c i <;> cases e i <;> cases g i <;> rfl
      · refine ⟨c, vadd e g, hc, he.add (hE' g q), h.trans fun i hi => ?_⟩
        show (y i).xor (g i) = (c i).xor ((e i).xor (g i))
        rw [hx i hi]
        show ((c i).xor (e i)).xor (g i) = (c i).xor ((e i).xor (g i))
        cases c i <;> cases e i <;> cases g i <;> rfl
  · have ev : IsEven n T y := fun p hp => hy _ (List.mem_append.mpr (.inl (mem_stars.mpr ⟨p, hp, rfl⟩)))
    have cu : IsCut T y := cut_of_orth w fun x hx => by
      refine (hE x hx).orth fun g hg => hy g (List.mem_append.mpr (.inr hg))
    rw [h y ev cu] at hz
    cases hz
theorem dot_single {m k : Nat} {f g : Vec} (hk : k < m) (h : ∀ i, i < m → i ≠ k → (f i && g i) = false) : dot m f g = (f k && g k) := by
  induction m with
  | zero => omega
  | succ m ih =>
    show (dot m f g).xor (f m && g m) = _
    by_cases e : k = m
    · subst e
      have z : ∀ j, j ≤ k → dot j f g = false := by
        intro j
        induction j with
        | zero => intro _; rfl
        | succ j ih =>
          intro hj
          show (dot j f g).xor (f j && g j) = false
          rw [ih (by omega), h j (by omega) (by omega)]; rfl
      rw [z k (Nat.le_refl _)]
      simp
    · rw [ih (by omega) fun i hi ne => h i (by omega) ne, h m (by omega) (fun q => e q.symm)]
      simp
/-- rounds made by the ties that a tree leaves out span the even lots -/
theorem tree_span {tree : Vec} {R : List Vec} (ht : ∀ x, IsEven n T x → (∀ k, k < T.length → x k = true → tree k = true) → EqM T.length x vzero)
    (hR : ∀ k, k < T.length → tree k = false → ∃ r ∈ R, IsEven n T r ∧ r k = true ∧ ∀ j, j < T.length → j ≠ k → r j = true → tree j = true) {x : Vec} (hx : IsEven n T x) : Span T.length R x := by
  have key : ∀ j, j ≤ T.length → ∃ y, IsEven n T y ∧ Span T.length R (vadd x y) ∧ ∀ k, k < j → y k = true → tree k = true := by
    intro j
    induction j with
    | zero => exact fun _ => ⟨x, hx, .zero fun i _ => by show (x i).xor (x i) = false; simp, fun k hk => by omega⟩
    | succ j ih =>
      intro hj
      obtain ⟨y, hy, hs, hk⟩ := ih (by omega)
      by_cases c : y j = true ∧ tree j = false
      · obtain ⟨r, hr, er, rj, ro⟩ := hR j (by omega) c.2
        refine ⟨vadd y r, hy.add er, ?_, fun k hk' e => ?_⟩
        · refine .step hr hs fun i _ => ?_
          show (x i).xor ((y i).xor (r i)) = ((x i).xor (y i)).xor (r i)
          cases x i <;> cases y i <;> cases r i <;> rfl
        · by_cases ek : k = j
          · subst ek
            have : Bool.xor (y k) (r k) = true := e
            rw [c.1, rj] at this
            cases this
          · have e' : Bool.xor (y k) (r k) = true := e
            cases ey : y k with
            | true => exact hk k (by omega) ey
            | false =>
              rw [ey] at e'
              exact ro k (by omega) ek (by simpa using e')
      · refine ⟨y, hy, hs, fun k hk' e => ?_⟩
        by_cases ek : k = j
        · subst ek
          cases q : tree k with
          | true => rfl
          | false => exact absurd ⟨e, q⟩ c
        · exact hk k (by omega) e
  obtain ⟨y, hy, hs, hk⟩ := key _ (Nat.le_refl _)
  have z := ht y hy hk
  exact hs.congr fun i hi => by
    show x i = (x i).xor (y i)
    rw [z i hi]
    show x i = (x i).xor false
    simp
end
end Bo
/-! The program's defs as plain functions. -/
namespace Bo
def tiesAt (T : Ties) (p : Nat) : List Nat := (T.zipIdx.filter fun q => decide (p = q.1.1 ∨ p = q.1.2)).map (·.2)
def tieBit (m t : Nat) : Nat := 2 ^ (m - 1 - t)
def bitsOf (m : Nat) (lot : List Nat) : Nat := (lot.map (tieBit m)).sum
def parOne (T : Ties) (f t : Nat) : Nat := f ^^^ 2 ^ (ends T t).1 ^^^ 2 ^ (ends T t).2
def lotPar (T : Ties) (lot : List Nat) : Nat := lot.foldl (parOne T) 0
def parStep (pb own : Nat × Nat) : Nat × Nat := if pb.1 ^^^ own.1 < pb.1 then (pb.1 ^^^ own.1, pb.2 ^^^ own.2) else pb
def parLeft (pairs : List (Nat × Nat)) (pb : Nat × Nat) : Nat × Nat := pairs.foldl parStep pb
abbrev Rows := List (Nat × Nat) × List Nat
def rowStep (T : Ties) (st : Rows) (p : Nat) : Rows :=
  let r := parLeft st.1 (lotPar T (tiesAt T p), bitsOf T.length (tiesAt T p))
  if r.1 = 0 then (st.1, st.2 ++ [r.2]) else (st.1 ++ [r], st.2)
def parRows (n : Nat) (T : Ties) : Rows := ((List.range (n - 1)).map (1 + ·)).foldl (rowStep T) ([], [])
abbrev Known := List (Nat × Nat)
def redTurn (b : Nat) (fv : Nat × Nat) : Nat := if b &&& fv.1 ≠ 0 then b ^^^ fv.2 else b
def redOne (known : Known) (row : Nat) : Nat := known.foldl redTurn row
def redFix (fr b : Nat) (fv : Nat × Nat) : Nat × Nat := (fv.1, if fv.2 &&& fr ≠ 0 then fv.2 ^^^ b else fv.2)
def redStep (known : Known) (row : Nat) : Known :=
  let b := redOne known row
  if b = 0 then known else known.map (redFix (2 ^ b.log2) b) ++ [(2 ^ b.log2, b)]
def sortN (l : List Nat) : List Nat := l.mergeSort (fun a b => decide (a ≤ b))
def valN {α : Type} (kvs : List (Nat × α)) (k : Nat) : Option α := (kvs.find? fun kv => decide (kv.1 = k)).map (·.2)
def reduced (rows : List Nat) : List Nat :=
  let k := rows.foldl redStep []
  (sortN (k.map (·.1))).reverse.map fun f => (valN k f).getD 0
def baseBits (n : Nat) (T : Ties) : List Nat := reduced (parRows n T).2
def column (base : List Nat) (bit : Nat) : Nat := ((base.zipIdx.filter fun q => decide (q.1 &&& bit ≠ 0)).map fun q => 2 ^ q.2).sum
def columns (n : Nat) (T : Ties) : List Nat := (List.range T.length).map fun t => column (baseBits n T) (tieBit T.length t)
def restOf (cols : List Nat) (lot : List Nat) : Nat := lot.foldl (fun f t => f ^^^ cols.getD t 0) 0
/-- a while, so many turns at most -/
def runW {S : Type} (c : S → Bool) (f : S → S) : Nat → S → S
  | 0, s => s
  | n + 1, s => if c s then runW c f n (f s) else s
def stepsOf (cols : List Nat) : List (Nat × Nat) := cols.zipIdx.foldl (fun st ct => if ct.1 ≠ 0 ∧ valN st ct.1 = none then st ++ [(ct.1, ct.2)] else st) []
structure Bfs where
  found : List (Nat × List Nat)
  waiting : List Nat
  place : Nat
def bfsTurn (here : Nat) (lot : List Nat) (fw : List (Nat × List Nat) × List Nat) (ct : Nat × Nat) : List (Nat × List Nat) × List Nat :=
  if valN fw.1 (here ^^^ ct.1) = none then (fw.1 ++ [(here ^^^ ct.1, lot ++ [ct.2])], fw.2 ++ [here ^^^ ct.1]) else fw
def bfsStep (steps : List (Nat × Nat)) (s : Bfs) : Bfs :=
  let here := s.waiting.getD s.place 0
  let r := steps.foldl (bfsTurn here ((valN s.found here).getD [])) (s.found, s.waiting)
  ⟨r.1, r.2, s.place + 1⟩
def bfsGo (s : Bfs) : Bool := decide (s.place < s.waiting.length)
def shortest (cols : List Nat) : List (Nat × List Nat) := (runW bfsGo (bfsStep (stepsOf cols)) 4096 ⟨[(0, [])], [0], 0⟩).found
/-! trees -/
def treeTurn (st : List Nat × List Nat) (q : (Nat × Nat) × Nat) : List Nat × List Nat :=
  let l := st.2.getD q.1.1 0
  let r := st.2.getD q.1.2 0
  if l = r then st else (st.1 ++ [q.2], st.2.map fun h => if h = r then l else h)
def treeRun (n : Nat) (T : Ties) : List Nat × List Nat := T.zipIdx.foldl treeTurn ([], List.range n)
def firstTree (n : Nat) (T : Ties) : List Nat := (treeRun n T).1
def goalOf (e : Nat × Nat) (p : Nat) : Nat := if e.1 = p then e.2 else e.1
structure Dfs where
  known : List (Nat × List Nat)
  waiting : List Nat
def dfsTurn (T : Ties) (p : Nat) (s : Dfs) (t : Nat) : Dfs :=
  if p = (ends T t).1 ∨ p = (ends T t).2 then
    (if valN s.known (goalOf (ends T t) p) = none then ⟨s.known ++ [(goalOf (ends T t) p, (valN s.known p).getD [] ++ [t])], s.waiting ++ [goalOf (ends T t) p]⟩ else s)
  else s
def dfsStep (T : Ties) (tree : List Nat) (s : Dfs) : Dfs := tree.foldl (dfsTurn T (s.waiting.getLastD 0)) ⟨s.known, s.waiting.dropLast⟩
def dfsGo (other : Nat) (s : Dfs) : Bool := (valN s.known other).isNone
def wayIn (T : Ties) (tree : List Nat) (one other : Nat) : List Nat := (valN (runW (dfsGo other) (dfsStep T tree) 64 ⟨[(one, [])], [one]⟩).known other).getD []
def treeRounds (n : Nat) (T : Ties) : List (List Nat) :=
  (T.zipIdx.filter fun q => decide (q.2 ∉ firstTree n T)).map fun q => sortN (q.2 :: wayIn T (firstTree n T) q.1.1 q.1.2)
def marksOf (lots : List (List Nat)) (t : Nat) : List Bool := lots.map fun l => decide (t ∈ l)
def valB (kvs : List (List Bool × Nat)) (k : List Bool) : Option Nat := (kvs.find? fun kv => decide (kv.1 = k)).map (·.2)
/-- the ties from t on, k of them -/
def thinGo (lots : List (List Nat)) : Nat → Nat → List (List Bool × Nat) → Option (List Nat)
  | 0, _, _ => none
  | k + 1, t, met =>
    if (marksOf lots t).any id = false then some [t]
    else match valB met (marksOf lots t) with
      | some u => some [u, t]
      | none => thinGo lots k (t + 1) (met ++ [(marksOf lots t, t)])
def thinCut (n : Nat) (T : Ties) : Option (List Nat) := thinGo (treeRounds n T) T.length 0 []
/-! what mended tells -/
def oddTies (one other : List Int) : List Nat := ((one.zip other).zipIdx.filter fun q => decide ((q.1.2 - q.1.1) % 2 = 1)).map (·.2)
def nudge (x : Int) : Int := if x > 0 then x - 1 else x + 1
def mendWith (ties : List Nat) (one : List Int) : List Int := ties.foldl (fun f t => f.set t (nudge (f.getD t 0))) one
def mendLot (n : Nat) (T : Ties) (one other : List Int) : List Nat := (valN (shortest (columns n T)) (restOf (columns n T) (oddTies one other))).getD []
def mended (n : Nat) (T : Ties) (one other : List Int) : List Int := mendWith (mendLot n T one other) one
end Bo
set_option Elab.async false
set_option linter.all false
set_option maxRecDepth 100000
set_option maxHeartbeats 4000000
/-! The text, its facts; encodings; more operations by data. -/
namespace Bw
open PySem PySem.Spec PyProof.Rows L2 Bo
def top (i : Nat) : Stmt := PySem.Challenge.pw_botheven_k78_whole_standings_mended.main.body.getD i (.Pass ⟨0, 0, 0, 0⟩)
/-- what the module's top leaves free -/
structure Txt (mg : Str → Option Value) : Prop where
  tuple_ : mg "tuple" = none
  list_ : mg "list" = none
  int_ : mg "int" = none
  set_ : mg "set" = none
  bool_ : mg "bool" = none
  len : mg "len" = none
  sum : mg "sum" = none
  abs : mg "abs" = none
  min : mg "min" = none
  max : mg "max" = none
  any : mg "any" = none
  sorted : mg "sorted" = none
  range : mg "range" = none
  enumerate : mg "enumerate" = none
  zip : mg "zip" = none
  repr : mg "repr" = none
  isinstance : mg "isinstance" = none
  maxGap : ∃ t, mg "MAX_GAP" = some (.int 10 t)

/-! ### encodings -/
abbrev natD (k : Nat) : PyData := .int (k : Int)
abbrev tieD (e : Nat × Nat) : PyData := .tuple [natD e.1, natD e.2]
abbrev webD (n : Nat) (T : List (Nat × Nat)) : PyData := .tuple [natD n, .tuple (T.map tieD)]
abbrev natsT (l : List Nat) : PyData := .tuple (l.map natD)
abbrev natsL (l : List Nat) : PyData := .list (l.map natD)
theorem natD_ints (l : List Nat) : l.map natD = (l.map fun k : Nat => (k : Int)).map PyData.int := by rw [List.map_map]; rfl

/-! ### calls of built-ins -/
abbrev rLenS (K : PySem.W.Frag) : List V → Hp → VK → Prop := fun xs H Q => ∃ p ys, xs = [.ref p] ∧ (SqL K H p ys ∨ SqT K H p ys) ∧ Q (.int ys.length) H
abbrev rListS (K : PySem.W.Frag) : List V → Hp → VK → Prop := fun xs H Q => ∃ p ys, xs = [.ref p] ∧ (SqL K H p ys ∨ SqT K H p ys) ∧ ∀ l, H l = none → Q (.ref l) (upd H l (.lst ys))
abbrev rTupS (K : PySem.W.Frag) : List V → Hp → VK → Prop := fun xs H Q => ∃ p ys, xs = [.ref p] ∧ ((SqL K H p ys ∧ ∀ l, H l = none → Q (.ref l) (upd H l (.tup ys))) ∨ (SqT K H p ys ∧ Q (.ref p) H))
abbrev rAbs : List V → Hp → VK → Prop := fun xs H Q => ∃ i, xs = [.int i] ∧ Q (.int (if i < 0 then -i else i)) H
abbrev rMin2 : List V → Hp → VK → Prop := fun xs H Q => ∃ i j, xs = [.int i, .int j] ∧ Q (.int (if j < i then j else i)) H
abbrev rMax2 : List V → Hp → VK → Prop := fun xs H Q => ∃ i j, xs = [.int i, .int j] ∧ Q (.int (if j > i then j else i)) H
abbrev rInt1 : List V → Hp → VK → Prop := fun xs H Q => (∃ i, xs = [.int i] ∧ Q (.int i) H) ∨ ∃ k, xs = [.bl k] ∧ Q (.int (if k then 1 else 0)) H
section
variable {K : PySem.W.Frag} {ds es : List PyData} {d : PyData}
theorem ra_lenT : RA K (rLenS K) [.tuple ds] (natD ds.length) := fun xs G H s hx Q q => by
  cases hx with
  | cons a b =>
    cases b
    cases a with
    | @tup a ys _ hs ha => exact ⟨a, ys, rfl, .inr (sqT_mono s hs), by rw [ha.len]; exact q _ G H (Gr.refl s) (.int _)⟩
theorem ra_lenL : RA K (rLenS K) [.list ds] (natD ds.length) := fun xs G H s hx Q q => by
  cases hx with
  | cons a b =>
    cases b
    cases a with
    | @lst a ys _ hs ha => exact ⟨a, ys, rfl, .inl (s.seq hs), by rw [ha.len]; exact q _ G H (Gr.refl s) (.int _)⟩
theorem ra_tupL : RA K (rTupS K) [.list ds] (.tuple ds) := fun xs G H s hx Q q => by
  cases hx with
  | cons a b =>
    cases b
    cases a with
    | @lst a ys _ hs ha => exact ⟨a, ys, rfl, .inl ⟨s.seq hs, fun l hl => q _ _ _ (Gr.new s hl) (.tup (.of upd_same) (dpa_mono (same_new (s.free hl)) _ _ ha))⟩⟩
theorem ra_listL : RA K (rListS K) [.list ds] (.list ds) := fun xs G H s hx Q q => by
  cases hx with
  | cons a b =>
    cases b
    cases a with
    | @lst a ys _ hs ha => exact ⟨a, ys, rfl, .inl (s.seq hs), fun l hl => q _ _ _ (Gr.new s hl) (.lst (.of upd_same) (dpa_mono (same_new (s.free hl)) _ _ ha))⟩
theorem ra_listT : RA K (rListS K) [.tuple ds] (.list ds) := fun xs G H s hx Q q => by
  cases hx with
  | cons a b =>
    cases b
    cases a with
    | @tup a ys _ hs ha => exact ⟨a, ys, rfl, .inr (sqT_mono s hs), fun l hl => q _ _ _ (Gr.new s hl) (.lst (.of upd_same) (dpa_mono (same_new (s.free hl)) _ _ ha))⟩
theorem ra_sum {ns : List Int} : RA K (rSum K) [.list (ns.map PyData.int)] (.int ns.sum) := fun xs G H s hx Q q => by
  cases hx with
  | cons a b =>
    cases b
    cases a with
    | @lst a ys _ hs ha =>
      have e := ha.ints
      subst e
      exact ⟨a, ns, rfl, s.seq hs, q _ G H (Gr.refl s) (.int _)⟩
theorem ra_abs {i : Int} : RA K rAbs [.int i] (.int (if i < 0 then -i else i)) := fun xs G H s hx Q q => by
  cases hx with
  | cons a b => cases b; cases a; exact ⟨i, rfl, q _ G H (Gr.refl s) (.int _)⟩
theorem ra_min2 {i j : Int} : RA K rMin2 [.int i, .int j] (.int (if j < i then j else i)) := fun xs G H s hx Q q => by
  cases hx with
  | cons a b =>
    cases a
    cases b with
    | cons a b => cases b; cases a; exact ⟨i, j, rfl, q _ G H (Gr.refl s) (.int _)⟩
theorem ra_max2 {i j : Int} : RA K rMax2 [.int i, .int j] (.int (if j > i then j else i)) := fun xs G H s hx Q q => by
  cases hx with
  | cons a b =>
    cases a
    cases b with
    | cons a b => cases b; cases a; exact ⟨i, j, rfl, q _ G H (Gr.refl s) (.int _)⟩
theorem ra_intI {i : Int} : RA K rInt1 [.int i] (.int i) := fun xs G H s hx Q q => by
  cases hx with
  | cons a b => cases b; cases a; exact .inl ⟨i, rfl, q _ G H (Gr.refl s) (.int _)⟩
theorem ra_intB {k : Bool} : RA K rInt1 [.bool k] (.int (if k then 1 else 0)) := fun xs G H s hx Q q => by
  cases hx with
  | cons a b => cases b; cases a; exact .inr ⟨k, rfl, q _ G H (Gr.refl s) (.int _)⟩
end

/-! ### whole numbers that are not below 0 -/
section
variable {K : PySem.W.Frag} {a b : Nat} {d e z : PyData} {r : R2} {G : Hp} {vs : List V} {d1 d2 d3 d4 : PyData}
theorem RD.is {d' e' z' : PyData} (h : RD K r d e z) (h1 : d = d') (h2 : e = e') (h3 : z = z') : RD K r d' e' z' := h1 ▸ h2 ▸ h3 ▸ h
theorem rd_xorN : RD K (rI0 fun i j => .int (Builtin.bitXor i j)) (natD a) (natD b) (natD (a ^^^ b)) := rd_I0.is rfl rfl (by
  rw [Bits.bitXor_pp (Int.natCast_nonneg _) (Int.natCast_nonneg _)]; rfl)
theorem rd_andN : RD K (rI0 fun i j => .int (Builtin.bitAnd i j)) (natD a) (natD b) (natD (a &&& b)) := rd_I0.is rfl rfl (by
  rw [bitAnd_pp (Int.natCast_nonneg _) (Int.natCast_nonneg _)]; rfl)
theorem rd_shlN (h1 : a < 2 ^ 64) (h2 : b ≤ 1000000) : RD K (rI CPow fun i j => .int (i * 2 ^ j.toNat)) (natD a) (natD b) (natD (a * 2 ^ b)) := (rd_I (C := CPow) ⟨Int.natCast_nonneg _, by omega, by simpa using h1⟩).is rfl rfl (by
  show PyData.int _ = PyData.int _
  rw [Int.toNat_natCast, Int.natCast_mul, Int.natCast_pow]; rfl)
theorem rd_shlN' {i j : Int} (h1 : i = (a : Int)) (h2 : j = (b : Int)) (h3 : a < 2 ^ 64) (h4 : b ≤ 1000000) : RD K (rI CPow fun i j => .int (i * 2 ^ j.toNat)) (.int i) (.int j) (natD (a * 2 ^ b)) := by
  subst h1 h2; exact rd_shlN h3 h4
theorem rd_shrN : RD K (rI (fun _ j => 0 ≤ j) fun i j => .int (i / 2 ^ j.toNat)) (natD a) (natD b) (natD (a / 2 ^ b)) := (rd_I (C := fun _ j => 0 ≤ j) (Int.natCast_nonneg _)).is rfl rfl (by
  show PyData.int _ = PyData.int _
  rw [Int.toNat_natCast, Int.natCast_ediv, Int.natCast_pow]; rfl)
theorem rd_addN : RD K (rI0 fun i j => .int (i + j)) (natD a) (natD b) (natD (a + b)) := rd_I0.is rfl rfl (by
  show PyData.int _ = PyData.int _
  rw [Int.natCast_add])
theorem rd_subN (h : b ≤ a) : RD K (rI0 fun i j => .int (i - j)) (natD a) (natD b) (natD (a - b)) := rd_I0.is rfl rfl (by
  show PyData.int _ = PyData.int _
  rw [Int.natCast_sub h])
theorem rd_modN (h : 0 < b) : RD K (rI (fun _ j => 0 < j) fun i j => .int (i % j)) (natD a) (natD b) (natD (a % b)) := (rd_I (C := fun _ j => 0 < j) (by omega)).is rfl rfl (by
  show PyData.int _ = PyData.int _
  rw [Int.natCast_emod])
theorem rd_eqN : RD K rEq (natD a) (natD b) (.bool (decide (a = b))) := rd_eqI.is rfl rfl (by
  have : decide ((a : Int) = b) = decide (a = b) := decide_eq_decide.mpr Int.natCast_inj
  rw [this])
theorem rd_neN : RD K rNe (natD a) (natD b) (.bool (!decide (a = b))) := rd_neI.is rfl rfl (by
  have : decide ((a : Int) = b) = decide (a = b) := decide_eq_decide.mpr Int.natCast_inj
  rw [this])
theorem rd_ltN : RD K (rI0 fun i j => .bl (decide (i < j))) (natD a) (natD b) (.bool (decide (a < b))) := rd_B0.is rfl rfl (by
  have : decide ((a : Int) < b) = decide (a < b) := decide_eq_decide.mpr Int.ofNat_lt
  rw [this])
theorem rd_gtN : RD K (rI0 fun i j => .bl (decide (j < i))) (natD a) (natD b) (.bool (decide (b < a))) := rd_B0.is rfl rfl (by
  have : decide ((b : Int) < a) = decide (b < a) := decide_eq_decide.mpr Int.ofNat_lt
  rw [this])
theorem rd_inTN {neg : Bool} {ns : List Nat} : RD K (rIn K neg) (natD a) (natsT ns) (.bool (if neg then !decide (a ∈ ns) else decide (a ∈ ns))) := (rd_inT (ns := ns.map fun k : Nat => (k : Int))).is rfl (by rw [← natD_ints]) (by
  have : decide ((a : Int) ∈ ns.map fun k : Nat => (k : Int)) = decide (a ∈ ns) := decide_eq_decide.mpr (by
    rw [List.mem_map]
    exact ⟨fun ⟨x, hx, e⟩ => Int.natCast_inj.mp e ▸ hx, fun h => ⟨a, h, rfl⟩⟩)
  rw [this])
theorem rd_inLN {neg : Bool} {ns : List Nat} : RD K (rIn K neg) (natD a) (natsL ns) (.bool (if neg then !decide (a ∈ ns) else decide (a ∈ ns))) := (rd_inL (ns := ns.map fun k : Nat => (k : Int))).is rfl (by rw [← natD_ints]) (by
  have : decide ((a : Int) ∈ ns.map fun k : Nat => (k : Int)) = decide (a ∈ ns) := decide_eq_decide.mpr (by
    rw [List.mem_map]
    exact ⟨fun ⟨x, hx, e⟩ => Int.natCast_inj.mp e ▸ hx, fun h => ⟨a, h, rfl⟩⟩)
  rw [this])
theorem sum_cast (l : List Nat) : (l.map fun k : Nat => (k : Int)).sum = ((l.sum : Nat) : Int) := by
  induction l with
  | nil => rfl
  | cons a l ih => rw [List.map_cons, List.sum_cons, List.sum_cons, ih, Int.natCast_add]
theorem ra_sumN {ns : List Nat} : RA K (rSum K) [natsL ns] (natD ns.sum) := by
  have h := ra_sum (K := K) (ns := ns.map fun k : Nat => (k : Int))
  rw [← natD_ints, sum_cast] at h
  exact h
theorem dpa1 (h : DpAll K G vs [d1]) : ∃ v, vs = [v] ∧ Dp K G v d1 := by
  cases h with
  | cons a b => cases b; exact ⟨_, rfl, a⟩
theorem dpa2 (h : DpAll K G vs [d1, d2]) : ∃ v w, vs = [v, w] ∧ Dp K G v d1 ∧ Dp K G w d2 := by
  cases h with
  | cons a b =>
    obtain ⟨w, rfl, e⟩ := dpa1 b
    exact ⟨_, w, rfl, a, e⟩
theorem dpa3 (h : DpAll K G vs [d1, d2, d3]) : ∃ v w u, vs = [v, w, u] ∧ Dp K G v d1 ∧ Dp K G w d2 ∧ Dp K G u d3 := by
  cases h with
  | cons a b =>
    obtain ⟨w, u, rfl, e, f⟩ := dpa2 b
    exact ⟨_, w, u, rfl, a, e, f⟩
theorem dpa4 (h : DpAll K G vs [d1, d2, d3, d4]) : ∃ v w u t, vs = [v, w, u, t] ∧ Dp K G v d1 ∧ Dp K G w d2 ∧ Dp K G u d3 ∧ Dp K G t d4 := by
  cases h with
  | cons a b =>
    obtain ⟨w, u, t, rfl, e, f, g⟩ := dpa3 b
    exact ⟨_, w, u, t, rfl, a, e, f, g⟩
theorem dp_int {v : V} {i : Int} (h : Dp K G v (.int i)) : v = .int i := by cases h; rfl
theorem dp_bool {v : V} {i : Bool} (h : Dp K G v (.bool i)) : v = .bl i := by cases h; rfl
/-- the item of an encoded list -/
theorem get_map {α : Type} {xs : List α} {f : α → PyData} {i : Nat} (h : i < xs.length) : (xs.map f)[i]? = some (f xs[i]) := by
  rw [List.getElem?_map, List.getElem?_eq_getElem h]; rfl
theorem get_tie {T : Ties} {i : Nat} (h : i < T.length) : (T.map tieD)[i]? = some (tieD (ends T i)) := by
  rw [get_map h]
  unfold ends
  rw [List.getD_eq_getElem?_getD, List.getElem?_eq_getElem h]; rfl
theorem get_nat {T : List Nat} {i : Nat} (h : i < T.length) : (T.map natD)[i]? = some (natD (T.getD i 0)) := by
  rw [get_map h, List.getD_eq_getElem?_getD, List.getElem?_eq_getElem h]; rfl
end
theorem ed_bits {K : PySem.W.Frag} {σ : L2.St} {G H : Hp} {te : TE} {b : Nat} (h : ED K te σ G H (natD b)) : ED K (tBits te) σ G H (natD (if b = 0 then 0 else b.log2 + 1)) := fun G0 H0 g0 Q q => h G0 H0 g0 _ fun v G1 H1 g1 hv => by
  cases hv
  refine ⟨_, rfl, ?_⟩
  have e : Builtin.Int.intBits (b : Int) = if b = 0 then 0 else b.log2 + 1 := by
    unfold Builtin.Int.intBits
    by_cases hb : b = 0
    · subst hb; rfl
    · rw [if_neg hb, if_neg (by simpa using hb), Int.natAbs_natCast]
  rw [e]
  exact q _ G1 H1 g1 (.int _)
theorem et_yes {σ : L2.St} {G H : Hp} : ET tYes σ G H true := fun G1 H1 g Q q => q G1 H1 (Gr.refl g.s)
/-- a comprehension without a test -/
theorem ed_lcA {K : PySem.W.Frag} {σ : L2.St} {G H : Hp} {te : TE} {g : TG} {α : Type} (xs : List α) (enc : α → PyData) (v : α → PyData) {wi : TI} {vs : List Nat} (h : ES K wi σ G H (xs.map enc)) (hn : xs.length ≤ 99999)
    (hs : ∀ a ∈ xs, ∀ x G' H', Gr G H G' H' → Dp K G' x (enc a) → ∃ σ2, (∀ Q : L2.St → Hp → Prop, Q σ2 H' → g x (wipe σ vs) H' Q) ∧ wipe σ2 vs = wipe σ vs ∧ ED K te σ2 G' H' (v a)) :
    ED K (tLc wi g tYes te vs) σ G H (.list (xs.map v)) := by
  have k := ed_lc (tt := tYes) xs enc (fun _ => true) v h hn fun a ha x G' H' g hx => by
    obtain ⟨σ2, k1, k2, k3⟩ := hs a ha x G' H' g hx
    exact ⟨σ2, k1, k2, et_yes, fun _ => k3⟩
  rw [List.filter_eq_self.mpr (fun _ _ => rfl)] at k
  exact k
end Bw
set_option Elab.async false
set_option linter.all false
set_option maxRecDepth 100000
set_option maxHeartbeats 4000000
/-! Dicts whose keys are whole numbers not below 0, their values data. -/
namespace Bw
open PySem PySem.Spec PyProof.Rows L2 Bo
abbrev ky (x : Nat) : Key := Sum.inl (x : Int)
theorem ky_inj {x y : Nat} : ky x = ky y ↔ x = y := ⟨fun h => Int.natCast_inj.mp (Sum.inl.inj h), fun h => by rw [h]⟩
/-- the dict's entries bear the data of k -/
inductive KvD {α : Type} (K : PySem.W.Frag) (G : Hp) (enc : α → PyData) : List (Key × V) → List (Nat × α) → Prop
  | nil : KvD K G enc [] []
  | cons {x : Nat} {v : V} {a : α} {r : List (Key × V)} {s : List (Nat × α)} (h : Dp K G v (enc a)) (t : KvD K G enc r s) : KvD K G enc ((ky x, v) :: r) ((x, a) :: s)
def putN {α : Type} (k : List (Nat × α)) (x : Nat) (a : α) : List (Nat × α) := if (valN k x).isSome then k.map (fun p => if p.1 = x then (p.1, a) else p) else k ++ [(x, a)]
section
variable {α : Type} {K : PySem.W.Frag} {G G' H H' Gi Hi : Hp} {enc : α → PyData} {kvs : List (Key × V)} {k : List (Nat × α)} {x : Nat} {a : α} {v : V}
theorem valN_cons (p : Nat × α) (r : List (Nat × α)) (x : Nat) : valN (p :: r) x = if p.1 = x then some p.2 else valN r x := by
  unfold valN
  by_cases h : p.1 = x
  · rw [List.find?_cons_of_pos (by simpa using h), if_pos h]; rfl
  · rw [List.find?_cons_of_neg (by simpa using h), if_neg h]
theorem KvD.mono (s : Same G G') (h : KvD K G enc kvs k) : KvD K G' enc kvs k := by
  induction h with
  | nil => exact .nil
  | cons h _ ih => exact .cons (dp_mono s _ _ h) ih
theorem KvD.len (h : KvD K G enc kvs k) : kvs.length = k.length := by
  induction h with
  | nil => rfl
  | cons _ _ ih => rw [List.length_cons, List.length_cons, ih]
theorem KvD.keys (h : KvD K G enc kvs k) : kvs.map (·.1) = k.map fun p => ky p.1 := by
  induction h with
  | nil => rfl
  | cons _ _ ih => rw [List.map_cons, List.map_cons, ih]
theorem KvD.is_some (h : KvD K G enc kvs k) (e : valN k x = some a) : ∃ v, valV kvs (ky x) = some v ∧ Dp K G v (enc a) := by
  induction h with
  | nil => cases e
  | @cons y u b r s hd _ ih =>
    rw [valN_cons] at e
    by_cases hx : y = x
    · rw [if_pos hx] at e
      cases e
      exact ⟨u, valV_pos (by rw [hx]), hd⟩
    · rw [if_neg hx] at e
      obtain ⟨w, e1, e2⟩ := ih e
      exact ⟨w, by rw [valV_neg (fun z => hx (ky_inj.mp z))]; exact e1, e2⟩
theorem KvD.is_none (h : KvD K G enc kvs k) (e : valN k x = none) : valV kvs (ky x) = none := by
  induction h with
  | nil => rfl
  | @cons y u b r s hd _ ih =>
    rw [valN_cons] at e
    by_cases hx : y = x
    · rw [if_pos hx] at e; cases e
    · rw [if_neg hx] at e
      rw [valV_neg (fun z => hx (ky_inj.mp z))]
      exact ih e
theorem KvD.snoc (h : KvD K G enc kvs k) (hd : Dp K G v (enc a)) : KvD K G enc (kvs ++ [(ky x, v)]) (k ++ [(x, a)]) := by
  induction h with
  | nil => exact .cons hd .nil
  | cons h' _ ih => exact .cons h' ih
theorem KvD.map_put (h : KvD K G enc kvs k) (hd : Dp K G v (enc a)) : KvD K G enc (kvs.map fun kv => if kv.1 = ky x then (kv.1, v) else kv) (k.map fun p => if p.1 = x then (p.1, a) else p) := by
  induction h with
  | nil => exact .nil
  | @cons y u b r s h' _ ih =>
    rw [List.map_cons, List.map_cons]
    by_cases hx : y = x
    · rw [if_pos (by rw [hx]), if_pos hx]
      exact .cons hd ih
    · rw [if_neg (fun z => hx (ky_inj.mp z)), if_neg hx]
      exact .cons h' ih
theorem KvD.put (h : KvD K G enc kvs k) (hd : Dp K G v (enc a)) : KvD K G enc (putK kvs (ky x) v) (putN k x a) := by
  unfold putK putN
  rw [valV_any]
  cases e : valN k x with
  | none =>
    rw [h.is_none e]
    exact h.snoc hd
  | some b =>
    obtain ⟨w, e1, _⟩ := h.is_some e
    rw [e1]
    exact h.map_put hd
theorem KvD.get {i : Nat} {p : Nat × α} (h : KvD K G enc kvs k) (e : k[i]? = some p) : ∃ v, kvs[i]? = some (ky p.1, v) ∧ Dp K G v (enc p.2) := by
  induction h generalizing i with
  | nil => simp at e
  | @cons y u b r s h' _ ih =>
    cases i with
    | zero =>
      have e' : (y, b) = p := by simpa using e
      subst e'
      exact ⟨u, by simp, h'⟩
    | succ i =>
      obtain ⟨w, e1, e2⟩ := ih (show s[i]? = some p by simpa using e)
      exact ⟨w, by simpa using e1, e2⟩
theorem rd_same {p : Addr} {u : HO} (s : Same H H') (h : Rd H p u) : Rd H' p u := by
  rcases h with h | ⟨o, h⟩
  · exact .inl (s _ _ h)
  · exact .inr ⟨o, s _ _ h⟩
theorem dget_of {p : Addr} (hm : Rd H p (.dK kvs)) {o : Option V} (e : valV kvs (ky x) = o) : DGet H p (.int (x : Int)) o := .inl ⟨kvs, ky x, hm, rfl, e.symm⟩
variable {σ : L2.St} {ty tv td : TE} {i : Nat} {p : Addr} {D : Ends} {tu : TS} {g : TG}
theorem ed_dget (hv : σ[i]? = some (some (.ref p))) (hm : Rd H p (.dK kvs)) (hk : KvD K G enc kvs k) (e : valN k x = some a) (hx : ED K ty σ G H (natD x)) : ED K (tDGet (tVar i) ty) σ G H (enc a) := fun G0 H0 g0 Q q =>
  ⟨_, hv, hx G0 H0 g0 _ fun y G1 H1 g1 hy => by
    cases hy
    have g := g0.trans g1
    obtain ⟨u, e1, e2⟩ := hk.is_some e
    exact ⟨p, u, rfl, dget_of (rd_same g.h hm) e1, q u G1 H1 g1 (dp_mono g.g _ _ e2)⟩⟩
theorem ed_din (hv : σ[i]? = some (some (.ref p))) (hm : Rd H p (.dK kvs)) (hk : KvD K G enc kvs k) (hx : ED K ty σ G H (natD x)) : ED K (tDIn ty (tVar i)) σ G H (.bool (valN k x).isSome) := fun G0 H0 g0 Q q =>
  hx G0 H0 g0 _ fun y G1 H1 g1 hy => ⟨_, hv, by
    cases hy
    have g := g0.trans g1
    cases e : valN k x with
    | none => exact ⟨p, none, rfl, dget_of (rd_same g.h hm) (hk.is_none e), q _ G1 H1 g1 (by rw [e]; exact .bl _)⟩
    | some b =>
      obtain ⟨u, e1, e2⟩ := hk.is_some e
      exact ⟨p, some u, rfl, dget_of (rd_same g.h hm) e1, q _ G1 H1 g1 (by rw [e]; exact .bl _)⟩⟩
theorem ed_dnotin (hv : σ[i]? = some (some (.ref p))) (hm : Rd H p (.dK kvs)) (hk : KvD K G enc kvs k) (hx : ED K ty σ G H (natD x)) : ED K (tDNotIn ty (tVar i)) σ G H (.bool (valN k x).isNone) := fun G0 H0 g0 Q q =>
  hx G0 H0 g0 _ fun y G1 H1 g1 hy => ⟨_, hv, by
    cases hy
    have g := g0.trans g1
    cases e : valN k x with
    | none => exact ⟨p, none, rfl, dget_of (rd_same g.h hm) (hk.is_none e), q _ G1 H1 g1 (by rw [e]; exact .bl _)⟩
    | some b =>
      obtain ⟨u, e1, e2⟩ := hk.is_some e
      exact ⟨p, some u, rfl, dget_of (rd_same g.h hm) e1, q _ G1 H1 g1 (by rw [e]; exact .bl _)⟩⟩
theorem s_dput (s : Same G H) (hv : σ[i]? = some (some (.ref p))) (m : Mu G H p (.dK kvs)) (hk : KvD K G enc kvs k) (hl : k.length < 100000) (ha : ED K tv σ G H (enc a)) (hx : ED K ty σ G H (natD x))
    (next : ∀ G' H' kvs', Gr G H G' H' → Mu G' (upd H' p (.dK kvs')) p (.dK kvs') → KvD K G' enc kvs' (putN k x a) → D.nx σ (upd H' p (.dK kvs'))) : sDPut (tVar i) ty tv D σ H :=
  ha.now s fun u G1 H1 g1 hu => ⟨_, hv, (hx.mono g1).now g1.s fun y G2 H2 g2 hy => by
    cases hy
    have g := g1.trans g2
    have m' := m.gr g
    exact ⟨p, _, rfl, .inl ⟨kvs, ky x, m'.h, rfl, by rw [hk.len]; exact line_lt hl, rfl⟩, next G2 H2 _ g m'.put ((hk.mono g.g).put (dp_mono g2.g _ _ hu))⟩⟩
/-- list(d) -/
theorem ed_listD (hv : σ[i]? = some (some (.ref p))) (hm : H p = some (.dK kvs)) (hk : KvD K G enc kvs k) : ED K (tCB rListD (tCons (tVar i) tNil)) σ G H (.list (k.map fun q => natD q.1)) := fun G0 H0 g0 Q q =>
  ⟨_, hv, ⟨p, kvs, rfl, g0.h _ _ hm, fun l hl => q _ _ _ (Gr.new g0.s hl) (.lst (.of upd_same) (by
    have e : (kvs.map fun kv => kV kv.1) = (k.map fun q => ((q.1 : Nat) : Int)).map V.int := by
      have e1 := congrArg (List.map kV) hk.keys
      rw [List.map_map, List.map_map] at e1
      rw [List.map_map]
      exact e1
    rw [e]
    have e2 : (k.map fun q => natD q.1) = (k.map fun q => ((q.1 : Nat) : Int)).map PyData.int := by rw [List.map_map]; rfl
    rw [e2]
    exact .ofInts _))⟩⟩
/-- sorted(d) -/
def rSortedK : List V → Hp → VK → Prop := fun xs H Q => ∃ (a : Addr) (kvs : List (Key × V)) (ks : List Int), xs = [.ref a] ∧ Rd H a (.dK kvs) ∧ kvs.map (·.1) = ks.map Sum.inl ∧ ks.length < 64 ∧
    ∀ (ys : List Int) (p : Addr), ys.Perm ks → ys.Pairwise (· ≤ ·) → H p = none → Q (.ref p) (upd H p (.lst (ys.map V.int)))
theorem cr_sortedK {X : Cx} (hc : X.calm = true) : CallR X (.builtin "sorted") rSortedK := call_sortedDI hc
theorem sortN_perm (l : List Nat) : (sortN l).Perm l := List.mergeSort_perm _ _
theorem sortN_pw (l : List Nat) : (sortN l).Pairwise (· ≤ ·) := by
  have h := List.pairwise_mergeSort (le := fun a b => decide (a ≤ b)) (fun a b c h1 h2 => by simp at *; omega) (fun a b => by simp; omega) l
  exact h.imp fun h => by simpa using h
theorem sorted_unique : ∀ {xs ys : List Int}, xs.Perm ys → xs.Pairwise (· ≤ ·) → ys.Pairwise (· ≤ ·) → xs = ys := fun {xs ys} h h1 h2 =>
  List.Perm.eq_of_pairwise (fun a b _ _ h1 h2 => Int.le_antisymm h1 h2) h1 h2 h
/-- a sorted list of such numbers is the one that sortN makes -/
theorem sortN_is {ys : List Int} {l : List Nat} (h : ys.Perm (l.map fun k : Nat => (k : Int))) (hs : ys.Pairwise (· ≤ ·)) : ys = (sortN l).map fun k : Nat => (k : Int) := by
  refine sorted_unique (h.trans ((sortN_perm l).map _).symm) hs ?_
  exact List.pairwise_map.mpr ((sortN_pw l).imp fun h => Int.ofNat_le.mpr h)
theorem ed_sortedK (hv : σ[i]? = some (some (.ref p))) (hm : H p = some (.dK kvs)) (hk : KvD K G enc kvs k) (hl : k.length < 64) : ED K (tCB rSortedK (tCons (tVar i) tNil)) σ G H (natsL (sortN (k.map (·.1)))) := fun G0 H0 g0 Q q =>
  ⟨_, hv, ⟨p, kvs, (k.map (·.1)).map fun x : Nat => (x : Int), rfl, .inl (g0.h _ _ hm), by rw [hk.keys, List.map_map, List.map_map]; rfl, by rw [List.length_map, List.length_map]; exact hl, fun ys l h1 h2 hn => q _ _ _ (Gr.new g0.s hn) (.lst (.of upd_same) (by
    rw [sortN_is h1 h2, natD_ints]
    exact .ofInts _))⟩⟩
/-- for x in d, d left as it is -/
theorem s_forKeys (hv : σ[i]? = some (some (.ref p))) (gr : Gr Gi Hi G H) (hp : Hi p = none) (m : Mu G H p (.dK kvs)) (hk : KvD K G enc kvs k) (Pv : Obj → List (Nat × α) → L2.St → Hp → Hp → Prop) (h0 : ∀ od, Pv od [] σ G (upd H p (.frz od (.dK kvs))))
    (hs : ∀ od pre q post σ' G1 H1, k = pre ++ q :: post → Gr Gi Hi G1 H1 → Same G G1 → Mu G1 H1 p (.frz od (.dK kvs)) → Pv od pre σ' G1 H1 →
      g (.int ((q.1 : Nat) : Int)) σ' H1 fun σ2 H2 => tu { nx := Nx Gi Hi G1 (fun σ3 G3 H3 => Mu G3 H3 p (.frz od (.dK kvs)) ∧ Pv od (pre ++ [q]) σ3 G3 H3), ct := Nx Gi Hi G1 (fun σ3 G3 H3 => Mu G3 H3 p (.frz od (.dK kvs)) ∧ Pv od (pre ++ [q]) σ3 G3 H3), bk := fun σ' H' => H' p = some (.frz od (.dK kvs)) ∧ D.nx σ' (upd H' p (.dK kvs)), rt := fun v H' => H' p = some (.frz od (.dK kvs)) ∧ D.rt v (upd H' p (.dK kvs)) } σ2 H2)
    (hd : ∀ od σ' G' H', Gr Gi Hi G' H' → Same G G' → Mu G' H' p (.frz od (.dK kvs)) → Pv od k σ' G' H' → D.nx σ' (upd H' p (.dK kvs))) : tLock (tFor (iKeys (tVar i)) g tu) D σ H := by
  refine ⟨p, .dK kvs, m.h, trivial, fun od => ?_⟩
  refine ⟨_, hv, p, od, rfl, .inl ⟨kvs, upd_same, ?_⟩⟩
  refine ⟨fun j n σ' H' => n = k.length - j ∧ j ≤ k.length ∧ ∃ G', Gr Gi Hi G' H' ∧ Same G G' ∧ Mu G' H' p (.frz od (.dK kvs)) ∧ Pv od (k.take j) σ' G' H', ⟨k.length, by simp, Nat.zero_le _, G, gr.mut hp m.n, Same.refl _, m.put, by rw [List.take_zero]; exact h0 od⟩, ?_⟩
  rintro j n σ' H' ⟨rfl, hj, G1, g1, s1, m1, pv⟩
  by_cases hlt : j < k.length
  · refine .inr ⟨⟨m1.h, by rw [hk.len]; exact hlt⟩, Nx Gi Hi G1 fun σ3 G3 H3 => Mu G3 H3 p (.frz od (.dK kvs)) ∧ Pv od (k.take j ++ [k[j]]) σ3 G3 H3, fun σ3 H3 ⟨G3, a, b, c, d⟩ => ⟨k.length - (j + 1), by omega, rfl, hlt, G3, a, s1.trans b, c, by
      rw [List.take_succ, List.getElem?_eq_getElem hlt]; exact d⟩, fun x H2 y => ?_⟩
    obtain ⟨e, key, v, hkv, ex⟩ := y
    subst e
    obtain ⟨u, e1, _⟩ := hk.get (i := j) (p := k[j]) (by simp [hlt])
    rw [e1] at hkv
    cases hkv
    subst ex
    exact hs od (k.take j) k[j] (k.drop (j + 1)) σ' G1 H2 (by rw [List.getElem_cons_drop, List.take_append_drop]) g1 s1 m1 pv
  · have e : j = k.length := by omega
    subst e
    rw [List.take_length] at pv
    exact .inl ⟨⟨m1.h, Nat.le_of_eq hk.len⟩, m1.h, hd od σ' G1 H' g1 s1 m1 pv⟩
end
end Bw
/-! Bits, and the base of all sums. -/
namespace Bo
theorem and_pow (b h : Nat) : b &&& 2 ^ h ≠ 0 ↔ b.testBit h = true := by
  constructor
  · intro z
    cases e : b.testBit h with
    | true => rfl
    | false =>
      refine absurd (Nat.eq_of_testBit_eq fun i => ?_) z
      rw [Nat.testBit_and, Nat.testBit_two_pow, Nat.zero_testBit]
      by_cases hi : h = i
      · subst hi; rw [e]; rfl
      · rw [decide_eq_false hi, Bool.and_false]
  · intro e z
    have := congrArg (fun x => x.testBit h) z
    simp only [Nat.testBit_and, Nat.testBit_two_pow_self, e, Nat.zero_testBit] at this
    cases this
theorem and_pow0 (b h : Nat) : b &&& 2 ^ h = 0 ↔ b.testBit h = false := by
  have := and_pow b h
  constructor
  · intro z
    cases e : b.testBit h with
    | false => rfl
    | true => exact absurd z (this.mpr e)
  · intro e
    by_cases z : b &&& 2 ^ h = 0
    · exact z
    · rw [this.mp z] at e; cases e
theorem pow_inj {a b : Nat} (h : 2 ^ a = 2 ^ b) : a = b := by
  have := congrArg Nat.log2 h
  rwa [Nat.log2_two_pow, Nat.log2_two_pow] at this
structure RedInv (k : Known) : Prop where
  nd : (k.map (·.1)).Nodup
  pow : ∀ fv ∈ k, ∃ h, fv.1 = 2 ^ h ∧ fv.2.testBit h = true
  other : ∀ fv ∈ k, ∀ gu ∈ k, fv.1 ≠ gu.1 → fv.2 &&& gu.1 = 0
theorem redInv_nil : RedInv [] := ⟨List.nodup_nil, fun _ h => absurd h List.not_mem_nil, fun _ h => absurd h List.not_mem_nil⟩
theorem nodup_of_map {α : Type} {k : List α} {f : α → Nat} : ∀ {a b : α}, (k.map f).Nodup → a ∈ k → b ∈ k → f a = f b → a = b := by
  induction k with
  | nil => intro a b _ h; cases h
  | cons x r ih =>
    intro a b hn ha hb e
    rw [List.map_cons, List.nodup_cons] at hn
    rcases List.mem_cons.mp ha with h1 | h1 <;> rcases List.mem_cons.mp hb with h2 | h2
    · rw [h1, h2]
    · exact absurd (List.mem_map.mpr ⟨b, h2, by rw [← e, h1]⟩) hn.1
    · exact absurd (List.mem_map.mpr ⟨a, h1, by rw [e, h2]⟩) hn.1
    · exact ih hn.2 h1 h2 e
/-- what is left of a row has no known figure -/
theorem redOne_clear {k : Known} (I : RedInv k) (row : Nat) : ∀ fv ∈ k, redOne k row &&& fv.1 = 0 := by
  have key : ∀ (l : Known) (b : Nat), (∀ x ∈ l, x ∈ k) → ∀ fv ∈ k, (fv ∈ l ∨ b &&& fv.1 = 0) → l.foldl redTurn b &&& fv.1 = 0 := by
    intro l
    induction l with
    | nil =>
      intro b _ fv _ h
      rcases h with h | h
      · cases h
      · exact h
    | cons x r ih =>
      intro b hl fv hf h
      refine ih (redTurn b x) (fun y hy => hl y (List.mem_cons_of_mem _ hy)) fv hf ?_
      by_cases hr : fv ∈ r
      · exact .inl hr
      · right
        have hx := hl x (List.mem_cons_self ..)
        obtain ⟨hh, e1, e2⟩ := I.pow x hx
        obtain ⟨hg, e3, e4⟩ := I.pow fv hf
        by_cases ex : fv.1 = x.1
        · have exx : fv = x := nodup_of_map I.nd hf hx ex
          subst exx
          unfold redTurn
          by_cases c : b &&& fv.1 ≠ 0
          · rw [if_pos c]
            rw [e1] at c ⊢
            rw [and_pow0, Nat.testBit_xor, (and_pow _ _).mp c, e2]; rfl
          · rw [if_neg c]
            exact Decidable.not_not.mp c
        · have hb : b &&& fv.1 = 0 := by
            rcases h with h | h
            · rcases List.mem_cons.mp h with z | z
              · exact absurd (by rw [z]) ex
              · exact absurd z hr
            · exact h
          unfold redTurn
          by_cases c : b &&& x.1 ≠ 0
          · rw [if_pos c]
            have ho := I.other x hx fv hf (fun z => ex z.symm)
            rw [e3] at hb ho ⊢
            rw [and_pow0] at hb ho ⊢
            rw [Nat.testBit_xor, hb, ho]; rfl
          · rw [if_neg c]
            exact hb
  exact fun fv hf => key k row (fun _ h => h) fv hf (.inl hf)
theorem fresh_new {k : Known} (I : RedInv k) {row : Nat} (hb : redOne k row ≠ 0) : ∀ fv ∈ k, fv.1 ≠ 2 ^ (redOne k row).log2 := fun fv hf e => by
  have h := redOne_clear I row fv hf
  rw [e] at h
  exact (and_pow _ _).mpr (Nat.testBit_log2 hb) h
theorem redFix_fst (fr b : Nat) (fv : Nat × Nat) : (redFix fr b fv).1 = fv.1 := rfl
theorem redStep_inv {k : Known} (I : RedInv k) (row : Nat) : RedInv (redStep k row) := by
  unfold redStep
  by_cases hb : redOne k row = 0
  · rw [if_pos hb]; exact I
  · rw [if_neg hb]
    have hc := redOne_clear I row
    have hn := fresh_new I hb
    generalize redOne k row = b at hb hc hn
    have hm : (k.map (redFix (2 ^ b.log2) b)).map (·.1) = k.map (·.1) := by rw [List.map_map]; rfl
    have hbit := Nat.testBit_log2 hb
    refine ⟨?_, ?_, ?_⟩
    · rw [List.map_append, hm, List.nodup_append]
      refine ⟨I.nd, by simp, fun x hx y hy => ?_⟩
      rw [List.mem_map] at hx
      obtain ⟨fv, hf, rfl⟩ := hx
      have : y = 2 ^ b.log2 := by simpa using hy
      rw [this]
      exact hn fv hf
    · intro fv hf
      rcases List.mem_append.mp hf with hf | hf
      · obtain ⟨gu, hg, rfl⟩ := List.mem_map.mp hf
        obtain ⟨h, e1, e2⟩ := I.pow gu hg
        refine ⟨h, e1, ?_⟩
        unfold redFix
        by_cases c : gu.2 &&& 2 ^ b.log2 ≠ 0
        · rw [if_pos c]
          have z := hc gu hg
          rw [e1, and_pow0] at z
          show (gu.2 ^^^ b).testBit h = true
          rw [Nat.testBit_xor, e2, z]; rfl
        · rw [if_neg c]; exact e2
      · have : fv = (2 ^ b.log2, b) := by simpa using hf
        subst this
        exact ⟨b.log2, rfl, hbit⟩
    · intro fv hf gu hg ne
      rcases List.mem_append.mp hf with hf | hf <;> rcases List.mem_append.mp hg with hg | hg
      · obtain ⟨f0, hf0, rfl⟩ := List.mem_map.mp hf
        obtain ⟨g0, hg0, rfl⟩ := List.mem_map.mp hg
        have ne' : f0.1 ≠ g0.1 := ne
        have ho := I.other f0 hf0 g0 hg0 ne'
        have z := hc g0 hg0
        obtain ⟨h, e1, _⟩ := I.pow g0 hg0
        show (if f0.2 &&& 2 ^ b.log2 ≠ 0 then f0.2 ^^^ b else f0.2) &&& g0.1 = 0
        by_cases c : f0.2 &&& 2 ^ b.log2 ≠ 0
        · rw [if_pos c]
          rw [e1, and_pow0] at z ho ⊢
          rw [Nat.testBit_xor, ho, z]; rfl
        · rw [if_neg c]; exact ho
      · obtain ⟨f0, hf0, rfl⟩ := List.mem_map.mp hf
        have : gu = (2 ^ b.log2, b) := by simpa using hg
        subst this
        show (if f0.2 &&& 2 ^ b.log2 ≠ 0 then f0.2 ^^^ b else f0.2) &&& 2 ^ b.log2 = 0
        by_cases c : f0.2 &&& 2 ^ b.log2 ≠ 0
        · rw [if_pos c, and_pow0, Nat.testBit_xor, (and_pow _ _).mp c, hbit]; rfl
        · rw [if_neg c]; exact Decidable.not_not.mp c
      · obtain ⟨g0, hg0, rfl⟩ := List.mem_map.mp hg
        have : fv = (2 ^ b.log2, b) := by simpa using hf
        subst this
        exact hc g0 hg0
      · have h1 : fv = (2 ^ b.log2, b) := by simpa using hf
        have h2 : gu = (2 ^ b.log2, b) := by simpa using hg
        rw [h1, h2] at ne
        exact absurd rfl ne
theorem redRun_inv (rows : List Nat) : RedInv (rows.foldl redStep []) := by
  have key : ∀ (rows : List Nat) (k : Known), RedInv k → RedInv (rows.foldl redStep k) := by
    intro rows
    induction rows with
    | nil => exact fun _ I => I
    | cons r rs ih => exact fun k I => ih _ (redStep_inv I r)
  exact key rows [] redInv_nil
theorem redStep_len (k : Known) (row : Nat) : (redStep k row).length ≤ k.length + 1 := by
  unfold redStep
  by_cases hb : redOne k row = 0
  · rw [if_pos hb]; omega
  · rw [if_neg hb]; simp
theorem redRun_len (rows : List Nat) : (rows.foldl redStep []).length ≤ rows.length := by
  have key : ∀ (rows : List Nat) (k : Known), (rows.foldl redStep k).length ≤ k.length + rows.length := by
    intro rows
    induction rows with
    | nil => exact fun _ => Nat.le_refl _
    | cons r rs ih =>
      intro k
      have := ih (redStep k r)
      have := redStep_len k r
      rw [List.foldl_cons, List.length_cons]
      omega
  simpa using key rows []
theorem redOne_lt {m : Nat} {k : Known} {row : Nat} (hk : ∀ fv ∈ k, fv.2 < 2 ^ m) (hr : row < 2 ^ m) : redOne k row < 2 ^ m := by
  have key : ∀ (l : Known) (b : Nat), (∀ fv ∈ l, fv.2 < 2 ^ m) → b < 2 ^ m → l.foldl redTurn b < 2 ^ m := by
    intro l
    induction l with
    | nil => exact fun b _ h => h
    | cons x r ih =>
      intro b hl hb
      refine ih _ (fun fv hf => hl fv (List.mem_cons_of_mem _ hf)) ?_
      unfold redTurn
      split
      · exact Nat.xor_lt_two_pow hb (hl x (List.mem_cons_self ..))
      · exact hb
  exact key k row hk hr
theorem redStep_lt {m : Nat} {k : Known} {row : Nat} (hk : ∀ fv ∈ k, fv.2 < 2 ^ m) (hr : row < 2 ^ m) : ∀ fv ∈ redStep k row, fv.2 < 2 ^ m := by
  have hb := redOne_lt hk hr
  unfold redStep
  by_cases h0 : redOne k row = 0
  · rw [if_pos h0]; exact hk
  · rw [if_neg h0]
    intro fv hf
    rcases List.mem_append.mp hf with hf | hf
    · obtain ⟨g, hg, rfl⟩ := List.mem_map.mp hf
      show (if g.2 &&& _ ≠ 0 then g.2 ^^^ _ else g.2) < 2 ^ m
      split
      · exact Nat.xor_lt_two_pow (hk g hg) hb
      · exact hk g hg
    · have : fv = (2 ^ (redOne k row).log2, redOne k row) := by simpa using hf
      rw [this]; exact hb
theorem redRun_lt {m : Nat} {rows : List Nat} (hr : ∀ r ∈ rows, r < 2 ^ m) : ∀ fv ∈ rows.foldl redStep [], fv.2 < 2 ^ m := by
  have key : ∀ (rows : List Nat) (k : Known), (∀ r ∈ rows, r < 2 ^ m) → (∀ fv ∈ k, fv.2 < 2 ^ m) → ∀ fv ∈ rows.foldl redStep k, fv.2 < 2 ^ m := by
    intro rows
    induction rows with
    | nil => exact fun k _ h => h
    | cons r rs ih => exact fun k h1 h2 => ih _ (fun x hx => h1 x (List.mem_cons_of_mem _ hx)) (redStep_lt h2 (h1 r (List.mem_cons_self ..)))
  exact key rows [] hr fun _ h => absurd h List.not_mem_nil
theorem valN_mem {α : Type} {k : List (Nat × α)} {x : Nat} {a : α} (h : valN k x = some a) : (x, a) ∈ k := by
  unfold valN at h
  cases e : k.find? fun kv => decide (kv.1 = x) with
  | none => rw [e] at h; cases h
  | some p =>
    rw [e] at h
    have h1 := List.find?_some e
    have h2 := List.mem_of_find?_eq_some e
    have e1 : p.1 = x := by simpa using h1
    have e2 : p.2 = a := by simpa using h
    rw [← e1, ← e2]; exact h2
theorem valN_of {α : Type} {k : List (Nat × α)} {x : Nat} {a : α} (hn : (k.map (·.1)).Nodup) (h : (x, a) ∈ k) : valN k x = some a := by
  unfold valN
  cases e : k.find? fun kv => decide (kv.1 = x) with
  | none =>
    have := List.find?_eq_none.mp e (x, a) h
    simp at this
  | some p =>
    have h1 := List.find?_some e
    have h2 := List.mem_of_find?_eq_some e
    have e1 : p.1 = x := by simpa using h1
    rw [nodup_of_map (f := fun q : Nat × α => q.1) hn h2 h e1]; rfl
theorem valN_none {α : Type} {k : List (Nat × α)} {x : Nat} : valN k x = none ↔ ∀ p ∈ k, p.1 ≠ x := by
  unfold valN
  rw [Option.map_eq_none_iff, List.find?_eq_none]
  exact ⟨fun h p hp => by simpa using h p hp, fun h p hp => by simpa using h p hp⟩
theorem reduced_len (rows : List Nat) : (reduced rows).length ≤ rows.length := by
  unfold reduced
  rw [List.length_map, List.length_reverse, show (sortN _).length = _ from (List.mergeSort_perm _ _).length_eq, List.length_map]
  exact redRun_len rows
theorem mem_reduced {rows : List Nat} {b : Nat} : b ∈ reduced rows ↔ ∃ fv ∈ rows.foldl redStep [], fv.2 = b := by
  have I := redRun_inv rows
  unfold reduced
  rw [List.mem_map]
  constructor
  · rintro ⟨f, hf, rfl⟩
    rw [List.mem_reverse, show f ∈ sortN _ ↔ _ from (List.mergeSort_perm _ _).mem_iff, List.mem_map] at hf
    obtain ⟨fv, hm, rfl⟩ := hf
    exact ⟨fv, hm, by rw [valN_of I.nd (show (fv.1, fv.2) ∈ _ from hm)]; rfl⟩
  · rintro ⟨fv, hm, rfl⟩
    refine ⟨fv.1, ?_, by rw [valN_of I.nd (show (fv.1, fv.2) ∈ _ from hm)]; rfl⟩
    rw [List.mem_reverse, show fv.1 ∈ sortN _ ↔ _ from (List.mergeSort_perm _ _).mem_iff, List.mem_map]
    exact ⟨fv, hm, rfl⟩
/-! spans -/
/-- bits as a vector, the tie 0 being the greatest figure -/
def bvec (m b : Nat) : Vec := fun k => b.testBit (m - 1 - k)
theorem bvec_xor (m a b : Nat) : bvec m (a ^^^ b) = vadd (bvec m a) (bvec m b) := by
  funext k
  exact Nat.testBit_xor ..
theorem bvec_zero (m : Nat) : bvec m 0 = vzero := by
  funext k
  exact Nat.zero_testBit _
theorem redOne_span (m : Nat) (k : Known) (row : Nat) : Span m (k.map fun fv : Nat × Nat => bvec m fv.2) (vadd (bvec m row) (bvec m (redOne k row))) := by
  have key : ∀ (l : Known) (b : Nat), (∀ x ∈ l, x ∈ k) → Span m (k.map fun fv : Nat × Nat => bvec m fv.2) (vadd (bvec m b) (bvec m (l.foldl redTurn b))) := by
    intro l
    induction l with
    | nil => exact fun b _ => .zero fun i _ => by show Bool.xor (bvec m b i) (bvec m b i) = false; simp
    | cons x r ih =>
      intro b hl
      have h := ih (redTurn b x) fun y hy => hl y (List.mem_cons_of_mem _ hy)
      rw [List.foldl_cons]
      by_cases c : b &&& x.1 ≠ 0
      · have e : redTurn b x = b ^^^ x.2 := if_pos c
        rw [e] at h ⊢
        refine .step (List.mem_map.mpr ⟨x, hl x (List.mem_cons_self ..), rfl⟩) h fun i _ => ?_
        show Bool.xor (bvec m b i) _ = Bool.xor (Bool.xor (bvec m (b ^^^ x.2) i) _) (bvec m x.2 i)
        rw [bvec_xor]
        show Bool.xor (bvec m b i) _ = Bool.xor (Bool.xor (Bool.xor (bvec m b i) (bvec m x.2 i)) _) (bvec m x.2 i)
        cases bvec m b i <;> cases bvec m x.2 i <;> cases bvec m (List.foldl redTurn (b ^^^ x.2) r) i <;> rfl
      · have e : redTurn b x = b := if_neg c
        rw [e] at h ⊢
        exact h
  exact key k row fun _ h => h
theorem span_xor_mem {m : Nat} {G : List Vec} {a b : Nat} (h : Span m G (vadd (bvec m a) (bvec m b))) (h' : Span m G (bvec m b)) : Span m G (bvec m a) :=
  (h.add h').congr fun i _ => by
    show bvec m a i = Bool.xor (Bool.xor (bvec m a i) (bvec m b i)) (bvec m b i)
    cases bvec m a i <;> cases bvec m b i <;> rfl
theorem redStep_span (m : Nat) (k : Known) (row : Nat) :
    (∀ g ∈ (redStep k row).map (fun fv : Nat × Nat => bvec m fv.2), Span m (bvec m row :: k.map fun fv : Nat × Nat => bvec m fv.2) g) ∧
    (∀ g ∈ bvec m row :: k.map (fun fv : Nat × Nat => bvec m fv.2), Span m ((redStep k row).map fun fv : Nat × Nat => bvec m fv.2) g) := by
  have hs := redOne_span m k row
  unfold redStep
  by_cases hb : redOne k row = 0
  · rw [if_pos hb]
    refine ⟨fun g hg => .mem (List.mem_cons_of_mem _ hg), fun g hg => ?_⟩
    rcases List.mem_cons.mp hg with e | e
    · rw [e]
      refine span_xor_mem hs ?_
      rw [hb, bvec_zero]
      exact .zero EqM.rfl
    · exact .mem e
  · rw [if_neg hb]
    generalize redOne k row = b at hs hb
    have h1 : Span m (bvec m row :: k.map fun fv : Nat × Nat => bvec m fv.2) (bvec m b) := by
      have e1 : Span m (bvec m row :: k.map fun fv : Nat × Nat => bvec m fv.2) (vadd (bvec m b) (bvec m row)) := (hs.mono fun g hg => List.mem_cons_of_mem _ hg).congr fun i _ => Bool.xor_comm ..
      exact span_xor_mem e1 (.mem (List.mem_cons_self ..))
    refine ⟨fun g hg => ?_, fun g hg => ?_⟩
    · obtain ⟨fv, hf, rfl⟩ := List.mem_map.mp hg
      rcases List.mem_append.mp hf with hf | hf
      · obtain ⟨g0, hg0, rfl⟩ := List.mem_map.mp hf
        have hm : Span m (bvec m row :: k.map fun fv : Nat × Nat => bvec m fv.2) (bvec m g0.2) := .mem (List.mem_cons_of_mem _ (List.mem_map.mpr ⟨g0, hg0, rfl⟩))
        show Span m _ (bvec m (if g0.2 &&& 2 ^ b.log2 ≠ 0 then g0.2 ^^^ b else g0.2))
        split
        · rw [bvec_xor]; exact hm.add h1
        · exact hm
      · have : fv = (2 ^ b.log2, b) := by simpa using hf
        rw [this]; exact h1
    · have hbm : Span m ((k.map (redFix (2 ^ b.log2) b) ++ [(2 ^ b.log2, b)]).map fun fv : Nat × Nat => bvec m fv.2) (bvec m b) :=
        .mem (List.mem_map.mpr ⟨(2 ^ b.log2, b), by simp, rfl⟩)
      have hk : ∀ g0 ∈ k, Span m ((k.map (redFix (2 ^ b.log2) b) ++ [(2 ^ b.log2, b)]).map fun fv : Nat × Nat => bvec m fv.2) (bvec m g0.2) := fun g0 hg0 => by
        have hm : Span m ((k.map (redFix (2 ^ b.log2) b) ++ [(2 ^ b.log2, b)]).map fun fv : Nat × Nat => bvec m fv.2) (bvec m (redFix (2 ^ b.log2) b g0).2) :=
          .mem (List.mem_map.mpr ⟨redFix (2 ^ b.log2) b g0, List.mem_append.mpr (.inl (List.mem_map.mpr ⟨g0, hg0, rfl⟩)), rfl⟩)
        unfold redFix at hm
        by_cases c : g0.2 &&& 2 ^ b.log2 ≠ 0
        · rw [if_pos c] at hm
          refine span_xor_mem (b := g0.2 ^^^ b) ?_ hm
          refine hbm.congr fun i _ => ?_
          show Bool.xor (bvec m g0.2 i) (bvec m (g0.2 ^^^ b) i) = bvec m b i
          rw [bvec_xor]
          show Bool.xor (bvec m g0.2 i) (Bool.xor (bvec m g0.2 i) (bvec m b i)) = bvec m b i
          cases bvec m g0.2 i <;> cases bvec m b i <;> rfl
        · rw [if_neg c] at hm; exact hm
      rcases List.mem_cons.mp hg with e | e
      · rw [e]
        refine span_xor_mem (hs.sub fun g hg => ?_) hbm
        obtain ⟨fv, hf, rfl⟩ := List.mem_map.mp hg
        exact hk fv hf
      · obtain ⟨fv, hf, rfl⟩ := List.mem_map.mp e
        exact hk fv hf
theorem redRun_span (m : Nat) (rows : List Nat) (x : Vec) : Span m ((rows.foldl redStep []).map fun fv : Nat × Nat => bvec m fv.2) x ↔ Span m (rows.map (bvec m)) x := by
  have key : ∀ (rows : List Nat) (k : Known) (x : Vec), Span m ((rows.foldl redStep k).map fun fv : Nat × Nat => bvec m fv.2) x ↔ Span m (rows.map (bvec m) ++ k.map fun fv : Nat × Nat => bvec m fv.2) x := by
    intro rows
    induction rows with
    | nil => exact fun k x => Iff.rfl
    | cons r rs ih =>
      intro k x
      rw [List.foldl_cons, ih]
      obtain ⟨h1, h2⟩ := redStep_span m k r
      have sub : ∀ {l l' : List Vec}, (∀ g ∈ l, Span m l' g) → ∀ g ∈ rs.map (bvec m) ++ l, Span m (rs.map (bvec m) ++ l') g := fun h g hg => by
        rcases List.mem_append.mp hg with z | z
        · exact .mem (List.mem_append.mpr (.inl z))
        · exact (h g z).mono fun y hy => List.mem_append.mpr (.inr hy)
      constructor
      · intro hx
        refine (hx.sub (sub h1)).mono fun g hg => ?_
        rcases List.mem_append.mp hg with z | z
        · exact List.mem_append.mpr (.inl (List.mem_cons_of_mem _ z))
        · rcases List.mem_cons.mp z with e | e
          · rw [e]; exact List.mem_append.mpr (.inl (List.mem_cons_self ..))
          · exact List.mem_append.mpr (.inr e)
      · intro hx
        refine Span.sub (G := rs.map (bvec m) ++ bvec m r :: k.map fun fv : Nat × Nat => bvec m fv.2) (hx.mono fun g hg => ?_) (sub h2)
        rcases List.mem_append.mp hg with z | z
        · rcases List.mem_cons.mp z with e | e
          · rw [e]; exact List.mem_append.mpr (.inr (List.mem_cons_self ..))
          · exact List.mem_append.mpr (.inl e)
        · exact List.mem_append.mpr (.inr (List.mem_cons_of_mem _ z))
  rw [key]
  simp
theorem reduced_span (m : Nat) (rows : List Nat) (x : Vec) : Span m ((reduced rows).map (bvec m)) x ↔ Span m (rows.map (bvec m)) x := by
  refine Iff.trans ?_ (redRun_span m rows x)
  constructor
  · intro h
    refine h.mono fun g hg => ?_
    obtain ⟨b, hb, rfl⟩ := List.mem_map.mp hg
    obtain ⟨fv, hf, rfl⟩ := mem_reduced.mp hb
    exact List.mem_map.mpr ⟨fv, hf, rfl⟩
  · intro h
    refine h.mono fun g hg => ?_
    obtain ⟨fv, hf, rfl⟩ := List.mem_map.mp hg
    exact List.mem_map.mpr ⟨fv.2, mem_reduced.mpr ⟨fv, hf, rfl⟩, rfl⟩
theorem reduced_lt {m : Nat} {rows : List Nat} (hr : ∀ r ∈ rows, r < 2 ^ m) : ∀ b ∈ reduced rows, b < 2 ^ m := fun b hb => by
  obtain ⟨fv, hf, rfl⟩ := mem_reduced.mp hb
  exact redRun_lt hr fv hf
end Bo
/-! Bounds of the rows. -/
namespace Bo
theorem bitsOf_le {m : Nat} (hm : m ≤ 40) : ∀ lot : List Nat, bitsOf m lot ≤ lot.length * 2 ^ 39
  | [] => by show 0 ≤ _; omega
  | t :: r => by
    have h := bitsOf_le hm r
    have h1 : tieBit m t ≤ 2 ^ 39 := Nat.pow_le_pow_right (by decide) (by omega)
    show tieBit m t + bitsOf m r ≤ (r.length + 1) * 2 ^ 39
    omega
theorem parLeft_lt {k : Nat} {ps : List (Nat × Nat)} (h : ∀ p ∈ ps, p.2 < 2 ^ k) : ∀ {pb : Nat × Nat}, pb.2 < 2 ^ k → (parLeft ps pb).2 < 2 ^ k := by
  induction ps with
  | nil => exact fun h => h
  | cons p r ih =>
    intro pb hb
    refine ih (fun q hq => h q (List.mem_cons_of_mem _ hq)) ?_
    unfold parStep
    split
    · exact Nat.xor_lt_two_pow hb (h p (List.mem_cons_self ..))
    · exact hb
theorem tiesAt_length (T : Ties) (p : Nat) : (tiesAt T p).length ≤ T.length := by
  unfold tiesAt
  rw [List.length_map]
  refine Nat.le_trans (List.length_filter_le _ _) ?_
  rw [List.length_zipIdx]
  exact Nat.le_refl _
theorem rowRun_lt {T : Ties} (hT : T.length ≤ 40) (l : List Nat) : (∀ q ∈ (l.foldl (rowStep T) ([], [])).1, q.2 < 2 ^ 60) ∧ ∀ b ∈ (l.foldl (rowStep T) ([], [])).2, b < 2 ^ 60 := by
  have key : ∀ (l : List Nat) (st : Rows), ((∀ q ∈ st.1, q.2 < 2 ^ 60) ∧ ∀ b ∈ st.2, b < 2 ^ 60) → (∀ q ∈ (l.foldl (rowStep T) st).1, q.2 < 2 ^ 60) ∧ ∀ b ∈ (l.foldl (rowStep T) st).2, b < 2 ^ 60 := by
    intro l
    induction l with
    | nil => exact fun _ h => h
    | cons p r ih =>
      intro st h
      refine ih _ ?_
      have hb : bitsOf T.length (tiesAt T p) < 2 ^ 60 := by
        have h1 := bitsOf_le hT (tiesAt T p)
        have h2 := tiesAt_length T p
        have h3 : (tiesAt T p).length * 2 ^ 39 ≤ 40 * 2 ^ 39 := Nat.mul_le_mul_right _ (by omega)
        omega
      have hr := parLeft_lt h.1 (pb := (lotPar T (tiesAt T p), bitsOf T.length (tiesAt T p))) hb
      unfold rowStep
      dsimp only
      split
      · refine ⟨h.1, fun b hb => ?_⟩
        rcases List.mem_append.mp hb with z | z
        · exact h.2 b z
        · rw [List.mem_singleton.mp z]; exact hr
      · refine ⟨fun q hq => ?_, h.2⟩
        rcases List.mem_append.mp hq with z | z
        · exact h.1 q z
        · rw [List.mem_singleton.mp z]; exact hr
  exact key l ([], []) ⟨fun _ h => absurd h List.not_mem_nil, fun _ h => absurd h List.not_mem_nil⟩
theorem parRows_len (n : Nat) (T : Ties) : (parRows n T).2.length ≤ n - 1 := by
  have key : ∀ (l : List Nat) (st : Rows), (l.foldl (rowStep T) st).2.length ≤ st.2.length + l.length := by
    intro l
    induction l with
    | nil => exact fun st => Nat.le_refl _
    | cons p r ih =>
      intro st
      have h1 := ih (rowStep T st p)
      have : (rowStep T st p).2.length ≤ st.2.length + 1 := by
        unfold rowStep
        dsimp only
        split
        · rw [List.length_append]; simp
        · simp
      rw [List.foldl_cons, List.length_cons]
      omega
  have := key ((List.range (n - 1)).map (1 + ·)) ([], [])
  unfold parRows
  simpa using this
theorem baseBits_len (n : Nat) (T : Ties) : (baseBits n T).length ≤ n - 1 := Nat.le_trans (reduced_len _) (parRows_len n T)
theorem baseBits_lt {n : Nat} {T : Ties} (hT : T.length ≤ 40) : ∀ b ∈ baseBits n T, b < 2 ^ 60 := reduced_lt (rowRun_lt hT _).2
end Bo
set_option Elab.async false
set_option linter.all false
set_option maxRecDepth 100000
set_option maxHeartbeats 4000000
/-! A thing of one's own looked at as data for a while; new lists; conversions. -/
namespace Bw
open PySem PySem.Spec PyProof.Rows L2 Bo
def hide (G : Hp) (p : Addr) : Hp := fun b => if b = p then none else G b
section
variable {K : PySem.W.Frag} {G G1 H H1 Gi Hi : Hp} {p q : Addr} {o : HO} {σ : L2.St} {D : Ends} {i j : Nat} {te ta : TE} {d : PyData}
theorem view_same (s : Same G H) (m : Mu G H p o) : Same (upd G p o) H := fun a u e => by
  by_cases ha : a = p
  · subst ha; rw [upd_same] at e; rw [← e]; exact m.h
  · rw [upd_ne ha] at e; exact s a u e
theorem Gr.unview (g : Gr (upd G p o) H G1 H1) (m : Mu G H p o) : Gr G H (hide G1 p) H1 := by
  refine ⟨fun a u e => ?_, g.h, fun a u e => ?_, fun a e n => ?_⟩
  · have ha : a ≠ p := fun z => by rw [z, m.n] at e; cases e
    show (if a = p then none else G1 a) = some u
    rw [if_neg ha]
    exact g.g a u (by rw [upd_ne ha]; exact e)
  · have e' : (if a = p then none else G1 a) = some u := e
    by_cases ha : a = p
    · rw [if_pos ha] at e'; cases e'
    · rw [if_neg ha] at e'; exact g.s a u e'
  · show (if a = p then none else G1 a) = none
    by_cases ha : a = p
    · rw [if_pos ha]
    · rw [if_neg ha]
      exact g.n a (by rw [upd_ne ha]; exact e) n
theorem Mu.ne2 {o' : HO} (m : Mu G H p o) (h : H q = none) : p ≠ q := fun z => by rw [← z, m.h] at h; cases h
/-- name = [] -/
theorem s_new (gr : Gr Gi Hi G H) (k : ∀ p H', Hi p = none → H p = none → Gr G H G H' → Gr Gi Hi G H' → Mu G H' p (.lst []) → D.nx (σ.set i (some (.ref p))) H') : tAsg (tLst tNil) (gName i) D σ H :=
  ⟨Nat.zero_le _, fun p hp => k p _ (gr.fresh hp) hp (Gr.lay gr.s hp) (gr.trans (Gr.lay gr.s hp)) (Mu.lay gr.s hp)⟩
/-- name = {} -/
theorem s_newD (gr : Gr Gi Hi G H) (k : ∀ p H', Hi p = none → H p = none → Gr G H G H' → Gr Gi Hi G H' → Mu G H' p (.dK []) → D.nx (σ.set i (some (.ref p))) H') : tAsg tDNewK (gName i) D σ H :=
  fun p hp => k p _ (gr.fresh hp) hp (Gr.lay gr.s hp) (gr.trans (Gr.lay gr.s hp)) (Mu.lay gr.s hp)
/-- a, b = [], [] -/
theorem s_par00 (gr : Gr Gi Hi G H) (k : ∀ p f H', p ≠ f → Hi p = none → Hi f = none → Gr Gi Hi G H' → Mu G H' p (.lst []) → Mu G H' f (.lst []) → D.nx ((σ.set i (some (.ref p))).set j (some (.ref f))) H') :
    tPar i j (tCons (tLst tNil) (tCons (tLst tNil) tNil)) D σ H :=
  ⟨Nat.zero_le _, fun p hp => ⟨Nat.zero_le _, fun f hf => ⟨_, _, rfl, by
    have g1 := Gr.lay (o := .lst []) gr.s hp
    have g2 := Gr.lay (o := .lst []) g1.s hf
    have m1 := Mu.lay (o := .lst []) gr.s hp
    exact k p f _ (m1.ne2 (o' := .lst []) hf) (gr.fresh hp) ((gr.trans g1).fresh hf) ((gr.trans g1).trans g2) (m1.gr g2) (Mu.lay g1.s hf)⟩⟩⟩
/-- a, b = e, [] -/
theorem s_par10 (gr : Gr Gi Hi G H) (h : ED K te σ G H d) (k : ∀ v p G' H', Dp K G' v d → Hi p = none → Same G G' → Gr Gi Hi G' H' → Mu G' H' p (.lst []) → D.nx ((σ.set i (some v)).set j (some (.ref p))) H') :
    tPar i j (tCons te (tCons (tLst tNil) tNil)) D σ H :=
  h.now gr.s fun v G1 H1 g1 hv => ⟨Nat.zero_le _, fun p hp => ⟨_, _, rfl, by
    have g2 := Gr.lay (o := .lst []) g1.s hp
    exact k v p G1 _ hv ((gr.trans g1).fresh hp) g1.g ((gr.trans g1).trans g2) (Mu.lay g1.s hp)⟩⟩
/-- a, b = [], e -/
theorem s_par01 (gr : Gr Gi Hi G H) (h : ED K te σ G H d) (k : ∀ v p G' H', Dp K G' v d → Hi p = none → Same G G' → Gr Gi Hi G' H' → Mu G' H' p (.lst []) → D.nx ((σ.set i (some (.ref p))).set j (some v)) H') :
    tPar i j (tCons (tLst tNil) (tCons te tNil)) D σ H :=
  ⟨Nat.zero_le _, fun p hp => by
    have g1 := Gr.lay (o := .lst []) gr.s hp
    refine (h.mono g1).now g1.s fun v G2 H2 g2 hv => ⟨_, _, rfl, ?_⟩
    exact k v p G2 H2 hv (gr.fresh hp) g2.g ((gr.trans g1).trans g2) ((Mu.lay gr.s hp).gr g2)⟩
end
theorem intsD_zero (n : Nat) : intsD 0 n = (List.range n).map natD := by
  unfold intsD
  refine List.map_congr_left fun i _ => ?_
  show PyData.int _ = PyData.int _
  rw [Int.zero_add]
theorem intsD_one (n : Nat) : intsD 1 n = ((List.range n).map (1 + ·)).map natD := by
  unfold intsD
  rw [List.map_map]
  refine List.map_congr_left fun i _ => ?_
  show PyData.int _ = PyData.int (((1 + i : Nat)) : Int)
  rw [Int.natCast_add]; rfl
/-- webs as the laws make them -/
structure Ok (n : Nat) (T : Ties) : Prop where
  web : Web n T
  lo : 1 ≤ n
  hi : n ≤ 9
  few : T.length ≤ 40
theorem Ok.ends {n : Nat} {T : Ties} (k : Ok n T) : ∀ e ∈ T, e.1 ≤ 1000 ∧ e.2 ≤ 1000 := fun e he => by
  have := k.web e he
  have := k.hi
  omega
theorem tiesAt_lt {T : Ties} {p t : Nat} (h : t ∈ tiesAt T p) : t < T.length := by
  unfold tiesAt at h
  obtain ⟨q, hq, rfl⟩ := List.mem_map.mp h
  have := (List.mem_filter.mp hq).1
  have := List.mem_zipIdx this
  simp at this
  omega
theorem tiesAt_len (T : Ties) (p : Nat) : (tiesAt T p).length ≤ T.length := by
  unfold tiesAt
  rw [List.length_map]
  refine Nat.le_trans (List.length_filter_le _ _) ?_
  rw [List.length_zipIdx]
  exact Nat.le_refl _
end Bw
namespace Bw
open PySem PySem.Spec PyProof.Rows L2 Bo
/-! ### a statement and the rest of its block -/
section
variable {K : PySem.W.Frag} {D : Ends} {σ : L2.St} {G H Gi Hi : Hp} {te ta tb ty tv : TE} {tt : TT} {tu tw rest : TS} {g : TG} {d d1 d2 : PyData} {i j : Nat} {p : Addr} {xs : List V} {wi : TI} {α : Type} {enc : α → PyData} {kvs : List (Key × V)} {k : List (Nat × α)} {x : Nat} {a : α}
/-- the end of a branch: on with the rest -/
theorem nx_ (h : rest D σ H) : Ends.nx { D with nx := rest D } σ H := h
theorem g_nm {v : V} {Q : L2.St → Hp → Prop} (h : Q (σ.set i (some v)) H) : gName i v σ H Q := h
/-- (a, b) taken apart into two names -/
theorem g_un2 {u : V} {Q : L2.St → Hp → Prop} (s : Same G H) (hx : Dp K G u (.tuple [d1, d2])) (h : ∀ v1 v2, Dp K G v1 d1 → Dp K G v2 d2 → Q ((σ.set i (some v1)).set j (some v2)) H) : gTup K 2 (gCons (gName i) (gCons (gName j) gNil)) u σ H Q :=
  g_tup2 s hx fun v1 v2 h1 h2 => h v1 v2 h1 h2
theorem q_set (s : Same G H) (h : ED K te σ G H d) (n : ∀ v G' H', Gr G H G' H' → Dp K G' v d → rest D (σ.set i (some v)) H') : tSeq (tAsg te (gName i)) rest D σ H := h.now s n
theorem q_asg (s : Same G H) (h : ED K te σ G H d) (n : ∀ v G' H', Gr G H G' H' → Dp K G' v d → g v σ H' (rest D)) : tSeq (tAsg te g) rest D σ H := h.now s n
theorem q_un2 (s : Same G H) (h : ED K te σ G H (.tuple [d1, d2])) (n : ∀ v1 v2 G' H', Gr G H G' H' → Dp K G' v1 d1 → Dp K G' v2 d2 → rest D ((σ.set i (some v1)).set j (some v2)) H') :
    tSeq (tAsg te (gTup K 2 (gCons (gName i) (gCons (gName j) gNil)))) rest D σ H :=
  h.now s fun v G' H' g hv => g_un2 g.s hv fun v1 v2 h1 h2 => n v1 v2 G' H' g h1 h2
theorem q_par {ta : TA} (s : Same G H) (h : EA K ta σ G H [d1, d2]) (n : ∀ v w G' H', Gr G H G' H' → Dp K G' v d1 → Dp K G' w d2 → rest D ((σ.set i (some v)).set j (some w)) H') : tSeq (tPar i j ta) rest D σ H := s_par (D := { D with nx := rest D }) s h n
theorem q_if {b : Bool} (s : Same G H) (h : ET tt σ G H b) (h1 : b = true → ∀ G' H', Gr G H G' H' → tu { D with nx := rest D } σ H') (h2 : b = false → ∀ G' H', Gr G H G' H' → tw { D with nx := rest D } σ H') : tSeq (tIfS tt tu tw) rest D σ H := s_if s h h1 h2
/-- an if without an else -/
theorem q_if1 {b : Bool} (s : Same G H) (h : ET tt σ G H b) (h1 : b = true → ∀ G' H', Gr G H G' H' → tu { D with nx := rest D } σ H') (h2 : b = false → ∀ G' H', Gr G H G' H' → rest D σ H') : tSeq (tIfS tt tu tNext) rest D σ H := s_if s h h1 h2
theorem q_app (s : Same G H) (hv : σ[i]? = some (some (.ref p))) (m : Mu G H p (.lst xs)) (hz : xs.length < 100000) (h : ED K te σ G H d)
    (n : ∀ v G' H', Gr G H G' H' → Dp K G' v d → Mu G' (upd H' p (.lst (xs ++ [v]))) p (.lst (xs ++ [v])) → Same G' (upd H' p (.lst (xs ++ [v]))) → rest D σ (upd H' p (.lst (xs ++ [v])))) :
    tSeq (tDrop (tBM K "list" rAppend (tVar i) (tCons te tNil))) rest D σ H := s_app (D := { D with nx := rest D }) s hv m hz h n
theorem q_new (gr : Gr Gi Hi G H) (n : ∀ p H', Hi p = none → H p = none → Gr G H G H' → Gr Gi Hi G H' → Mu G H' p (.lst []) → rest D (σ.set i (some (.ref p))) H') : tSeq (tAsg (tLst tNil) (gName i)) rest D σ H := s_new (D := { D with nx := rest D }) gr n
theorem q_newD (gr : Gr Gi Hi G H) (n : ∀ p H', Hi p = none → H p = none → Gr G H G H' → Gr Gi Hi G H' → Mu G H' p (.dK []) → rest D (σ.set i (some (.ref p))) H') : tSeq (tAsg tDNewK (gName i)) rest D σ H := s_newD (D := { D with nx := rest D }) gr n
theorem q_par00 (gr : Gr Gi Hi G H) (n : ∀ p f H', p ≠ f → Hi p = none → Hi f = none → Gr Gi Hi G H' → Mu G H' p (.lst []) → Mu G H' f (.lst []) → rest D ((σ.set i (some (.ref p))).set j (some (.ref f))) H') :
    tSeq (tPar i j (tCons (tLst tNil) (tCons (tLst tNil) tNil))) rest D σ H := s_par00 (D := { D with nx := rest D }) gr n
theorem q_par10 (gr : Gr Gi Hi G H) (h : ED K te σ G H d) (n : ∀ v p G' H', Dp K G' v d → Hi p = none → Same G G' → Gr Gi Hi G' H' → Mu G' H' p (.lst []) → rest D ((σ.set i (some v)).set j (some (.ref p))) H') :
    tSeq (tPar i j (tCons te (tCons (tLst tNil) tNil))) rest D σ H := s_par10 (D := { D with nx := rest D }) gr h n
theorem q_par01 (gr : Gr Gi Hi G H) (h : ED K te σ G H d) (n : ∀ v p G' H', Dp K G' v d → Hi p = none → Same G G' → Gr Gi Hi G' H' → Mu G' H' p (.lst []) → rest D ((σ.set i (some (.ref p))).set j (some v)) H') :
    tSeq (tPar i j (tCons (tLst tNil) (tCons te tNil))) rest D σ H := s_par01 (D := { D with nx := rest D }) gr h n
theorem q_dput (s : Same G H) (hv : σ[i]? = some (some (.ref p))) (m : Mu G H p (.dK kvs)) (hk : KvD K G enc kvs k) (hl : k.length < 100000) (ha : ED K tv σ G H (enc a)) (hx : ED K ty σ G H (natD x))
    (n : ∀ G' H' kvs', Gr G H G' H' → Mu G' (upd H' p (.dK kvs')) p (.dK kvs') → KvD K G' enc kvs' (putN k x a) → rest D σ (upd H' p (.dK kvs'))) : tSeq (sDPut (tVar i) ty tv) rest D σ H := s_dput (D := { D with nx := rest D }) s hv m hk hl ha hx n
theorem q_forT (xs : List α) (enc : α → PyData) (h : ES K wi σ G H (xs.map enc)) (gr : Gr Gi Hi G H) (Pv : List α → L2.St → Hp → Hp → Prop) (h0 : ∀ G' H', Gr G H G' H' → Pv [] σ G' H')
    (hs : ∀ pre a post x σ' G1 H1 G' H', xs = pre ++ a :: post → Gr Gi Hi G1 H1 → Same G G1 → Pv pre σ' G1 H1 → Gr G1 H1 G' H' → Dp K G' x (enc a) →
      g x σ' H' fun σ2 H2 => tu { D with nx := Nx Gi Hi G1 (Pv (pre ++ [a])), ct := Nx Gi Hi G1 (Pv (pre ++ [a])), bk := rest D } σ2 H2)
    (hd : ∀ σ' G' H', Gr Gi Hi G' H' → Same G G' → Pv xs σ' G' H' → rest D σ' H') : tSeq (tFor wi g tu) rest D σ H := s_forT (D := { D with nx := rest D }) xs enc h gr Pv h0 hs hd
theorem q_while {c : TT} (gr : Gr Gi Hi G H) (Pv : Nat → L2.St → Hp → Hp → Prop) (m0 : Nat) (h0 : Pv m0 σ G H)
    (hs : ∀ m σ' G1 H1, Gr Gi Hi G1 H1 → Same G G1 → Pv m σ' G1 H1 → ∃ b, ET c σ' G1 H1 b ∧
      (b = true → ∀ G' H', Gr G1 H1 G' H' → tu { D with nx := Nx Gi Hi G1 (fun σ2 G2 H2 => ∃ m', m' < m ∧ Pv m' σ2 G2 H2), ct := Nx Gi Hi G1 (fun σ2 G2 H2 => ∃ m', m' < m ∧ Pv m' σ2 G2 H2), bk := rest D } σ' H') ∧
      (b = false → ∀ G' H', Gr G1 H1 G' H' → rest D σ' H')) : tSeq (tWhile c tu) rest D σ H := s_while (D := { D with nx := rest D }) gr Pv m0 h0 hs
theorem q_forKeys (hv : σ[i]? = some (some (.ref p))) (gr : Gr Gi Hi G H) (hp : Hi p = none) (m : Mu G H p (.dK kvs)) (hk : KvD K G enc kvs k) (Pv : Obj → List (Nat × α) → L2.St → Hp → Hp → Prop) (h0 : ∀ od, Pv od [] σ G (upd H p (.frz od (.dK kvs))))
    (hs : ∀ od pre q post σ' G1 H1, k = pre ++ q :: post → Gr Gi Hi G1 H1 → Same G G1 → Mu G1 H1 p (.frz od (.dK kvs)) → Pv od pre σ' G1 H1 →
      g (.int ((q.1 : Nat) : Int)) σ' H1 fun σ2 H2 => tu { nx := Nx Gi Hi G1 (fun σ3 G3 H3 => Mu G3 H3 p (.frz od (.dK kvs)) ∧ Pv od (pre ++ [q]) σ3 G3 H3), ct := Nx Gi Hi G1 (fun σ3 G3 H3 => Mu G3 H3 p (.frz od (.dK kvs)) ∧ Pv od (pre ++ [q]) σ3 G3 H3), bk := fun σ' H' => H' p = some (.frz od (.dK kvs)) ∧ rest D σ' (upd H' p (.dK kvs)), rt := fun v H' => H' p = some (.frz od (.dK kvs)) ∧ D.rt v (upd H' p (.dK kvs)) } σ2 H2)
    (hd : ∀ od σ' G' H', Gr Gi Hi G' H' → Same G G' → Mu G' H' p (.frz od (.dK kvs)) → Pv od k σ' G' H' → rest D σ' (upd H' p (.dK kvs))) : tSeq (tLock (tFor (iKeys (tVar i)) g tu)) rest D σ H := s_forKeys (D := { D with nx := rest D }) hv gr hp m hk Pv h0 hs hd
end
end Bw
namespace Bw
open PySem PySem.Spec PyProof.Rows L2 Bo
section
variable {K : PySem.W.Frag} {σ : L2.St} {G H : Hp} {te : TE} {ds : List PyData} {vs : List V}
theorem dpa_rev (h : DpAll K G vs ds) : DpAll K G vs.reverse ds.reverse := by
  induction ds generalizing vs with
  | nil => cases h; exact .nil
  | cons d ds ih =>
    cases h with
    | cons h1 h2 =>
      rw [List.reverse_cons, List.reverse_cons]
      exact (ih h2).app (.cons h1 .nil)
/-- xs[::-1] -/
theorem ed_revL (h : ED K te σ G H (.list ds)) : ED K (tRevL K te) σ G H (.list ds.reverse) := fun G0 H0 g0 Q q => h G0 H0 g0 _ fun v G1 H1 g1 hv => by
  cases hv with
  | @lst a xs _ hs ha => exact ⟨a, xs, rfl, g1.s.seq hs, fun p hp => q _ _ _ (g1.trans (Gr.new g1.s hp)) (.lst (.of upd_same) (dpa_mono (same_new (g1.s.free hp)) _ _ (dpa_rev ha)))⟩
theorem valN_mid {α : Type} {pre post : List (Nat × α)} {q : Nat × α} (h : ∀ p ∈ pre, p.1 ≠ q.1) : valN (pre ++ q :: post) q.1 = some q.2 := by
  induction pre with
  | nil => rw [List.nil_append, valN_cons, if_pos rfl]
  | cons p r ih =>
    rw [List.cons_append, valN_cons, if_neg (h p (List.mem_cons_self ..))]
    exact ih fun x hx => h x (List.mem_cons_of_mem _ hx)
theorem putN_mid {α : Type} {pre post : List (Nat × α)} {q : Nat × α} {a : α} (h : ∀ p ∈ pre, p.1 ≠ q.1) (h' : ∀ p ∈ post, p.1 ≠ q.1) : putN (pre ++ q :: post) q.1 a = pre ++ (q.1, a) :: post := by
  unfold putN
  rw [valN_mid h, Option.isSome_some, if_pos rfl, List.map_append, List.map_cons, if_pos rfl]
  have e1 : ∀ {l : List (Nat × α)}, (∀ p ∈ l, p.1 ≠ q.1) → l.map (fun p => if p.1 = q.1 then (p.1, a) else p) = l := fun {l} hl => by
    refine (List.map_congr_left fun p hp => ?_).trans (List.map_id l)
    rw [if_neg (hl p hp)]; rfl
  rw [e1 h, e1 h']
theorem putN_new {α : Type} {k : List (Nat × α)} {x : Nat} {a : α} (h : valN k x = none) : putN k x a = k ++ [(x, a)] := by
  unfold putN
  rw [h]; rfl
end
end Bw
set_option Elab.async false
set_option linter.all false
set_option maxRecDepth 100000
set_option maxHeartbeats 4000000
/-! list(range), starred arguments, sorted, pop, dict displays, setdefault, tuple +. -/
namespace Bw
open PySem PySem.Spec PyProof.Rows L2 Bo
section
variable {K : PySem.W.Frag} {D : Ends} {σ : L2.St} {G H Gi Hi : Hp} {te ta tb ty tv tk : TE} {tt : TT} {tu rest : TS} {g : TG} {d d1 d2 : PyData} {i j : Nat} {p : Addr} {xs : List V} {α : Type} {enc : α → PyData} {kvs : List (Key × V)} {k : List (Nat × α)} {x : Nat} {a : α} {ds es : List PyData}
/-- list(range(n)) -/
theorem ed_lrg {n : Nat} (h : ED K te σ G H (natD n)) (hn : n ≤ 1000000) : ED K (tLstRg (tRg1 te)) σ G H (natsL (List.range n)) := fun G0 H0 g0 Q q => h G0 H0 g0 _ fun v G1 H1 g1 hv => by
  cases hv
  refine ⟨_, rfl, RgOk.of_le (by omega) (by omega) (by omega) (by omega), fun p hp => q _ _ _ (g1.trans (Gr.new g1.s hp)) (.lst (.of upd_same) ?_)⟩
  have e : rgV 0 (n : Int) = ((List.range n).map fun k : Nat => (k : Int)).map V.int := by
    unfold rgV
    rw [Int.sub_zero, Int.toNat_natCast, List.map_map]
    refine List.map_congr_left fun i _ => ?_
    show V.int _ = V.int _
    rw [Int.zero_add]
  rw [e, natD_ints]
  exact .ofInts _
theorem ea_starL {t : TA} (h : ED K te σ G H (.list ds)) (hr : EA K t σ G H es) : EA K (StX.tStar K te t) σ G H (ds ++ es) := fun G0 H0 g0 _ q =>
  h G0 H0 g0 _ fun x G1 H1 g1 hx => by
    cases hx with
    | @lst a xs _ hs ha => exact ⟨a, xs, rfl, .inr (g1.s.seq hs), hr G1 H1 (g0.trans g1) _ fun ys G2 H2 g2 hy => q _ G2 H2 (g1.trans g2) ((dpa_mono g2.g _ _ ha).app hy)⟩
theorem ra_sortedI {l : List Nat} : RA K (rSortedI K) [natsL l] (natsL (sortN l)) := fun xs G H s hx Q q => by
  cases hx with
  | cons a b =>
    cases b
    cases a with
    | @lst a ys _ hs ha =>
      rw [natD_ints] at ha
      have e := ha.ints
      subst e
      refine ⟨a, _, rfl, s.seq hs, fun ns' p h1 h2 hp => q _ _ _ (Gr.new s hp) (.lst (.of upd_same) ?_)⟩
      rw [sortN_is h1 h2, natD_ints]
      exact .ofInts _
/-- name = p.pop() -/
theorem s_pop {y : V} (s : Same G H) (hv : σ[i]? = some (some (.ref p))) (m : Mu G H p (.lst (xs ++ [y]))) (n : Same G (upd H p (.lst xs)) → Mu G (upd H p (.lst xs)) p (.lst xs) → D.nx (σ.set j (some y)) (upd H p (.lst xs))) :
    tAsg (tBM0 K "list" rPop (tVar i)) (gName j) D σ H :=
  ⟨_, hv, .inl ⟨rfl, _, .of m.h⟩, p, xs ++ [y], y, rfl, rfl, m.h, by simp, by
    rw [List.dropLast_concat]
    exact n (same_mut s m.n) m.put⟩
theorem q_pop {y : V} (s : Same G H) (hv : σ[i]? = some (some (.ref p))) (m : Mu G H p (.lst (xs ++ [y]))) (n : Same G (upd H p (.lst xs)) → Mu G (upd H p (.lst xs)) p (.lst xs) → rest D (σ.set j (some y)) (upd H p (.lst xs))) :
    tSeq (tAsg (tBM0 K "list" rPop (tVar i)) (gName j)) rest D σ H := s_pop (D := { D with nx := rest D }) s hv m n
/-- {e: f}, a new dict of one's own -/
theorem ed_disp1 (gr : Gr Gi Hi G H) (h1 : ED K tk σ G H (natD x)) (h2 : ED K tv σ G H (enc a)) {Q : VK}
    (q : ∀ p kvs' G' H', Hi p = none → H p = none → Gr G H G' H' → Gr Gi Hi G' H' → Mu G' H' p (.dK kvs') → KvD K G' enc kvs' [(x, a)] → Q (.ref p) H') : tDisp [(tk, tv)] σ H Q := fun p hp => by
  have g1 := Gr.lay (o := .dK []) gr.s hp
  refine (h1.mono g1).now g1.s fun u G2 H2 g2 hu => (h2.mono (g1.trans g2)).now g2.s fun v G3 H3 g3 hv => ?_
  cases hu
  have g := (g1.trans g2).trans g3
  have m := (Mu.lay (o := .dK []) gr.s hp).gr (g2.trans g3)
  refine ⟨m.h, [(ky x, v)], rfl, by simp, ?_⟩
  have hp0 := gr.fresh hp
  have e : mergeK [] [(ky x, v)] = [(ky x, v)] := rfl
  rw [e]
  have gg : Gr G H G3 (upd H3 p (.dK [(ky x, v)])) := g.mut hp m.n
  exact q p _ G3 _ hp0 hp gg (gr.trans gg) m.put (.cons hv .nil)
/-- a, b = te, e by hand -/
theorem q_parG {ty : TA} (h : te σ H fun x H1 => ty σ H1 fun xs H2 => ∃ w, xs = [w] ∧ rest D ((σ.set i (some x)).set j (some w)) H2) : tSeq (tPar i j (tCons te ty)) rest D σ H := by
  have e : (fun x H1 => ty σ H1 fun xs H2 => ∃ w, xs = [w] ∧ rest D ((σ.set i (some x)).set j (some w)) H2) = fun x H1 => ty σ H1 fun xs H2 => ∃ v w, x :: xs = [v, w] ∧ rest D ((σ.set i (some v)).set j (some w)) H2 := by
    funext x H1
    congr 1
    funext xs H2
    refine propext ⟨fun ⟨w, e, z⟩ => ⟨x, w, by rw [e], z⟩, fun ⟨v, w, e, z⟩ => ?_⟩
    cases e
    exact ⟨w, rfl, z⟩
  rw [e] at h
  exact h
end
end Bw
set_option Elab.async false
set_option linter.all false
set_option maxRecDepth 100000
set_option maxHeartbeats 4000000
/-! A dict whose keys are tuples of bools, its values whole numbers; any of a tuple of bools. -/
namespace Bw
open PySem PySem.Spec PyProof.Rows L2 Bo
abbrev lf (b : Bool) : Leaf := .num (if b then 1 else 0)
theorem lf_inj : ∀ {xs ys : List Bool}, xs.map lf = ys.map lf → xs = ys := by
  intro xs
  induction xs with
  | nil => intro ys h; cases ys with
    | nil => rfl
    | cons _ _ => cases h
  | cons a r ih => intro ys h; cases ys with
    | nil => cases h
    | cons b s =>
      rw [List.map_cons, List.map_cons] at h
      have h1 := (List.cons.inj h).1
      have h2 := ih (List.cons.inj h).2
      rw [h2]
      cases a <;> cases b <;> first | rfl | exact absurd (Leaf.num.inj h1) (by decide)
abbrev Met := List (List Bool × Addr × Nat)
abbrev bareM (kvs : Met) : List (List Bool × Nat) := kvs.map fun e => (e.1, e.2.2)
abbrev MR : List (List Bool × Addr × Nat) → List (List Leaf × Addr × Value) → Prop := Paired fun p q => q.1 = p.1.map lf ∧ q.2.1 = p.2.1 ∧ RelV (.int (p.2.2 : Int)) q.2.2
def MetAt (P : Program) (w : World) (h : Heap) (a : Addr) (kvs : Met) : Prop := kvs.length ≤ sizeLine ∧ (a == sysModules) = false ∧ ∃ xs, MR kvs xs ∧
  ∃ o es ep, h.get? a = some o ∧ o.ExactDict ∧ o.data = .dict es ep ∧ es.toList = xs.map (entryOfKey (tupleKind (leafKind P w))) ∧ (xs.map (·.1)).Nodup
def metO (P : Program) (w : World) (a : Addr) (kvs : Met) : HO := .ext fun h => MetAt P w h a kvs
/-- the keys' tuples stand -/
def MetKeys (K : PySem.W.Frag) (H : Hp) (kvs : Met) : Prop := ∀ e ∈ kvs, SqT K H e.2.1 (e.1.map V.bl)
section
variable {P : Program} {w : World} {K : PySem.W.Frag} {H H' G : Hp} {h h' : Heap} {a b : Addr} {kvs : Met} {k : List Bool} {n : Nat}
theorem met_new (x : MetAt P w h a kvs) : ObjOk P w H h a (metO P w a kvs) := by
  refine ⟨x, ?_, fun h1 h2 y e => ?_⟩
  · obtain ⟨_, _, _, _, o, _, _, e, _⟩ := x
    exact ⟨o, e⟩
  · obtain ⟨z1, z2, xs, r, o, es, ep, e1, z⟩ := y
    exact ⟨z1, z2, xs, r, o, es, ep, e o e1, z⟩
theorem met_of (ok : HOk P w H h) (e : H a = some (metO P w a kvs)) : MetAt P w h a kvs := (show ObjOk P w H h a (metO P w a kvs) from ok a _ e).1
theorem MR.val {xs : List (List Leaf × Addr × Value)} (r : MR kvs xs) (k : List Bool) : RelO ((valB (bareM kvs) k).map fun n : Nat => V.int (n : Int)) ((atKey xs (k.map lf)).map (·.2)) := by
  induction r with
  | nil => exact True.intro
  | @cons p q ps qs hq t ih =>
    obtain ⟨h1, h2, h3⟩ := hq
    unfold valB atKey at ih ⊢
    rw [bareM, List.map_cons]
    by_cases e : p.1 = k
    · rw [List.find?_cons_of_pos (by simpa using e), List.find?_cons_of_pos (by rw [h1, e]; simp)]
      exact h3
    · rw [List.find?_cons_of_neg (by simpa using e), List.find?_cons_of_neg (by rw [h1]; simpa using fun z => e (lf_inj z))]
      exact ih
theorem leaf_items {its : List Value} : ∀ {k : List Bool}, Vals (k.map V.bl) its → ItemsAre (leafKind P w) (k.map lf) its := by
  induction its with
  | nil => intro k r; cases k with
    | nil => exact .nil
    | cons _ _ => cases r
  | cons v r ih => intro k r; cases k with
    | nil => cases r
    | cons b k =>
      cases r with
      | cons h1 h2 =>
        cases h1
        refine .cons ?_ (ih h2)
        cases b <;> rfl
variable {X : Cx} {pins : List (Addr × Obj)} {σ : L2.St} {s : Shared}
theorem met_key (I : Inv X pins σ H s) (e : SqT X.K H b (k.map V.bl)) : (tupleKind (leafKind X.prog X.w)).is s.heap (k.map lf) b := by
  obtain ⟨its, r, ⟨o, h1, h2, n, h3⟩, _⟩ := I.tuple e
  exact ⟨o, its.toArray, n, h1, h2, h3, leaf_items r⟩
theorem met_dict (I : Inv X pins σ H s) (e : H a = some (metO X.prog X.w a kvs)) (hk : MetKeys X.K H kvs) : kvs.length ≤ sizeLine ∧ (a == sysModules) = false ∧ ∃ xs, MR kvs xs ∧ s.heap.DictOfH (tupleKind (leafKind X.prog X.w)) a xs := by
  obtain ⟨z1, z2, xs, r, o, es, ep, e1, e2, e3, e4, e5⟩ := met_of I.hok e
  refine ⟨z1, z2, xs, r, o, es, ep, e1, e2, e3, e4, ?_, e5⟩
  have all : ∀ {l : Met} {m : List (List Leaf × Addr × Value)}, MR l m → MetKeys X.K H l → ∀ x ∈ m, (tupleKind (leafKind X.prog X.w)).is s.heap x.1 x.2.1 := by
    intro l m q
    induction q with
    | nil => intro _ x hx; exact nomatch hx
    | @cons p q ps qs hq t ih =>
      intro hl x hx
      rcases List.mem_cons.mp hx with e | hx
      · subst e
        rw [hq.1, hq.2.1]
        exact met_key I (hl p (List.mem_cons_self ..))
      · exact ih (fun y hy => hl y (List.mem_cons_of_mem _ hy)) x hx
  exact all r hk
end
/-! readings and rules -/
def tNewM (P : Program) (w : World) : TE := fun _ H Q => ∀ p, H p = none → Q (.ref p) (upd H p (metO P w p []))
def tMIn (P : Program) (w : World) (K : PySem.W.Frag) (ty td : TE) : TE := fun σ H Q => ty σ H fun y H1 => td σ H1 fun x H2 => ∃ a b kvs k, x = .ref a ∧ y = .ref b ∧ H2 a = some (metO P w a kvs) ∧ MetKeys K H2 kvs ∧ SqT K H2 b (k.map V.bl) ∧ Q (.bl (valB (bareM kvs) k).isSome) H2
def tMGet (P : Program) (w : World) (K : PySem.W.Frag) (td ty : TE) : TE := fun σ H Q => td σ H fun x H1 => ty σ H1 fun y H2 => ∃ a b kvs k n, x = .ref a ∧ y = .ref b ∧ H2 a = some (metO P w a kvs) ∧ MetKeys K H2 kvs ∧ SqT K H2 b (k.map V.bl) ∧ valB (bareM kvs) k = some n ∧ Q (.int (n : Int)) H2
def sMPut (P : Program) (w : World) (K : PySem.W.Frag) (td ty tv : TE) : TS := fun D σ H => tv σ H fun v H1 => td σ H1 fun x H2 => ty σ H2 fun y H3 => ∃ a b kvs k n, x = .ref a ∧ y = .ref b ∧ v = .int ((n : Nat) : Int) ∧ H3 a = some (metO P w a kvs) ∧ MetKeys K H3 kvs ∧ SqT K H3 b (k.map V.bl) ∧
  valB (bareM kvs) k = none ∧ kvs.length < sizeLine ∧ D.nx σ (upd H3 a (metO P w a (kvs ++ [(k, b, n)])))
section
variable {X : Cx} {o i value : Expr} {pos pos' : Pos} {td ty tv : TE}
theorem pe_newM : PE X (.Dict [] [] pos) (tNewM X.prog X.w) := ⟨fun pins s σ H Q I h =>
  wpAny_Dict_empty ⟨.ref s.heap.objs.size, _, I.laid (a := s.heap.objs.size) (o := metO X.prog X.w s.heap.objs.size []) (h' := s.heap.push { cls := .type "dict", data := .dict #[] }) (t' := s.toks) (fun _ _ q => Heap.get?_push_of_some _ q) (Nat.le_refl _)
    (met_new ⟨Nat.zero_le _, beq_eq_false_iff_ne.mpr (Ne.symm (Nat.ne_of_lt I.big)), [], .nil, _, #[], 0, Heap.get?_push_size _ rfl, ⟨rfl, rfl, rfl⟩, rfl, rfl, List.nodup_nil⟩), rfl, h _ (I.hok.fresh (Nat.le_refl _))⟩⟩
theorem pe_mget (hu : X.A.units + 1 < cLine) (ho : PE X o td) (hi : PE X i ty) (hs : NoSl i) : PE X (.Subscript o i pos) (tMGet X.prog X.w X.K td ty) := by
  refine ⟨fun pins s σ H Q I h => ?_⟩
  refine subD_of PySem.F.slot_dict_getitem.lookup hs (thn (ho.run pins s σ H _ I h) fun u s1 ⟨x, H1, I1, rx, q1⟩ => thn (hi.run pins s1 σ H1 _ I1 q1) fun iv s2 ⟨y, H2, I2, ry, a, b, kvs, k, n, ex, ey, e, hk, eb, l, q2⟩ => ?_)
  subst ex ey
  obtain rfl : u = Value.ref a := rx
  obtain rfl : iv = Value.ref b := ry
  obtain ⟨z, hd, xs, rel, dd⟩ := met_dict I2 e hk
  refine ⟨dd.typeIs, ?_⟩
  obtain ⟨w', hw, rw'⟩ := RelO.some_of (v := V.int (n : Int)) (o := (atKey xs (k.map lf)).map (·.2)) (by have := rel.val k; rw [l] at this; exact this)
  obtain ⟨p, hp, hp2⟩ := Option.map_eq_some_iff.mp hw
  refine wpAny_getItem_heap (tupleKind_room_in1 hu) (met_key I2 eb) dd hp ?_
  rw [hp2]
  exact ⟨_, H2, I2.tok _, rw', q2⟩
theorem pc_min (hu : X.A.units + 1 < cLine) (hi : PE X i ty) (ho : PE X o td) : PC X .In i o (tMIn X.prog X.w X.K ty td) := by
  refine ⟨fun pins s σ H Q I h => ?_⟩
  refine thn (hi.run pins s σ H _ I h) fun iv s1 ⟨y, H1, I1, ry, q1⟩ => thn (ho.run pins s1 σ H1 _ I1 q1) fun u s2 ⟨x, H2, I2, rx, a, b, kvs, k, ex, ey, e, hk, eb, q2⟩ => ?_
  subst ex ey
  obtain rfl : u = Value.ref a := rx
  obtain rfl : iv = Value.ref b := ry
  obtain ⟨z, hd, xs, rel, dd⟩ := met_dict I2 e hk
  refine wpAny_in_heap (tupleKind_room_in1 hu) (met_key I2 eb) hd dd ?_
  have q := (rel.val k).isSome_eq
  rw [Option.isSome_map, Option.isSome_map] at q
  rw [← q]
  exact ⟨.bl _, H2, I2.tok _, rfl, q2⟩
theorem ps_mput (hu : X.A.units + 1 < cLine) (ho : PE X o td) (hi : PE X i ty) (hv : PE X value tv) (hs : swapsWith value (some (.Subscript o i pos')) pos.line X.env = pure false) :
    PS X (.Assign [.Subscript o i pos'] value pos) (sMPut X.prog X.w X.K td ty tv) := by
  refine ⟨fun pins s σ H D I h => ?_⟩
  refine wpAny_Assign_Subscript (thn (hv.run pins s σ H _ I h) fun r s1 ⟨v, H1, I1, rv, q1⟩ => thn (ho.run pins s1 σ H1 _ I1 q1) fun u s2 ⟨x, H2, I2, rx, q2⟩ => thn (hi.run pins s2 σ H2 _ I2 q2) fun iv s3 ⟨y, H3, I3, ry, a, b, kvs, k, n, ex, ey, ev, e, hk, eb, l, hz, q3⟩ => ?_) hs
  subst ex ey ev
  obtain rfl : u = Value.ref a := rx
  obtain rfl : iv = Value.ref b := ry
  obtain ⟨z, hd, xs, rel, dd⟩ := met_dict I3 e hk
  have hn : atKey xs (k.map lf) = none := by
    have q := (rel.val k).isSome_eq
    rw [l, Option.isSome_map] at q
    cases e : atKey xs (k.map lf) with
    | none => rfl
    | some p => rw [e] at q; cases q
  have hxz : xs.length ≤ sizeLine := by rw [← Paired.length rel]; exact z
  refine wpAny_setItem_heap (hsz := hxz) (tupleKind_room_in1 hu) (met_key I3 eb) dd fun h' dd' hs => ?_
  rw [storedH_new hn] at dd'
  obtain ⟨q, es, ep, hq, h2, h3, h4, _, h5⟩ := dd'
  refine ⟨σ, _, d_write I3 (by rw [e]; exact True.intro) hs ⟨q, hq⟩ (met_new ⟨by rw [List.length_append]; exact hz, hd, _, rel.snoc ⟨rfl, rfl, rv⟩, q, es, ep, hq, h2, h3, h4, h5⟩), q3⟩
end
/-- any(tuple of bools) -/
def rAnyT (K : PySem.W.Frag) : List V → Hp → VK → Prop := fun vs H Q => ∃ (a : Addr) (bs : List Bool), vs = [.ref a] ∧ SqT K H a (bs.map V.bl) ∧ Q (.bl (bs.any id)) H
theorem bools_are {its : List Value} : ∀ {k : List Bool}, Vals (k.map V.bl) its → LSm.BoolsAre its k := by
  induction its with
  | nil => intro k r; cases k with
    | nil => exact .nil
    | cons _ _ => cases r
  | cons v r ih => intro k r; cases k with
    | nil => cases r
    | cons b k =>
      cases r with
      | cons h1 h2 =>
        cases h1
        exact .cons b (ih h2)
theorem cr_anyT {X : Cx} (hc : X.calm = true) : CallR X (.builtin "any") (rAnyT X.K) := by
  intro pins s σ H vs us Q I r h
  obtain ⟨a, bs, rfl, hs, q⟩ := h
  obtain ⟨its, rv, tp, _⟩ := I.tuple hs
  rw [Vals.ref1 r]
  have hb := bools_are rv
  have hlt : a < s.heap.objs.size := by obtain ⟨_, e, _⟩ := tp; exact Heap.lt_size e
  refine call_any_walk (wpAny_pyIter_tuple tp ?_)
  refine ⟨s.heap.objs.size, [s.heap.objs.size, a], [s.heap.objs.size], its.toArray.size, _, _, fun i => (bs[i]?).getD false, rfl, Walks.tuple (A := X.A.in1) (I.ok.hd hc) _ a (Nat.ne_of_lt hlt) its.toArray,
    ⟨⟨_, Heap.get?_push_size _ rfl, rfl, rfl⟩, tp.push _⟩, fun i v s' Q' E' hP hQ => ?_, fun h' tk hk => ?_⟩
  · obtain ⟨b, e, rfl⟩ := hb.get i v (by simpa using hP)
    simp only [e, Option.getD_some] at hQ
    exact wpAny_truthy_bool hQ
  · have e : ((List.range its.toArray.size).any fun i => (bs[i]?).getD false) = bs.any id := by
      rw [List.size_toArray, hb.length]; exact LSm.range_any bs
    rw [e]
    exact ⟨.bl _, H, I.kept (LSm.kept_iter hk), rfl, q⟩
section
variable {P : Program} {w : World} {K : PySem.W.Frag} {D : Ends} {σ : L2.St} {G G' H H' : Hp} {ty tv : TE} {p : Addr} {i : Nat} {kvs : Met} {k : List Bool} {n : Nat}
theorem MetKeys.mono (s : Same H H') (h : MetKeys K H kvs) : MetKeys K H' kvs := fun e he => sqT_mono s (h e he)
theorem dp_bools {v : V} (h : Dp K G v (.tuple (k.map PyData.bool))) : ∃ a, v = .ref a ∧ SqT K G a (k.map V.bl) := by
  cases h with
  | @tup a xs _ hs ha =>
    have e := ha.bools
    subst e
    exact ⟨a, rfl, hs⟩
theorem ra_anyT {bs : List Bool} : RA K (rAnyT K) [.tuple (bs.map PyData.bool)] (.bool (bs.any id)) := fun xs G H s hx Q q => by
  obtain ⟨v, rfl, hv⟩ := dpa1 hx
  obtain ⟨a, rfl, hs⟩ := dp_bools hv
  exact ⟨a, bs, rfl, sqT_mono s hs, q _ G H (Gr.refl s) (.bl _)⟩
theorem ed_min (hv : σ[i]? = some (some (.ref p))) (hm : H p = some (metO P w p kvs)) (hk : MetKeys K G kvs) (hx : ED K ty σ G H (.tuple (k.map PyData.bool))) : ED K (tMIn P w K ty (tVar i)) σ G H (.bool (valB (bareM kvs) k).isSome) := fun G0 H0 g0 Q q =>
  hx G0 H0 g0 _ fun y G1 H1 g1 hy => ⟨_, hv, by
    obtain ⟨a, rfl, hs⟩ := dp_bools hy
    have g := g0.trans g1
    exact ⟨p, a, kvs, k, rfl, rfl, g.h _ _ hm, (hk.mono g.g).mono g1.s, sqT_mono g1.s hs, q _ G1 H1 g1 (.bl _)⟩⟩
theorem ed_mget (hv : σ[i]? = some (some (.ref p))) (hm : H p = some (metO P w p kvs)) (hk : MetKeys K G kvs) (hl : valB (bareM kvs) k = some n) (hx : ED K ty σ G H (.tuple (k.map PyData.bool))) : ED K (tMGet P w K (tVar i) ty) σ G H (natD n) := fun G0 H0 g0 Q q =>
  ⟨_, hv, hx G0 H0 g0 _ fun y G1 H1 g1 hy => by
    obtain ⟨a, rfl, hs⟩ := dp_bools hy
    have g := g0.trans g1
    exact ⟨p, a, kvs, k, n, rfl, rfl, g.h _ _ hm, (hk.mono g.g).mono g1.s, sqT_mono g1.s hs, hl, q _ G1 H1 g1 (.int _)⟩⟩
theorem s_mput (s : Same G H) (hv : σ[i]? = some (some (.ref p))) (m : Mu G H p (metO P w p kvs)) (hk : MetKeys K G kvs) (hz : kvs.length < 100000) (hl : valB (bareM kvs) k = none) (ha : ED K tv σ G H (natD n)) (hx : ED K ty σ G H (.tuple (k.map PyData.bool)))
    (next : ∀ G' H' b, Gr G H G' H' → Mu G' (upd H' p (metO P w p (kvs ++ [(k, b, n)]))) p (metO P w p (kvs ++ [(k, b, n)])) → MetKeys K G' (kvs ++ [(k, b, n)]) → D.nx σ (upd H' p (metO P w p (kvs ++ [(k, b, n)])))) : sMPut P w K (tVar i) ty tv D σ H :=
  ha.now s fun u G1 H1 g1 hu => ⟨_, hv, (hx.mono g1).now g1.s fun y G2 H2 g2 hy => by
    cases hu
    obtain ⟨b, rfl, hs⟩ := dp_bools hy
    have g := g1.trans g2
    have m' := m.gr g
    refine ⟨p, b, kvs, k, n, rfl, rfl, rfl, m'.h, (hk.mono g.g).mono g2.s, sqT_mono g2.s hs, hl, line_lt hz, next G2 H2 b g m'.put fun e he => ?_⟩
    rcases List.mem_append.mp he with z | z
    · exact sqT_mono g.g (hk e z)
    · rw [List.mem_singleton.mp z]; exact hs⟩
/-- a, b = e, {} -/
theorem q_parM {te : TE} {rest : TS} {j : Nat} {d : PyData} {Gi Hi : Hp} (gr : Gr Gi Hi G H) (h : ED K te σ G H d) (next : ∀ v p G' H', Dp K G' v d → Hi p = none → Same G G' → Gr Gi Hi G' H' → Mu G' H' p (metO P w p []) → rest D ((σ.set i (some v)).set j (some (.ref p))) H') :
    tSeq (tPar i j (tCons te (tCons (tNewM P w) tNil))) rest D σ H :=
  h.now gr.s fun v G1 H1 g1 hv => fun p hp => ⟨_, _, rfl, by
    have g2 := Gr.lay (o := metO P w p []) g1.s hp
    exact next v p G1 _ hv ((gr.trans g1).fresh hp) g1.g ((gr.trans g1).trans g2) (Mu.lay g1.s hp)⟩
end
end Bw
set_option Elab.async false
set_option linter.all false
set_option maxRecDepth 100000
set_option maxHeartbeats 4000000
/-! Base.__init__(self, ..), Base an own class that has ValueError's; what the text must say of Thin. -/
namespace Bw
open PySem PySem.Spec PyProof.Rows L2 Bo
section
variable {X : Cx} {e : Expr} {es : List Expr} {ta : TA} {p1 p2 pos : Pos} {x : Str} {B : Addr}
/-- what the written part says of the base class B, named x -/
structure BeK (K : PySem.W.Frag) (mg : Str → Option Value) (x : Str) (B : Addr) : Prop where
  mg : mg x = some (.ref B)
  rd : PySem.W.readsIn K B (.type "type") = true
  ga : PySem.W.specialIn K (.ref B) "__getattribute__" = some (some (.builtin "type.__getattribute__"))
  ini : PySem.W.findCls K (.ref B) (.type "type") "__init__" = some (.val (.builtin "ValueError.__init__"))
theorem pe_beinit {pl : Sem Bool} (T : BeK X.K X.mg x B) (hg : Gl X x) (ha : PA X (e :: es) ta)
    (hc : eval (.Call (.Attribute (.Name x p1) "__init__" p2) (e :: es) [] pos) X.env = (do
      let ov ← eval (.Name x p1) X.env
      standAt p2.atName
      let (f, first) ← holding [ov] (getMethod ov "__init__" pl)
      callWith pos f first (backTo pos (starEach (e :: es) X.env)) (backToKw pos (keywordEach [] X.env))) := by rfl)
    (he : starEach (e :: es) X.env = (false, eval e X.env) :: starEach es X.env := by rfl) (hpl : (backTo pos (starEach es X.env)).any (·.1) = false := by rfl) (hdb : (x == ("__debug__" : Str)) = false := by decide) :
    PE X (.Call (.Attribute (.Name x p1) "__init__" p2) (e :: es) [] pos) (tVeI X.K ta) := by
  refine ⟨fun pins s σ H Q I h => ?_⟩
  refine PySem.W.methodCall_KW (ld_glob I hg T.mg ?_ hdb) hc
  refine PySem.W.method_cls I.kIn T.ga (PySem.W.cls_value I.kIn T.rd T.ini (by decide +kernel) ?_)
  show wpAny _ _ (callWith pos (Value.builtin "ValueError.__init__") [] (backTo pos (starEach (e :: es) X.env)) []) _ _ _
  refine PyProof.Rows.callWith_method1 (thn (ha.run pos pins _ σ H _ (I.tok _) h) fun us s1 ⟨vs, H1, I1, r1, a, C, ws, ev, hl, T, ea, q⟩ => ?_) he hpl
  subst ev
  cases r1 with
  | @cons _ u0 _ ur ra rw' =>
    obtain rfl : u0 = Value.ref a := ra
    have hlen : ur.length ≤ sizeLine := by
      rw [← Paired.length rw', sizeLine_eq]
      omega
    exact oinit_ok T I1 ea hlen fun s' J => ⟨.non, H1, J, rfl, q⟩
end
end Bw
set_option Elab.async false
set_option linter.all false
set_option maxRecDepth 100000
set_option maxHeartbeats 4000000
/-! Mutable lists read; setdefault; tuple + tuple; the start of shortest_lots. -/
namespace Bw
open PySem PySem.Spec PyProof.Rows L2 Bo
section
variable {K : PySem.W.Frag} {D : Ends} {σ : L2.St} {G H Gi Hi : Hp} {te ta tb ty tv tk : TE} {tt : TT} {tu rest : TS} {g : TG} {d d1 d2 : PyData} {i j k l : Nat} {p : Addr} {xs : List V} {α : Type} {enc : α → PyData} {kvs : List (Key × V)} {kk : List (Nat × α)} {x : Nat} {a : α} {ds es : List PyData} {v : V}
theorem ed_lenM (hv : σ[i]? = some (some (.ref p))) (hm : H p = some (.lst xs)) : ED K (tCB (rLenS K) (tCons (tVar i) tNil)) σ G H (natD xs.length) := fun G0 H0 g0 Q q =>
  ⟨_, hv, p, xs, rfl, .inl (.of (g0.h _ _ hm)), q _ G0 H0 (Gr.refl g0.s) (.int _)⟩
theorem ed_ixM (hv : σ[i]? = some (some (.ref p))) (hm : H p = some (.lst xs)) (hx : xs[j]? = some v) (hd : Dp K G v d) (hi : ED K te σ G H (natD j)) : ED K (tOp (rIxL K) (tVar i) te) σ G H d := fun G0 H0 g0 Q q =>
  ⟨_, hv, hi G0 H0 g0 _ fun y G1 H1 g1 hy => by
    cases hy
    have g := g0.trans g1
    refine ⟨p, xs, _, v, rfl, rfl, .of (g.h _ _ hm), ?_, q v G1 H1 g1 (dp_mono g.g _ _ hd)⟩
    unfold atI
    rw [ixN_nat (List.getElem?_eq_some_iff.mp hx).1]
    exact hx⟩
theorem rd_catT (hl : ds.length + es.length ≤ 100000) : RD K (rCatA K) (.tuple ds) (.tuple es) (.tuple (ds ++ es)) := fun x y G H s hx hy Q q => by
  cases hx with
  | @tup a xs _ hs ha =>
    cases hy with
    | @tup b ys _ hs' hb =>
      refine ⟨a, b, xs, ys, rfl, rfl, sqT_mono s hs, sqT_mono s hs', line_of (by rw [ha.len, hb.len]; exact hl), fun e => ?_, fun _ e => ?_, fun _ _ p hp => ?_⟩
      · subst e
        cases ha
        exact q _ G H (Gr.refl s) (.tup hs' hb)
      · subst e
        cases hb
        simp only [List.append_nil] at q
        exact q _ G H (Gr.refl s) (.tup hs ha)
      · exact q _ _ _ (Gr.new s hp) (.tup (.of upd_same) (dpa_mono (same_new (s.free hp)) _ _ (ha.app hb)))
/-- d.setdefault(x, a) as a statement -/
theorem s_dsetd (s : Same G H) (hv : σ[i]? = some (some (.ref p))) (m : Mu G H p (.dK kvs)) (hk : KvD K G enc kvs kk) (hl : kk.length < 100000) (hx : ED K ty σ G H (natD x)) (ha : ED K tv σ G H (enc a))
    (n1 : (valN kk x).isSome = true → ∀ G' H', Gr G H G' H' → D.nx σ H') (n2 : valN kk x = none → ∀ G' H' kvs', Gr G H G' H' → Mu G' (upd H' p (.dK kvs')) p (.dK kvs') → KvD K G' enc kvs' (kk ++ [(x, a)]) → D.nx σ (upd H' p (.dK kvs'))) :
    tDrop (tDSetd (tVar i) ty tv) D σ H :=
  ⟨_, hv, p, rfl, .inl ⟨kvs, .inl m.h⟩, hx.now s fun y G1 H1 g1 hy => (ha.mono g1).now g1.s fun z G2 H2 g2 hz => by
    cases hy
    have g := g1.trans g2
    have m2 := m.gr g
    have hk2 := hk.mono g.g
    refine ⟨kvs, ky x, m2.h, rfl, by rw [hk.len]; exact line_lt hl, fun v hv => ?_, fun hn => ?_⟩
    · cases e : valN kk x with
      | none => rw [hk2.is_none e] at hv; cases hv
      | some b => exact n1 (by rw [e]; rfl) G2 H2 g
    · cases e : valN kk x with
      | none =>
        have h2 := hk2.put (x := x) hz
        have e2 : putN kk x a = kk ++ [(x, a)] := putN_new e
        rw [e2] at h2
        exact n2 e G2 H2 _ g m2.put h2
      | some b =>
        obtain ⟨u, e1, _⟩ := hk2.is_some e
        rw [e1] at hn; cases hn⟩
/-- steps, found, waiting, place = {}, {0: ()}, [0], 0 -/
theorem q_bfs0 (gr : Gr Gi Hi G H)
    (next : ∀ ps pf pw kvs G' H', ps ≠ pf → ps ≠ pw → pf ≠ pw → Hi ps = none → Hi pf = none → Hi pw = none → Gr Gi Hi G' H' → Same G G' → Mu G' H' ps (.dK []) → Mu G' H' pf (.dK kvs) → KvD K G' natsT kvs [(0, [])] → Mu G' H' pw (.lst [.int 0]) →
      rest D ((((σ.set i (some (.ref ps))).set j (some (.ref pf))).set k (some (.ref pw))).set l (some (.int 0))) H') :
    tSeq (tAsg (tTup (tCons tDNewK (tCons (tDisp [(tC (.int 0), tTup tNil)]) (tCons (tLst (tCons (tC (.int 0)) tNil)) (tCons (tC (.int 0)) tNil))))) (gTup K 4 (gCons (gName i) (gCons (gName j) (gCons (gName k) (gCons (gName l) gNil)))))) rest D σ H := by
  intro ps hps
  have g1 := Gr.lay (o := .dK []) gr.s hps
  have m1 := Mu.lay (o := .dK []) gr.s hps
  have gr1 := gr.trans g1
  refine ed_disp1 (K := K) (tk := tC (.int 0)) (tv := tTup tNil) (σ := σ) (Gi := Gi) (Hi := Hi) (x := 0) (a := ([] : List Nat)) (enc := natsT) gr1 ed_int (ed_tup ea_nil (by simp)) fun pf kvs G2 H2 hf0 hfH g2 gr2 m2 k2 => ?_
  have m1' := m1.gr g2
  have hne1 : ps ≠ pf := fun z => by rw [← z, m1.h] at hfH; cases hfH
  refine ⟨by simp [sizeLine], fun pw hpw => ?_⟩
  have g3 := Gr.lay (o := .lst [V.int 0]) g2.s hpw
  have hne2 : ps ≠ pw := fun z => by rw [← z, m1'.h] at hpw; cases hpw
  have hne3 : pf ≠ pw := fun z => by rw [← z, m2.h] at hpw; cases hpw
  refine ⟨by simp [sizeLine], fun T hT => ?_⟩
  have g4 := Gr.lay (o := .tup [V.ref ps, V.ref pf, V.ref pw, V.int 0]) g3.s hT
  have gr4 := (gr2.trans g3).trans g4
  refine ⟨T, _, rfl, .of upd_same, rfl, _, _, rfl, _, _, rfl, _, _, rfl, _, _, rfl, rfl, ?_⟩
  exact next ps pf pw kvs G2 _ hne1 hne2 hne3 (gr.fresh hps) hf0 (gr2.fresh hpw) gr4 (g1.g.trans g2.g) ((m1'.gr g3).gr g4) ((m2.gr g3).gr g4) k2 ((Mu.lay g2.s hpw).gr g4)
end
end Bw
set_option Elab.async false
set_option linter.all false
set_option maxRecDepth 100000
set_option maxHeartbeats 4000000
/-! enumerate(zip(t, u)), t and u tuples: the zip's tuple is held while the next one is drawn. -/
namespace EZ
open PySem RZ
open PySem.W (kdx_alive)
abbrev ZipG (h : Heap) (z TI TO : Addr) (m : Value) (f : Bool) : Prop :=
  h.get? z = some { cls := .type "zip", dict := none, data := .fields #[m, .bool f, .bool false, .ref TI, .ref TO], slots := #[] }
def OutM (m : Value) : Prop := m = .none ∨ ∃ T : Addr, m = rawInt T
section
variable {prog : Program} {w : World} {A : Around} {E : Value → Shared → Prop} {s : Shared}
theorem dead {a : Addr} {Q : Option Obj → Shared → Prop} (ho : s.heap.get? a = none) (h : Q none s) : wpAny (model prog w) A (loadIfAlive a) Q E s := by
  have h' : Q (s.heap.get? a) s := by rw [ho]; exact h
  exact fun _ _ _ => h'
theorem free_or {z TI TO : Addr} {m : Value} {f : Bool} {Q : Bool → Shared → Prop} (hz : ZipG s.heap z TI TO m f) (hm : OutM m) (h1 : Q true s)
    (h2 : ∀ h', ZipG h' z TI TO m true → Heap.SameBut z s.heap h' → Q false { s with heap := h' }) : wpAny (model prog w) A (Builtin.SmallTypes.ownedTupleIsFree (.ref z)) Q E s := by
  unfold Builtin.SmallTypes.ownedTupleIsFree
  rcases hm with rfl | ⟨T, rfl⟩
  · exact wpAny_bind (wpAny_field hz rfl (x := .none) rfl (wpAny_pure h1))
  · refine wpAny_bind (wpAny_field hz rfl (x := rawInt T) rfl ?_)
    show wpAny _ _ (loadIfAlive ((T : Int).toNat) >>= _) _ _ _
    rw [Int.toNat_natCast]
    cases hT : s.heap.get? T with
    | none =>
      refine wpAny_bind (dead hT ?_)
      simp only [Option.isNone_none, if_true]
      exact wpAny_pure h1
    | some oT =>
      refine wpAny_bind (kdx_alive hT ?_)
      simp only [Option.isNone_some, Bool.false_eq_true, if_false]
      refine wpAny_bind (wpAny_field hz rfl (x := .bool f) rfl ?_)
      cases f with
      | true =>
        rw [if_neg (show ¬ ((Value.bool true != Value.bool true) = true) from Bool.false_ne_true)]
        exact wpAny_pure (h2 s.heap hz (Heap.SameBut.refl _ _))
      | false =>
        rw [if_pos (show (Value.bool false != Value.bool true) = true from rfl)]
        exact wpAny_bind (wpAny_setField_rec hz (by simp) fun h₁ hz₁ hs₁ => wpAny_pure (h2 h₁ hz₁ hs₁))
theorem zipg_item {z TI TO i1 i2 l1 l2 : Addr} {k1 k2 : Nat} {xs ys : Array Value} {x y a b m : Value} {f : Bool} {Q : Value → Shared → Prop} (D : ZipApart z TI TO i1 i2 l1 l2)
    (hz : ZipG s.heap z TI TO m f) (hm : OutM m) (hTI : IsPair s.heap TI (.ref i1) (.ref i2)) (hTO : IsPair s.heap TO a b)
    (h1 : s.heap.IsTupleIter i1 l1 k1) (h2 : s.heap.IsTupleIter i2 l2 k2) (hl1 : s.heap.IsTuple l1 xs) (hl2 : s.heap.IsTuple l2 ys) (hx : xs[k1]? = some x) (hy : ys[k2]? = some y)
    (hQ : ∀ h' m' f' a' b', ZipG h' z TI TO m' f' → OutM m' → IsPair h' TO a' b' → h'.IsTupleIter i1 l1 (k1 + 1) → h'.IsTupleIter i2 l2 (k2 + 1) → IsPair h' s.heap.objs.size x y → h'.objs.size = s.heap.objs.size + 1 →
      (∀ c o, c ≠ z → c ≠ TO → c ≠ i1 → c ≠ i2 → s.heap.get? c = some o → h'.get? c = some o) → Q (.ref s.heap.objs.size) { s with heap := h' }) :
    wpAny (model prog w) A (Builtin.«zip.__next__» ⟨[.ref z], []⟩) (fun fin s' => ∃ v, fin = .done (.ret v) ∧ Q v s') E s := by
  show wpAny _ _ (field (.ref z) 2 >>= _) _ _ _
  refine wpAny_bind (wpAny_field hz rfl (x := .bool false) rfl ?_)
  show wpAny _ _ (field (.ref z) 3 >>= _) _ _ _
  refine wpAny_bind (wpAny_field hz rfl (x := .ref TI) rfl ?_)
  refine wpAny_bind (wpAny_seqItems hTI rfl ?_)
  show wpAny _ _ (Builtin.SmallTypes.ownedTupleIsFree (.ref z) >>= _) _ _ _
  refine wpAny_bind (free_or hz hm ?_ fun h₁ hz₁ hs₁ => ?_)
  · simp only [if_true]
    refine wpAny_bind (wpAny_rule ?_)
    refine wpAny_bind (wpAny_field hz rfl (x := .ref TO) rfl ?_)
    refine wpAny_bind (wpAny_setField_rec hz (by simp) fun h₁ hz₁ hs₁ => ?_)
    replace hz₁ : ZipG h₁ z TI TO .ellipsis f := hz₁
    refine wpAny_bind ?_
    simp only [List.zipIdx_cons, List.zipIdx_nil, List.forIn_cons, List.forIn_nil]
    refine wpAny_bind (wpAny_bind (wpAny_onRaise ?_))
    show wpAny _ _ (Builtin.SmallTypes.nextOf (.ref i1) >>= _) _ _ _
    refine wpAny_bind (nextOf_tuple_item (h1.extBut hs₁.extBut D.i1z) (hl1.extBut hs₁.extBut D.l1z) hx fun h₂ h1₂ hs₂ => wpAny_pure ?_)
    have hTO₂ : IsPair h₂ TO a b := hs₂.extBut _ _ D.TOi1 (hs₁.extBut _ _ D.TOz hTO)
    refine wpAny_bind (wpAny_seqItems hTO₂ rfl ?_)
    refine wpAny_bind (wpAny_updateSeq_pair hTO₂ fun h₃ hTO₃ hs₃ => ?_)
    replace hTO₃ : IsPair h₃ TO x b := hTO₃
    refine wpAny_bind (wpAny_letGo (wpAny_pure ?_))
    refine wpAny_bind (wpAny_bind (wpAny_onRaise ?_))
    show wpAny _ _ (Builtin.SmallTypes.nextOf (.ref i2) >>= _) _ _ _
    refine wpAny_bind (nextOf_tuple_item (((h2.extBut hs₁.extBut D.i2z).extBut hs₂.extBut D.i12.symm).extBut hs₃.extBut D.TOi2.symm)
      (((hl2.extBut hs₁.extBut D.l2z).extBut hs₂.extBut D.l2i1).extBut hs₃.extBut D.l2TO) hy fun h₄ h2₄ hs₄ => wpAny_pure ?_)
    have hTO₄ : IsPair h₄ TO x b := hs₄.extBut _ _ D.TOi2 hTO₃
    refine wpAny_bind (wpAny_seqItems hTO₄ rfl ?_)
    refine wpAny_bind (wpAny_updateSeq_pair hTO₄ fun h₅ hTO₅ hs₅ => ?_)
    replace hTO₅ : IsPair h₅ TO x y := hTO₅
    refine wpAny_bind (wpAny_letGo (wpAny_pure (wpAny_pure ?_)))
    refine wpAny_bind (wpAny_seqItems hTO₅ rfl ?_)
    refine wpAny_bind (wpAny_newTuple ?_)
    have hsz : h₅.objs.size = s.heap.objs.size := by rw [hs₅.1, hs₄.1, hs₃.1, hs₂.1, hs₁.1]
    have hz₅ : ZipG h₅ z TI TO .ellipsis f := hs₅.extBut _ _ D.TOz.symm (hs₄.extBut _ _ D.i2z.symm (hs₃.extBut _ _ D.TOz.symm (hs₂.extBut _ _ D.i1z.symm hz₁)))
    have hk₅ : ∀ c o, c ≠ z → c ≠ TO → c ≠ i1 → c ≠ i2 → s.heap.get? c = some o → h₅.get? c = some o := fun c o c1 c2 c3 c4 e =>
      hs₅.extBut _ _ c2 (hs₄.extBut _ _ c4 (hs₃.extBut _ _ c2 (hs₂.extBut _ _ c3 (hs₁.extBut _ _ c1 e))))
    have h1₅ : h₅.IsTupleIter i1 l1 (k1 + 1) := ((h1₂.extBut hs₃.extBut D.TOi1.symm).extBut hs₄.extBut D.i12).extBut hs₅.extBut D.TOi1.symm
    have h2₅ : h₅.IsTupleIter i2 l2 (k2 + 1) := h2₄.extBut hs₅.extBut D.TOi2.symm
    have hzlt : z < h₅.objs.size := Heap.lt_size hz₅
    show wpAny _ _ (Builtin.SmallTypes.ownedTupleHandOut (.ref z) (.ref h₅.objs.size) >>= _) _ _ _
    refine wpAny_bind ?_
    unfold Builtin.SmallTypes.ownedTupleHandOut
    have hz₆ : ZipG (h₅.push { cls := .type "tuple", data := .seq #[x, y] }) z TI TO .ellipsis f := Heap.get?_push_of_some _ hz₅
    refine wpAny_bind (wpAny_setField_rec hz₆ (by simp) fun h₇ hz₇ hs₇ => ?_)
    replace hz₇ : ZipG h₇ z TI TO (rawInt h₅.objs.size) f := hz₇
    refine wpAny_setField_rec hz₇ (by simp) fun h₈ hz₈ hs₈ => ?_
    replace hz₈ : ZipG h₈ z TI TO (rawInt h₅.objs.size) false := hz₈
    have up : ∀ c o, c ≠ z → h₅.get? c = some o → h₈.get? c = some o := fun c o c1 e => hs₈.extBut _ _ c1 (hs₇.extBut _ _ c1 (Heap.get?_push_of_some _ e))
    have hT₈ : IsPair h₈ h₅.objs.size x y := hs₈.extBut _ _ (Nat.ne_of_gt hzlt) (hs₇.extBut _ _ (Nat.ne_of_gt hzlt) (Heap.get?_push_size _ rfl))
    have hz8 : h₈.objs.size = h₅.objs.size + 1 := by rw [hs₈.1, hs₇.1, Heap.size_push]
    rw [hsz] at hz₈ hT₈ hz8
    refine wpAny_pure ⟨_, rfl, ?_⟩
    show Q (.ref h₅.objs.size) _
    rw [hsz]
    exact hQ h₈ _ _ _ _ hz₈ (.inr ⟨_, rfl⟩) (up _ _ D.TOz hTO₅) (h1₅.at fun o e => up _ o D.i1z e) (h2₅.at fun o e => up _ o D.i2z e) hT₈ hz8 fun c o c1 c2 c3 c4 e => up c o c1 (hk₅ c o c1 c2 c3 c4 e)
  · simp only [Bool.false_eq_true, if_false]
    refine wpAny_bind ?_
    rw [← Array.forIn_toList]
    simp only [List.forIn_cons, List.forIn_nil]
    refine wpAny_bind (wpAny_bind (wpAny_holding ?_))
    show wpAny _ _ (Builtin.SmallTypes.nextOf (.ref i1) >>= _) _ _ _
    refine wpAny_bind (nextOf_tuple_item (s := { s with heap := h₁ }) (h1.extBut hs₁.extBut D.i1z) (hl1.extBut hs₁.extBut D.l1z) hx fun h₂ h1₂ hs₂ => wpAny_pure ?_)
    refine wpAny_pure ?_
    refine wpAny_bind (wpAny_bind (wpAny_holding ?_))
    show wpAny _ _ (Builtin.SmallTypes.nextOf (.ref i2) >>= _) _ _ _
    refine wpAny_bind (nextOf_tuple_item (s := { s with heap := h₂ }) ((h2.extBut hs₁.extBut D.i2z).extBut hs₂.extBut D.i12.symm) ((hl2.extBut hs₁.extBut D.l2z).extBut hs₂.extBut D.l2i1) hy fun h₃ h2₃ hs₃ => wpAny_pure ?_)
    refine wpAny_pure (wpAny_pure ?_)
    show wpAny _ _ (newTuple [x, y] >>= _) _ _ _
    refine wpAny_bind (wpAny_newTuple ?_)
    have hsz : h₃.objs.size = s.heap.objs.size := by rw [hs₃.1, hs₂.1, hs₁.1]
    have hz₃ : ZipG h₃ z TI TO m true := hs₃.extBut _ _ D.i2z.symm (hs₂.extBut _ _ D.i1z.symm hz₁)
    have hk : ∀ c o, c ≠ z → c ≠ i1 → c ≠ i2 → s.heap.get? c = some o → h₃.get? c = some o := fun c o c1 c2 c3 e => hs₃.extBut _ _ c3 (hs₂.extBut _ _ c2 (hs₁.extBut _ _ c1 e))
    have h1₃ : h₃.IsTupleIter i1 l1 (k1 + 1) := h1₂.extBut hs₃.extBut D.i12
    refine wpAny_pure ⟨_, rfl, ?_⟩
    show Q (.ref h₃.objs.size) _
    have hp : IsPair (h₃.push { cls := .type "tuple", data := .seq #[x, y] }) h₃.objs.size x y := Heap.get?_push_size _ rfl
    have hz4 : (h₃.push { cls := .type "tuple", data := .seq #[x, y] }).objs.size = h₃.objs.size + 1 := Heap.size_push ..
    rw [hsz] at hp hz4 ⊢
    exact hQ _ _ _ _ _ (Heap.get?_push_of_some _ hz₃) hm (Heap.get?_push_of_some _ (hk _ _ D.TOz D.TOi1 D.TOi2 hTO)) (h1₃.at fun o e => Heap.get?_push_of_some _ e) (h2₃.at fun o e => Heap.get?_push_of_some _ e) hp hz4 fun c o c1 _ c2 c3 e => Heap.get?_push_of_some _ (hk c o c1 c2 c3 e)
theorem zipg_end {z TI TO i1 i2 l1 l2 : Addr} {k1 k2 : Nat} {xs ys : Array Value} {a b m : Value} {f : Bool} {Q : Fin → Shared → Prop} (hh : A.handled = none) (D : ZipApart z TI TO i1 i2 l1 l2)
    (hz : ZipG s.heap z TI TO m f) (hm : OutM m) (hTI : IsPair s.heap TI (.ref i1) (.ref i2)) (hTO : IsPair s.heap TO a b)
    (h1 : s.heap.IsTupleIter i1 l1 k1) (h2 : s.heap.IsTupleIter i2 l2 k2) (hl1 : s.heap.IsTuple l1 xs) (hl2 : s.heap.IsTuple l2 ys) (hx : xs[k1]? = none)
    (hE : ∀ h' e, (∀ c o, c ≠ z → c ≠ i1 → s.heap.get? c = some o → h'.get? c = some o) → (∃ o, h'.get? e = some o ∧ o.cls = .type "StopIteration") → E (.ref e) { s with heap := h' }) :
    wpAny (model prog w) A (Builtin.«zip.__next__» ⟨[.ref z], []⟩) Q E s := by
  show wpAny _ _ (field (.ref z) 2 >>= _) _ _ _
  refine wpAny_bind (wpAny_field hz rfl (x := .bool false) rfl ?_)
  show wpAny _ _ (field (.ref z) 3 >>= _) _ _ _
  refine wpAny_bind (wpAny_field hz rfl (x := .ref TI) rfl ?_)
  refine wpAny_bind (wpAny_seqItems hTI rfl ?_)
  show wpAny _ _ (Builtin.SmallTypes.ownedTupleIsFree (.ref z) >>= _) _ _ _
  refine wpAny_bind (free_or hz hm ?_ fun h₁ hz₁ hs₁ => ?_)
  · simp only [if_true]
    refine wpAny_bind (wpAny_rule ?_)
    refine wpAny_bind (wpAny_field hz rfl (x := .ref TO) rfl ?_)
    refine wpAny_bind (wpAny_setField_rec hz (by simp) fun h₁ hz₁ hs₁ => ?_)
    replace hz₁ : ZipG h₁ z TI TO .ellipsis f := hz₁
    refine wpAny_bind ?_
    simp only [List.zipIdx_cons, List.zipIdx_nil, List.forIn_cons, List.forIn_nil]
    refine wpAny_bind (wpAny_bind (wpAny_onRaise ?_))
    show wpAny _ _ (Builtin.SmallTypes.nextOf (.ref i1) >>= _) _ _ _
    refine wpAny_bind (nextOf_tuple_end hh (h1.extBut hs₁.extBut D.i1z) (hl1.extBut hs₁.extBut D.l1z) hx fun h₂ e hs₂ he => ?_)
    obtain ⟨oe, hoe, hce⟩ := he
    have hz₂ : ZipG h₂ z TI TO .ellipsis f := hs₂ _ _ D.i1z.symm hz₁
    have hez : e ≠ z := fun x => by subst x; rw [hz₂] at hoe; cases hoe; simp at hce
    exact wpAny_setField_rec hz₂ (by simp) fun h₃ _ hs₃ => hE h₃ e (fun c o c1 c3 x => hs₃.extBut _ _ c1 (hs₂ _ _ c3 (hs₁.extBut _ _ c1 x))) ⟨oe, hs₃.extBut _ _ hez hoe, hce⟩
  · simp only [Bool.false_eq_true, if_false]
    refine wpAny_bind ?_
    rw [← Array.forIn_toList]
    simp only [List.forIn_cons, List.forIn_nil]
    refine wpAny_bind (wpAny_bind (wpAny_holding ?_))
    show wpAny _ _ (Builtin.SmallTypes.nextOf (.ref i1) >>= _) _ _ _
    refine wpAny_bind (nextOf_tuple_end (s := { s with heap := h₁ }) hh (h1.extBut hs₁.extBut D.i1z) (hl1.extBut hs₁.extBut D.l1z) hx fun h₂ e hs₂ he => ?_)
    exact hE h₂ e (fun c o c1 c2 x => hs₂ _ _ c2 (hs₁.extBut _ _ c1 x)) he
/-- what e, an enumerate over the zip z of the tuples l1, l2, stands on -/
structure EZSt (h : Heap) (e z TI TO i1 i2 l1 l2 : Addr) (i : Nat) : Prop where
  en : ∃ old, IsEnum h e z ((i : Nat) : Int) old
  zi : ∃ m f, ZipG h z TI TO m f ∧ OutM m
  ti : IsPair h TI (.ref i1) (.ref i2)
  to : ∃ a b, IsPair h TO a b
  j1 : h.IsTupleIter i1 l1 i
  j2 : h.IsTupleIter i2 l2 i
/-- e is none of the zip's -/
structure EApart (e z TI TO i1 i2 l1 l2 : Addr) : Prop extends ZipApart z TI TO i1 i2 l1 l2 where
  ez : e ≠ z
  eTI : e ≠ TI
  eTO : e ≠ TO
  ei1 : e ≠ i1
  ei2 : e ≠ i2
  el1 : e ≠ l1
  el2 : e ≠ l2
theorem ez_next {e z TI TO i1 i2 l1 l2 : Addr} {i : Nat} {xs ys : Array Value} {x y : Value} {Q : Option Value → Shared → Prop} (D : EApart e z TI TO i1 i2 l1 l2) (st : EZSt s.heap e z TI TO i1 i2 l1 l2 i)
    (hl1 : s.heap.IsTuple l1 xs) (hl2 : s.heap.IsTuple l2 ys) (hx : xs[i]? = some x) (hy : ys[i]? = some y)
    (hQ : ∀ h' tk item, IsEnumOut h' e z ((i : Int) + 1) item (s.heap.objs.size + 1) → (∃ m f, ZipG h' z TI TO m f ∧ OutM m) → IsPair h' TI (.ref i1) (.ref i2) → (∃ a b, IsPair h' TO a b) → h'.IsTupleIter i1 l1 (i + 1) → h'.IsTupleIter i2 l2 (i + 1) →
      IsPair h' s.heap.objs.size x y → h'.get? (s.heap.objs.size + 1) = some { cls := .type "tuple", data := .seq #[.int i tk, .ref s.heap.objs.size] } → h'.objs.size = s.heap.objs.size + 2 →
      (∀ b o, b ≠ e → b ≠ z → b ≠ TO → b ≠ i1 → b ≠ i2 → s.heap.get? b = some o → h'.get? b = some o) → Q (some (.ref (s.heap.objs.size + 1))) { s with heap := h', toks := tk + 1 }) :
    wpAny (model prog w) A (pyNext (.ref e)) Q E s := by
  obtain ⟨⟨old, he⟩, ⟨m, f, hz, hm⟩, hTI, ⟨a, b, hTO⟩, h1, h2⟩ := st
  have hT : s.TypeIs (.ref e) "enumerate" := ⟨_, he, rfl⟩
  have hTz : s.TypeIs (.ref z) "zip" := ⟨_, hz, rfl⟩
  unfold pyNext
  refine wpAny_bind (wpAny_attempt (wpAny_callSpecial?_slot (name := Str.ofString "__next__") hT F.slot_enumerate_next
    (wpAny_call_entry F.slot_enumerate_next hT F.entry_enumerate_next ?_ (F.args_enumerate_next_1 _))))
  obtain ⟨hp, g, d, tk, os⟩ := s
  show wpAny _ _ (field (.ref e) 2 >>= _) _ _ _
  refine wpAny_bind (wpAny_field he rfl (x := .ref z) rfl ?_)
  refine wpAny_bind ?_
  unfold Builtin.SmallTypes.nextOf
  refine wpAny_bind (wpAny_callSpecial?_slot (name := Str.ofString "__next__") hTz F.slot_zip_next
    (wpAny_call_entry F.slot_zip_next hTz F.entry_zip_next (zipg_item D.toZipApart hz hm hTI hTO h1 h2 hl1 hl2 hx hy fun h₁ m' f' a' b' z1 z2 z3 z4 z5 z6 z7 z8 => wpAny_pure ?_) (F.args_zip_next_1 _)))
  replace z6 : IsPair h₁ hp.objs.size x y := z6
  replace z7 : h₁.objs.size = hp.objs.size + 1 := z7
  have hTI₁ : IsPair h₁ TI (.ref i1) (.ref i2) := z8 _ _ D.TIz D.TITO D.TIi1 D.TIi2 hTI
  have he₁ : IsEnum h₁ e z ((i : Nat) : Int) old := z8 _ _ D.ez D.eTO D.ei1 D.ei2 he
  show wpAny _ _ (field (.ref e) 3 >>= _) _ _ ⟨h₁, g, d, tk, os⟩
  refine wpAny_bind (wpAny_field he₁ rfl (x := rawInt i) rfl ?_)
  show wpAny _ _ (field (.ref e) 4 >>= _) _ _ ⟨h₁, g, d, tk, os⟩
  refine wpAny_bind (wpAny_field he₁ rfl (x := .none) rfl ?_)
  show wpAny _ _ (mkInt i >>= _) _ _ ⟨h₁, g, d, tk, os⟩
  refine wpAny_bind (wpAny_mkInt ?_)
  show wpAny _ _ (setField (.ref e) 3 (rawInt ((i : Int) + 1)) >>= _) _ _ ⟨h₁, g, d, tk + 1, os⟩
  refine wpAny_bind (wpAny_setField_rec he₁ (by simp) fun h₂ he₂ hs₂ => ?_)
  replace hs₂ : Heap.SameBut e h₁ h₂ := hs₂
  replace he₂ : IsEnum h₂ e z ((i : Int) + 1) old := he₂
  show wpAny _ _ (setField (.ref e) 4 .none >>= _) _ _ ⟨h₂, g, d, tk + 1, os⟩
  refine wpAny_bind (wpAny_setField_rec he₂ (by simp) fun h₃ he₃ hs₃ => ?_)
  replace hs₃ : Heap.SameBut e h₂ h₃ := hs₃
  replace he₃ : IsEnum h₃ e z ((i : Int) + 1) old := he₃
  show wpAny _ _ (newTuple [.int i tk, .ref hp.objs.size] >>= _) _ _ ⟨h₃, g, d, tk + 1, os⟩
  refine wpAny_bind (wpAny_newTuple ?_)
  have he₄ : IsEnum (h₃.push { cls := .type "tuple", data := .seq #[.int i tk, .ref hp.objs.size] }) e z ((i : Int) + 1) old := Heap.get?_push_of_some _ he₃
  generalize hh₄ : h₃.push { cls := .type "tuple", data := .seq #[.int i tk, .ref hp.objs.size] } = h₄ at he₄
  have hsz : h₃.objs.size = hp.objs.size + 1 := by rw [hs₃.1, hs₂.1, z7]
  have hel : e < hp.objs.size := Heap.lt_size he
  have ht₄ : h₄.get? (hp.objs.size + 1) = some { cls := .type "tuple", data := .seq #[.int i tk, .ref hp.objs.size] } := by rw [← hh₄, ← hsz]; exact Heap.get?_push_size _ rfl
  have hz₄ : h₄.objs.size = hp.objs.size + 2 := by rw [← hh₄, Heap.size_push, hsz]
  have hk₄ : ∀ b o, b ≠ e → h₁.get? b = some o → h₄.get? b = some o := fun b o hbe hb => by
    rw [← hh₄]; exact Heap.get?_push_of_some _ (hs₃.extBut b o hbe (hs₂.extBut b o hbe hb))
  show wpAny _ _ (Builtin.SmallTypes.ownedTupleIsFree (.ref e) >>= _) _ _ ⟨h₄, g, d, tk + 1, os⟩
  rw [hsz]
  clear hh₄ he₃ hs₃ he₂ hs₂ hsz h₃ h₂
  refine wpAny_bind ?_
  unfold Builtin.SmallTypes.ownedTupleIsFree
  refine wpAny_bind (wpAny_field he₄ rfl (x := .none) rfl (wpAny_pure ?_))
  simp only [if_true]
  refine wpAny_bind (wpAny_rule ?_)
  refine wpAny_bind (wpAny_field he₄ rfl (x := old) rfl ?_)
  refine wpAny_bind (wpAny_setField_rec he₄ (by simp) fun h₅ he₅ hs₅ => ?_)
  replace hs₅ : Heap.SameBut e h₄ h₅ := hs₅
  replace he₅ : IsEnum h₅ e z ((i : Int) + 1) (.ref hp.objs.size) := he₅
  show wpAny _ _ (Builtin.SmallTypes.ownedTupleHandOut (.ref e) (.ref (hp.objs.size + 1)) >>= _) _ _ ⟨h₅, g, d, tk + 1, os⟩
  refine wpAny_bind ?_
  unfold Builtin.SmallTypes.ownedTupleHandOut
  refine wpAny_bind (wpAny_setField_rec he₅ (by simp) fun h₆ he₆ hs₆ => ?_)
  replace hs₆ : Heap.SameBut e h₅ h₆ := hs₆
  replace he₆ : IsEnumOut h₆ e z ((i : Int) + 1) (.ref hp.objs.size) (hp.objs.size + 1) := he₆
  refine wpAny_setField_rec he₆ (by simp) fun h₇ he₇ hs₇ => ?_
  replace hs₇ : Heap.SameBut e h₆ h₇ := hs₇
  replace he₇ : IsEnumOut h₇ e z ((i : Int) + 1) (.ref hp.objs.size) (hp.objs.size + 1) := he₇
  have up : ∀ b o, b ≠ e → h₁.get? b = some o → h₇.get? b = some o := fun b o hbe hb => hs₇.extBut b o hbe (hs₆.extBut b o hbe (hs₅.extBut b o hbe (hk₄ b o hbe hb)))
  refine wpAny_bind (wpAny_letGo (wpAny_pure ⟨_, rfl, wpAny_pure ?_⟩))
  refine hQ h₇ tk _ he₇ ⟨m', f', up _ _ D.ez.symm z1, z2⟩ (up _ _ D.eTI.symm hTI₁) ⟨a', b', up _ _ D.eTO.symm z3⟩ (z4.at fun o q => up _ o D.ei1.symm q) (z5.at fun o q => up _ o D.ei2.symm q) (up _ _ (Nat.ne_of_gt hel) z6) ?_ ?_ fun b o b1 b2 b3 b4 b5 q => up b o b1 (z8 b o b2 b3 b4 b5 q)
  · have hne : hp.objs.size + 1 ≠ e := Nat.ne_of_gt (Nat.lt_succ_of_lt hel)
    exact hs₇.extBut _ _ hne (hs₆.extBut _ _ hne (hs₅.extBut _ _ hne ht₄))
  · show h₇.objs.size = hp.objs.size + 2
    rw [hs₇.1, hs₆.1, hs₅.1, hz₄]
theorem ez_end {e z TI TO i1 i2 l1 l2 : Addr} {i : Nat} {xs ys : Array Value} {Q : Option Value → Shared → Prop} (hh : A.handled = none) (D : EApart e z TI TO i1 i2 l1 l2) (st : EZSt s.heap e z TI TO i1 i2 l1 l2 i)
    (hl1 : s.heap.IsTuple l1 xs) (hl2 : s.heap.IsTuple l2 ys) (hx : xs[i]? = none)
    (hQ : ∀ h', (∀ b o, b ≠ z → b ≠ i1 → s.heap.get? b = some o → h'.get? b = some o) → Q none { s with heap := h' }) : wpAny (model prog w) A (pyNext (.ref e)) Q E s := by
  obtain ⟨⟨old, he⟩, ⟨m, f, hz, hm⟩, hTI, ⟨a, b, hTO⟩, h1, h2⟩ := st
  have hT : s.TypeIs (.ref e) "enumerate" := ⟨_, he, rfl⟩
  have hTz : s.TypeIs (.ref z) "zip" := ⟨_, hz, rfl⟩
  unfold pyNext
  refine wpAny_bind (wpAny_attempt (wpAny_callSpecial?_slot (name := Str.ofString "__next__") hT F.slot_enumerate_next
    (wpAny_call_entry F.slot_enumerate_next hT F.entry_enumerate_next ?_ (F.args_enumerate_next_1 _))))
  show wpAny _ _ (field (.ref e) 2 >>= _) _ _ _
  refine wpAny_bind (wpAny_field he rfl (x := .ref z) rfl ?_)
  refine wpAny_bind ?_
  unfold Builtin.SmallTypes.nextOf
  refine wpAny_bind (wpAny_callSpecial?_slot (name := Str.ofString "__next__") hTz F.slot_zip_next
    (wpAny_call_entry F.slot_zip_next hTz F.entry_zip_next (zipg_end hh D.toZipApart hz hm hTI hTO h1 h2 hl1 hl2 hx fun h' x hk hs => ?_) (F.args_zip_next_1 _)))
  obtain ⟨o, ho, hc⟩ := hs
  refine wpAny_bind (wpAny_isInstance (T := "StopIteration") (b := true) ⟨o, ho, hc⟩ isSubtype_stop ?_)
  exact wpAny_pure (hQ _ hk)
end
end EZ
set_option Elab.async false
set_option linter.all false
set_option maxRecDepth 100000
set_option maxHeartbeats 4000000
namespace Bw
open PySem PySem.Spec PyProof.Rows L2 Bo EZ RZ
theorem turned2 {X : Cx} {pins : List (Addr × Obj)} {σ : L2.St} {H : Hp} {s : Shared} {h' : Heap} {t' : Nat} {ch : List Addr} {P T : Addr} {o1 o2 : HO} (I : Inv X pins σ H s) (k : ∀ b o, b ∉ ch → s.heap.get? b = some o → h'.get? b = some o) (hf : ∀ b ∈ ch, FpOk X pins H b)
    (hP : s.heap.objs.size ≤ P) (hT : s.heap.objs.size ≤ T) (hPT : P ≠ T) (n1 : ObjOk X.prog X.w (upd (upd H P o1) T o2) h' P o1) (n2 : ObjOk X.prog X.w (upd (upd H P o1) T o2) h' T o2) : Inv X pins σ (upd (upd H P o1) T o2) { s with heap := h', toks := t' } := by
  have hp : H P = none := I.hok.fresh hP
  have hn : H T = none := I.hok.fresh hT
  have nit : ∀ b u, H b = some u → b ∉ ch := fun b u e z => by
    have q := (hf b z).1
    rw [q] at e; cases e
  have keepH : ∀ {b : Addr} {u : HO}, H b = some u → upd (upd H P o1) T o2 b = some u := fun {b u} e => by
    rw [upd_ne (ne_of_none e hn), upd_ne (ne_of_none e hp)]; exact e
  refine I.step (g' := s.gens) (d' := s.drawn) (ch := ch) (fun b hb => ⟨(hf b hb).2.2.2.1, (hf b hb).2.1, (hf b hb).2.2.2.2.1, (hf b hb).2.2.2.2.2⟩) (fun b o _ _ hc e _ => k b o hc e) (fun b o _ _ hc e _ => ⟨o.slots, k b o hc e⟩)
    (fun b o _ e n => ?_) (fun b o hc e => ⟨o, k b o hc e⟩) (fun b xs e => keepH e) (fun b o u e => keepH e) (fun b ps e => ⟨#[], by rw [keepH e]; simp⟩) (fun m hm => ?_) (fun b u e => ?_) I.bare
  · rw [upd_ne (Nat.ne_of_lt (Nat.lt_of_lt_of_le (Heap.lt_size e) hT)), upd_ne (Nat.ne_of_lt (Nat.lt_of_lt_of_le (Heap.lt_size e) hP))]; exact n
  · obtain ⟨o, es, ep, ho, r⟩ := hm
    exact ⟨o, es, ep, k _ o (fun z => (hf _ z).2.1 rfl) ho, r⟩
  · by_cases hb : b = T
    · subst hb
      rw [upd_same] at e
      cases e
      exact n2
    · rw [upd_ne hb] at e
      by_cases hb2 : b = P
      · subst hb2
        rw [upd_same] at e
        cases e
        exact n1
      · rw [upd_ne hb2] at e
        refine (I.hok b u e).stay (fun c v hc q => k c v ?_ q) (fun c q => keepH q) fun c xs q => keepH q
        rcases hc with z | z
        · rw [z]; exact nit b u e
        · exact nit c _ z
/-- numbered pairs of the items of two tuples -/
def ItEZ (K : PySem.W.Frag) (a b : Addr) : It :=
  ⟨fun i H => ∃ (xs ys : List V) (x y : V), SqT K H a xs ∧ SqT K H b ys ∧ xs[i]? = some x ∧ ys[i]? = some y,
   fun i H v H' => ∃ P T x y, v = .ref T ∧ H P = none ∧ H T = none ∧ P ≠ T ∧ H' = upd (upd H P (.tup [x, y])) T (.tup [.int (i : Nat), .ref P]) ∧ (∀ xs, SqT K H a xs → xs[i]? = some x) ∧ ∀ ys, SqT K H b ys → ys[i]? = some y,
   fun i H => ∃ xs ys : List V, SqT K H a xs ∧ SqT K H b ys ∧ xs.length ≤ i⟩
theorem turn_ez {P : Program} {w : World} {K : PySem.W.Frag} {elts : List Expr} {kk : Nat} {tpos : Pos} {a b e z TI TO i1 i2 : Addr} (D : EApart e z TI TO i1 i2 a b) :
    Turn P w K (.Tuple elts kk tpos) (ItEZ K a b) [e, z, TI, TO, i1, i2] e (fun i h => EZSt h e z TI TO i1 i2 a b i) where
  mem := by simp
  obj := fun i h st c hc => by
    obtain ⟨⟨old, he⟩, ⟨m, f, hz, hm⟩, hTI, ⟨x, y, hTO⟩, ⟨o1, e1, _, d1⟩, ⟨o2, e2, _, d2⟩⟩ := st
    have e' : c = e ∨ c = z ∨ c = TI ∨ c = TO ∨ c = i1 ∨ c = i2 := by simpa using hc
    rcases e' with q | q | q | q | q | q
    · rw [q]; exact ⟨_, he, fun v q => nomatch q⟩
    · rw [q]; exact ⟨_, hz, fun v q => nomatch q⟩
    · rw [q]; exact ⟨_, hTI, fun v q => nomatch q⟩
    · rw [q]; exact ⟨_, hTO, fun v q => nomatch q⟩
    · rw [q]; exact ⟨o1, e1, fun v q => by rw [d1] at q; cases q⟩
    · rw [q]; exact ⟨o2, e2, fun v q => by rw [d2] at q; cases q⟩
  keep := fun i h h' st k => by
    obtain ⟨⟨old, he⟩, ⟨m, f, hz, hm⟩, hTI, ⟨x, y, hTO⟩, h1, h2⟩ := st
    exact ⟨⟨old, k e (by simp) _ he⟩, ⟨m, f, k z (by simp) _ hz, hm⟩, k TI (by simp) _ hTI, ⟨x, y, k TO (by simp) _ hTO⟩, h1.at fun o q => k i1 (by simp) o q, h2.at fun o q => k i2 (by simp) o q⟩
  item := by
    intro X hP hw hK hc i pins s σ H E I hf st hg
    subst hP hw hK
    obtain ⟨xs, ys, x, y, hqx, hqy, hx, hy⟩ := hg
    obtain ⟨its, rv, p, _⟩ := I.tuple hqx
    obtain ⟨its2, rv2, p2, _⟩ := I.tuple hqy
    obtain ⟨u, hu, ru⟩ := rv.get hx
    obtain ⟨u2, hu2, ru2⟩ := rv2.get hy
    obtain ⟨old, he⟩ := st.en
    have hel : e < s.heap.objs.size := Heap.lt_size he
    refine ez_next D st p p2 (x := u) (y := u2) (by simpa using hu) (by simpa using hu2) fun h' tk item ho hzi hTI hTO h1' h2' hPp hTp hsz hk => ?_
    refine ⟨_, rfl, wpAny_letOwnedTupleGo_enum (s := { s with heap := h', toks := tk + 1 }) ho fun h'' he' sb => ?_⟩
    have hP2 : h''.get? s.heap.objs.size = some { cls := .type "tuple", data := .seq #[u, u2] } := (sb.2 _ (Nat.ne_of_gt hel)).trans hPp
    have hT2 : h''.get? (s.heap.objs.size + 1) = some { cls := .type "tuple", data := .seq #[.int i tk, .ref s.heap.objs.size] } := (sb.2 _ (Nat.ne_of_gt (Nat.lt_succ_of_lt hel))).trans hTp
    have I1 : Inv X pins σ (upd (upd H s.heap.objs.size (.tup [x, y])) (s.heap.objs.size + 1) (.tup [.int (i : Nat), .ref s.heap.objs.size])) { s with heap := h'', toks := tk + 1 } :=
      turned2 (ch := [e, z, TI, TO, i1, i2]) I (fun c o hb q => (sb.2 c (fun q' => hb (by simp [q']))).trans (hk c o (fun q' => hb (by simp [q'])) (fun q' => hb (by simp [q'])) (fun q' => hb (by simp [q'])) (fun q' => hb (by simp [q'])) (fun q' => hb (by simp [q'])) q)) hf (Nat.le_refl _) (Nat.le_succ _) (Nat.ne_of_lt (Nat.lt_succ_self _))
        ⟨by show 2 ≤ sizeLine; decide, [u, u2], .cons ru (.cons ru2 .nil), ⟨_, hP2, rfl, _, rfl⟩⟩ ⟨by show 2 ≤ sizeLine; decide, [.int i tk, .ref s.heap.objs.size], .cons ⟨_, rfl⟩ (.cons rfl .nil), ⟨_, hT2, rfl, _, rfl⟩⟩
    refine ⟨.ref (s.heap.objs.size + 1), _, I1, rfl, ⟨_, _, x, y, rfl, I.hok.fresh (Nat.le_refl _), I.hok.fresh (Nat.le_succ _), Nat.ne_of_lt (Nat.lt_succ_self _), rfl, fun l hl => by rw [I.tuple_inj hl hqx]; exact hx, fun l hl => by rw [I.tuple_inj hl hqy]; exact hy⟩, ⟨⟨item, ?_⟩, ?_, ?_, ?_, ?_, ?_⟩, fun c hcm => ?_⟩
    · have e1 : ((i + 1 : Nat) : Int) = (i : Int) + 1 := by omega
      rw [e1]; exact he'
    · obtain ⟨m, f, hz, hm⟩ := hzi
      exact ⟨m, f, (sb.2 _ D.ez.symm).trans hz, hm⟩
    · exact (sb.2 _ D.eTI.symm).trans hTI
    · obtain ⟨x', y', q⟩ := hTO
      exact ⟨x', y', (sb.2 _ D.eTO.symm).trans q⟩
    · exact h1'.at fun o q => (sb.2 _ D.ei1.symm).trans q
    · exact h2'.at fun o q => (sb.2 _ D.ei2.symm).trans q
    · have hlt : c < s.heap.objs.size := by
        have e' : c = e ∨ c = z ∨ c = TI ∨ c = TO ∨ c = i1 ∨ c = i2 := by simpa using hcm
        obtain ⟨_, ⟨m, f, hz, hm⟩, hTI0, ⟨x', y', hTO0⟩, ⟨o1, e1, _⟩, ⟨o2, e2, _⟩⟩ := st
        rcases e' with q | q | q | q | q | q
        · rw [q]; exact hel
        · rw [q]; exact Heap.lt_size hz
        · rw [q]; exact Heap.lt_size hTI0
        · rw [q]; exact Heap.lt_size hTO0
        · rw [q]; exact Heap.lt_size e1
        · rw [q]; exact Heap.lt_size e2
      rw [upd_ne (Nat.ne_of_lt (Nat.lt_succ_of_lt hlt)), upd_ne (Nat.ne_of_lt hlt)]
      exact (hf c hcm).1
  done := by
    intro X hP hw hK hc i pins s σ H E I hf st hg
    subst hP hw hK
    obtain ⟨xs, ys, hqx, hqy, hend⟩ := hg
    obtain ⟨its, rv, p, _⟩ := I.tuple hqx
    obtain ⟨its2, rv2, p2, _⟩ := I.tuple hqy
    have l1 := rv.length
    exact ez_end (I.ok.hd hc) D st p p2 (by simp; omega) fun h' hk => ⟨rfl, I.turnedL (t' := s.toks) (ch := [e, z, TI, TO, i1, i2]) (fun c o hb q => hk c o (fun q' => hb (by simp [q'])) (fun q' => hb (by simp [q'])) q) hf⟩
  self := fun A i s Q E st h => let ⟨_, he⟩ := st.en; wpAny_pyIter_enum he h
def iEnumZ (K : PySem.W.Frag) (ta : TA) : TI := fun σ H R => ta σ H fun vs H1 => ∃ a b xs ys, vs = [.ref a, .ref b] ∧ SqT K H1 a xs ∧ SqT K H1 b ys ∧ R (ItEZ K a b) H1
end Bw
namespace EZ
open PySem
theorem meets_self {z : Addr} {Hq : Heap → Prop} (B : ∀ (prog : Program) (w : World) (A : Around) (E : Value → Shared → Prop) (s : Shared) (Q : Value → Shared → Prop), Hq s.heap → Q (.ref z) s → wpAny (model prog w) A (pyIter (.ref z)) Q E s) :
    Meets (Builtin.«enumerate.__new__» ⟨[.type "enumerate", .ref z], []⟩) (fun _ R s => Hq s.heap ∧
      R (.ok (.ret (.ref s.heap.objs.size))) { s with heap := s.heap.push { cls := .type "enumerate", data := .fields #[.none, .bool false, .ref z, rawInt 0, .none, .none] } }) :=
  .of_wp fun prog w A R s h => by
    obtain ⟨hp, g, d, tk, os⟩ := s
    obtain ⟨h1, h⟩ := h
    have hsub := sub_enumerate
    have begins : ∀ {A' : Around} {E : Value → Shared → Prop} {Q : Value → Shared → Prop}, Q (.ref z) ⟨hp, g, d, tk, os⟩ → wpAny (model prog w) A' (pyIter (.ref z)) Q E ⟨hp, g, d, tk, os⟩ :=
      fun q => B prog w _ _ ⟨hp, g, d, tk, os⟩ _ h1 q
    wp_walk using begins
    refine wpAny_stack_any fun st => wpAny_pure ?_
    split
    · rename_i c _ _ _ _ _
      cases (c == Value.type "enumerate") <;> (wp_walk using begins; exact ⟨_, rfl, h⟩)
    · wp_walk using begins
      exact ⟨_, rfl, h⟩
section
variable {prog : Program} {w : World} {A : Around} {E : Value → Shared → Prop} {s : Shared}
theorem call_self {z : Addr} {Hq : Heap → Prop} {Q : Value → Shared → Prop} (B : ∀ (prog : Program) (w : World) (A : Around) (E : Value → Shared → Prop) (s : Shared) (Q : Value → Shared → Prop), Hq s.heap → Q (.ref z) s → wpAny (model prog w) A (pyIter (.ref z)) Q E s) (h1 : Hq s.heap)
    (h : ∀ h', IsEnum h' s.heap.objs.size z 0 .none → h'.objs.size = s.heap.objs.size + 1 → (∀ b u, s.heap.get? b = some u → h'.get? b = some u) → Q (.ref s.heap.objs.size) { s with heap := h' }) :
    wpAny (model prog w) A (call (.type "enumerate") [.ref z]) Q E s := by
  refine callType_new F.called_enumerate (by decide) (F.typeCall_enumerate_1 _) (F.newCall_enumerate_1 _) (fun obj => F.args_object_init_2 obj _) F.entry_enumerate_new (meets_self B) ⟨h1, ?_⟩
  have he : IsEnum (s.heap.push { cls := .type "enumerate", data := .fields #[.none, .bool false, .ref z, rawInt 0, .none, .none] }) s.heap.objs.size z 0 .none := Heap.get?_push_size _ rfl
  exact ⟨⟨_, he, rfl⟩, h _ he (Heap.size_push ..) fun b u x => Heap.get?_push_of_some _ x⟩
end
end EZ
namespace Bw
open PySem PySem.Spec PyProof.Rows L2 Bo EZ RZ
theorem ea_mk {n a b : Nat} (la : a < n) (lb : b < n) (D : ZipApart (n + 4) (n + 2) (n + 3) n (n + 1) a b) : EApart (n + 5) (n + 4) (n + 2) (n + 3) n (n + 1) a b := ⟨D, (show (n + 5 : Nat) ≠ n + 4 by omega), (show (n + 5 : Nat) ≠ n + 2 by omega), (show (n + 5 : Nat) ≠ n + 3 by omega), (show (n + 5 : Nat) ≠ n by omega), (show (n + 5 : Nat) ≠ n + 1 by omega), (show (n + 5 : Nat) ≠ a by omega), (show (n + 5 : Nat) ≠ b by omega)⟩
theorem ea_le {n c : Nat} (h : c ∈ [n + 5, n + 4, n + 2, n + 3, n, n + 1]) : n ≤ c := by
  have e' : c = n + 5 ∨ c = n + 4 ∨ c = n + 2 ∨ c = n + 3 ∨ c = n ∨ c = n + 1 := by simpa using h
  omega
theorem pi_enumZ {X : Cx} {e e2 : Expr} {ta : TA} {p pz pos posz tpos : Pos} {elts : List Expr} {kk : Nat} (hg : Gl X "enumerate") (hm : X.mg "enumerate" = none) (hgz : Gl X "zip") (hmz : X.mg "zip" = none) (ha : PA X [e, e2] ta)
    (hs1 : starEach [.Call (.Name "zip" pz) [e, e2] [] posz] X.env = (false, eval (.Call (.Name "zip" pz) [e, e2] [] posz) X.env) :: starEach [] X.env := by rfl)
    (hs : starEach [e, e2] X.env = (false, eval e X.env) :: starEach [e2] X.env := by rfl) (hpl : (backTo posz (starEach [e2] X.env)).any (·.1) = false := by rfl) :
    PI X (.Tuple elts kk tpos) (.Call (.Name "enumerate" p) [.Call (.Name "zip" pz) [e, e2] [] posz] [] pos) (iEnumZ X.K ta) := by
  refine ⟨fun pins s σ H R I h => ?_⟩
  refine Call_ (ld_blt I hg hm boot_enumerate (PyProof.Rows.callWith_type1 (args_cons (Call_ (ld_blt I hgz hmz PyProof.Rows.boot_zip (PyProof.Rows.callWith_type1 (thn (ha.run posz pins s σ H _ I h) fun us s1 ⟨vs, H1, I1, r1, a, b, xs, ys, ex, hqx, hqy, q⟩ => ?_) hs hpl))) hs1) hs1))
  subst ex
  cases r1 with
  | cons r rr =>
    cases rr with
    | cons r' rr =>
      cases rr
      cases r
      cases r'
      obtain ⟨its, rv, p1, _⟩ := I1.tuple hqx
      obtain ⟨its2, rv2, p2, _⟩ := I1.tuple hqy
      obtain ⟨o1, ho1, _⟩ := id p1
      obtain ⟨o2, ho2, _⟩ := id p2
      have la : a < s1.heap.objs.size := Heap.lt_size ho1
      have lb : b < s1.heap.objs.size := Heap.lt_size ho2
      refine call_zipT (show s1.heap.IsTuple a its.toArray from p1) (show s1.heap.IsTuple b its2.toArray from p2) fun h' hz hTI hTO h1 h2 hsz hk => args_nil ?_
      show wpAny _ _ (call (.type "enumerate") [.ref (s1.heap.objs.size + 4)]) _ _ _
      refine EZ.call_self (s := { s1 with heap := h' }) (z := s1.heap.objs.size + 4) (Hq := fun h => IsZip h (s1.heap.objs.size + 4) (s1.heap.objs.size + 2) (s1.heap.objs.size + 3) .none) (fun prog w A E s Q hz' hQ => wpAny_pyIter_zip hz' hQ) hz fun h2' he hsz2 hk2 => wpAny_pyIter_enum he ?_
      have hsz2 : h2'.objs.size = h'.objs.size + 1 := hsz2
      have I2 : Inv X pins σ H1 { s1 with heap := h2' } := I1.kept (t' := s1.toks) fun b u q => hk2 b u (hk b u q)
      have hez : h'.objs.size = s1.heap.objs.size + 5 := hsz
      have he' : IsEnum h2' (s1.heap.objs.size + 5) (s1.heap.objs.size + 4) 0 .none := by rw [← hez]; exact he
      have fr : ∀ c, s1.heap.objs.size ≤ c → FpOk X pins H1 c := fun c hc => I1.fpOk hc (I1.hok.fresh hc)
      have D0 := PySem.W.ktu_apart s1.heap.objs.size a b la lb
      show PIE X pins σ _ R (.ref h'.objs.size) _
      rw [hez]
      refine ⟨s1.heap.objs.size + 5, [s1.heap.objs.size + 5, s1.heap.objs.size + 4, s1.heap.objs.size + 2, s1.heap.objs.size + 3, s1.heap.objs.size, s1.heap.objs.size + 1], _, _, H1, rfl, I2,
        turn_ez (ea_mk la lb D0), ⟨⟨.none, he'⟩, ⟨_, _, hk2 _ _ hz, .inl rfl⟩, hk2 _ _ hTI, ⟨_, _, hk2 _ _ hTO⟩, h1.at fun o q => hk2 _ o q, h2.at fun o q => hk2 _ o q⟩, fun c hcm => ?_, q⟩
      exact fr c (ea_le hcm)
section
variable {K : PySem.W.Frag} {σ : L2.St} {G H : Hp} {ta : TA} {ds es : List PyData}
/-- numbered pairs of two rows' items -/
def numbered2 (ds es : List PyData) : List PyData := (ds.zip es).zipIdx.map fun p => .tuple [.int (p.2 : Nat), .tuple [p.1.1, p.1.2]]
theorem es_enumZ (hl : ds.length = es.length) (h : EA K ta σ G H [.tuple ds, .tuple es]) : ES K (iEnumZ K ta) σ G H (numbered2 ds es) := fun G1 H1 g R q => h G1 H1 g _ fun vs G2 H2 g2 hv => by
  obtain ⟨v, u, rfl, h1, h2⟩ := dpa2 hv
  cases h1 with
  | @tup a xs _ hs ha =>
    cases h2 with
    | @tup b ys _ hs' hb =>
      refine ⟨a, b, xs, ys, rfl, sqT_mono g2.s hs, sqT_mono g2.s hs', q _ G2 H2 g2 fun i G3 H3 gg gs => ?_⟩
      have h3 : SqT K H3 a xs := sqT_mono gs (sqT_mono gg hs)
      have h4 : SqT K H3 b ys := sqT_mono gs (sqT_mono gg hs')
      refine ⟨fun d hd => ?_, fun hl2 => ⟨xs, ys, h3, h4, ?_⟩⟩
      · unfold numbered2 at hd
        rw [List.getElem?_map, List.getElem?_zipIdx] at hd
        cases e : (ds.zip es)[i]? with
        | none => rw [e] at hd; cases hd
        | some z =>
          rw [e] at hd
          have hd : d = .tuple [.int (i : Nat), .tuple [z.1, z.2]] := by simpa using hd.symm
          subst hd
          obtain ⟨e1, e2⟩ := List.getElem?_zip_eq_some.mp e
          obtain ⟨v, hv, hz⟩ := ha.get e1
          obtain ⟨u, hu, hz'⟩ := hb.get e2
          refine ⟨⟨xs, ys, v, u, h3, h4, hv, hu⟩, fun x H' y => ?_⟩
          obtain ⟨P, T, v', u', rfl, hP, hT, hPT, rfl, y1, y2⟩ := y
          have f1 := y1 xs h3
          have f2 := y2 ys h4
          rw [hv] at f1
          rw [hu] at f2
          cases f1; cases f2
          have g1 := Gr.new (o := .tup [v, u]) gs hP
          have hT' : upd H3 P (.tup [v, u]) T = none := by rw [upd_ne (Ne.symm hPT)]; exact hT
          have g2' := Gr.new (o := .tup [.int (i : Nat), .ref P]) g1.s hT'
          refine ⟨_, g1.trans g2', .tup (.of upd_same) (.cons (.int _) (.cons (.tup (.of ?_) (.cons (dp_mono (gg.trans (g1.trans g2').g) _ _ hz) (.cons (dp_mono (gg.trans (g1.trans g2').g) _ _ hz') .nil))) .nil))⟩
          rw [upd_ne hPT]
          exact upd_same
      · rw [ha.len, ← hl2]
        unfold numbered2
        simp [hl]
end
end Bw
/-! Loops that run out; the walk through a tree: sizes. -/
namespace Bo
/-- f as long as c holds, m turns; ok at each turn's begin -/
inductive Runs {S : Type} (c : S → Bool) (ok : S → Prop) (f : S → S) : Nat → S → S → Prop
  | stop {s : S} (h : c s = false) : Runs c ok f 0 s s
  | go {m : Nat} {s s' : S} (h : c s = true) (k : ok s) (r : Runs c ok f m (f s) s') : Runs c ok f (m + 1) s s'
section
variable {S : Type} {c : S → Bool} {ok : S → Prop} {f : S → S}
theorem Runs.eq {m : Nat} {s s' : S} (r : Runs c ok f m s s') : ∀ {n : Nat}, m ≤ n → runW c f n s = s' := by
  induction r with
  | stop h =>
    intro n _
    cases n with
    | zero => rfl
    | succ n => unfold runW; rw [h]; rfl
  | go h k r ih =>
    intro n hn
    cases n with
    | zero => omega
    | succ n =>
      unfold runW
      rw [h, if_pos rfl]
      exact ih (by omega)
theorem Runs.ends {m : Nat} {s s' : S} (r : Runs c ok f m s s') : c s' = false := by
  induction r with
  | stop h => exact h
  | go h k r ih => exact ih
theorem Runs.inv {m : Nat} {s s' : S} (r : Runs c ok f m s s') (I : S → Prop) (hI : ∀ s, I s → c s = true → ok s → I (f s)) (h : I s) : I s' := by
  induction r with
  | stop _ => exact h
  | go h' k r ih => exact ih (hI _ h h' k)
theorem runs_of (I : S → Prop) (μ : S → Nat) (h : ∀ s, I s → c s = true → ok s ∧ I (f s) ∧ μ (f s) < μ s) : ∀ (n : Nat) (s : S), I s → μ s ≤ n → ∃ m s', m ≤ n ∧ Runs c ok f m s s' := by
  intro n
  induction n with
  | zero =>
    intro s hs hm
    cases e : c s with
    | false => exact ⟨0, s, Nat.le_refl _, .stop e⟩
    | true => have := (h s hs e).2.2; omega
  | succ n ih =>
    intro s hs hm
    cases e : c s with
    | false => exact ⟨0, s, Nat.zero_le _, .stop e⟩
    | true =>
      obtain ⟨a, b, d⟩ := h s hs e
      obtain ⟨m, s', hl, r⟩ := ih (f s) b (by omega)
      exact ⟨m + 1, s', by omega, .go e a r⟩
end
/-! the walk through a tree -/
structure DfsB (s : Dfs) (B : Nat) : Prop where
  k : s.known.length ≤ B
  w : s.waiting.length ≤ B
  p : ∀ kv ∈ s.known, kv.2.length ≤ B
theorem DfsB.le {s : Dfs} {B C : Nat} (h : DfsB s B) (hl : B ≤ C) : DfsB s C := ⟨Nat.le_trans h.k hl, Nat.le_trans h.w hl, fun kv hkv => Nat.le_trans (h.p kv hkv) hl⟩
theorem dfsTurn_B {T : Ties} {p t : Nat} {s : Dfs} {B : Nat} (h : DfsB s B) : DfsB (dfsTurn T p s t) (B + 1) := by
  unfold dfsTurn
  split
  · split
    · refine ⟨?_, ?_, fun kv hkv => ?_⟩
      · rw [List.length_append]; have := h.k; simpa using this
      · rw [List.length_append]; have := h.w; simpa using this
      · rcases List.mem_append.mp hkv with z | z
        · exact Nat.le_succ_of_le (h.p kv z)
        · rw [List.mem_singleton.mp z, List.length_append]
          cases e : valN s.known p with
          | none => simp
          | some l =>
            have := h.p _ (valN_mem e)
            simpa using this
    · exact h.le (Nat.le_succ _)
  · exact h.le (Nat.le_succ _)
theorem dfsFold_B {T : Ties} {p : Nat} (l : List Nat) : ∀ {s : Dfs} {B : Nat}, DfsB s B → DfsB (l.foldl (dfsTurn T p) s) (B + l.length) := by
  induction l with
  | nil => exact fun h => h
  | cons t r ih =>
    intro s B h
    have := ih (dfsTurn_B (T := T) (p := p) (t := t) h)
    rw [List.foldl_cons, List.length_cons]
    exact this.le (by omega)
theorem valN_app {α : Type} {k r : List (Nat × α)} {x : Nat} {a : α} (h : valN k x = some a) : valN (k ++ r) x = some a := by
  unfold valN at h ⊢
  rw [List.find?_append]
  cases e : List.find? (fun kv => decide (kv.1 = x)) k with
  | none => rw [e] at h; cases h
  | some z => rw [e] at h; exact h
theorem dfsTurn_val {T : Ties} {p t : Nat} {s : Dfs} {x : Nat} {l : List Nat} (h : valN s.known x = some l) : valN (dfsTurn T p s t).known x = some l := by
  unfold dfsTurn
  split
  · split
    · exact valN_app h
    · exact h
  · exact h
theorem dfsFold_val {T : Ties} {p : Nat} (r : List Nat) {x : Nat} {l : List Nat} : ∀ {s : Dfs}, valN s.known x = some l → valN (r.foldl (dfsTurn T p) s).known x = some l := by
  induction r with
  | nil => exact fun h => h
  | cons t r ih => exact fun h => ih (dfsTurn_val h)
/-- a turn's begin: a place waits that is known -/
def dfsOk (s : Dfs) : Prop := ∃ (ws : List Nat) (p : Nat) (l : List Nat), s.waiting = ws ++ [p] ∧ valN s.known p = some l
def DfsRuns (T : Ties) (tree : List Nat) (one other : Nat) : Prop := ∃ m s', m ≤ 64 ∧ Runs (dfsGo other) dfsOk (dfsStep T tree) m ⟨[(one, [])], [one]⟩ s'
theorem dfsStep_B {T : Ties} {tree : List Nat} {s : Dfs} {B : Nat} (h : DfsB s B) : DfsB (dfsStep T tree s) (B + tree.length) := by
  unfold dfsStep
  exact dfsFold_B tree ⟨h.k, by rw [List.length_dropLast]; have := h.w; show s.waiting.length - 1 ≤ B; omega, h.p⟩
theorem wayIn_len {T : Ties} {tree : List Nat} {one other : Nat} (h : DfsRuns T tree one other) (hl : tree.length ≤ 40) : (wayIn T tree one other).length ≤ 2561 := by
  obtain ⟨m, s', hm, r⟩ := h
  have key : ∀ {m : Nat} {s s' : Dfs}, Runs (dfsGo other) dfsOk (dfsStep T tree) m s s' → ∀ {B : Nat}, DfsB s B → DfsB s' (B + m * 40) := by
    intro m s s' r
    induction r with
    | stop _ => intro B h; exact h.le (by omega)
    | go _ _ _ ih => intro B h; exact (ih (dfsStep_B (T := T) (tree := tree) h)).le (by omega)
  have hB := key r (B := 1) ⟨by simp, by simp, fun kv hkv => by rw [List.mem_singleton.mp hkv]; simp⟩
  unfold wayIn
  rw [r.eq hm]
  cases e : valN s'.known other with
  | none => simp
  | some l =>
    have := hB.p _ (valN_mem e)
    show l.length ≤ 2561
    dsimp only at this
    omega
/-- each tie that the first tree leaves out: the walk from its one end finds the other -/
def TreeOk (n : Nat) (T : Ties) : Prop := ∀ t, t < T.length → t ∉ firstTree n T → DfsRuns T (firstTree n T) (ends T t).1 (ends T t).2
end Bo
/-! Shortest lots: the walk by breadth. -/
namespace Bo
theorem restOf_app (cols a b : List Nat) : restOf cols (a ++ b) = b.foldl (fun f t => f ^^^ cols.getD t 0) (restOf cols a) := by
  unfold restOf
  rw [List.foldl_append]
theorem restOf_snoc (cols a : List Nat) (t : Nat) : restOf cols (a ++ [t]) = restOf cols a ^^^ cols.getD t 0 := by rw [restOf_app]; rfl
def stepTurn (st : List (Nat × Nat)) (ct : Nat × Nat) : List (Nat × Nat) := if ct.1 ≠ 0 ∧ valN st ct.1 = none then st ++ [(ct.1, ct.2)] else st
theorem stepsOf_eq (cols : List Nat) : stepsOf cols = cols.zipIdx.foldl stepTurn [] := rfl
structure StepInv (cols : List Nat) (st : List (Nat × Nat)) : Prop where
  nd : (st.map (·.1)).Nodup
  ok : ∀ q ∈ st, q.1 ≠ 0 ∧ q.2 < cols.length ∧ cols.getD q.2 0 = q.1
theorem valN_isSome {α : Type} {k : List (Nat × α)} {x : Nat} : (valN k x).isSome ↔ ∃ q ∈ k, q.1 = x := by
  cases e : valN k x with
  | none =>
    have := valN_none.mp e
    constructor
    · intro h; cases h
    · rintro ⟨q, hq, z⟩
      exact absurd z (this q hq)
  | some a => exact ⟨fun _ => ⟨_, valN_mem e, rfl⟩, fun _ => rfl⟩
theorem nodup_snoc {α : Type} {k : List (Nat × α)} {x : Nat} {a : α} (h : (k.map (·.1)).Nodup) (hn : valN k x = none) : ((k ++ [(x, a)]).map (·.1)).Nodup := by
  rw [List.map_append, List.map_singleton]
  refine List.nodup_append.mpr ⟨h, by simp, fun y hy z hz e => ?_⟩
  obtain ⟨p, hp, rfl⟩ := List.mem_map.mp hy
  rw [List.mem_singleton.mp hz] at e
  exact valN_none.mp hn p hp e
theorem stepTurn_inv {cols : List Nat} {st : List (Nat × Nat)} {ct : Nat × Nat} (h : StepInv cols st) (hc : ct.2 < cols.length ∧ cols.getD ct.2 0 = ct.1) : StepInv cols (stepTurn st ct) := by
  unfold stepTurn
  by_cases c : ct.1 ≠ 0 ∧ valN st ct.1 = none
  · rw [if_pos c]
    refine ⟨nodup_snoc h.nd c.2, fun q hq => ?_⟩
    rcases List.mem_append.mp hq with z | z
    · exact h.ok q z
    · rw [List.mem_singleton.mp z]
      exact ⟨c.1, hc.1, hc.2⟩
  · rw [if_neg c]; exact h
theorem stepRun_inv {cols : List Nat} (l : List (Nat × Nat)) : ∀ {st : List (Nat × Nat)}, StepInv cols st → (∀ ct ∈ l, ct.2 < cols.length ∧ cols.getD ct.2 0 = ct.1) → StepInv cols (l.foldl stepTurn st) := by
  induction l with
  | nil => exact fun h _ => h
  | cons q r ih => exact fun h hl => ih (stepTurn_inv h (hl q (List.mem_cons_self ..))) fun x hx => hl x (List.mem_cons_of_mem _ hx)
theorem zip_get {cols : List Nat} {q : Nat × Nat} (h : q ∈ cols.zipIdx) : q.2 < cols.length ∧ cols.getD q.2 0 = q.1 := by
  have h := List.mem_zipIdx h
  obtain ⟨_, h2, h3⟩ := h
  simp at h2 h3
  refine ⟨h2, ?_⟩
  rw [List.getD_eq_getElem?_getD, List.getElem?_eq_getElem h2, h3]
  rfl
theorem stepsOf_inv (cols : List Nat) : StepInv cols (stepsOf cols) := stepRun_inv _ ⟨List.nodup_nil, fun _ h => absurd h List.not_mem_nil⟩ fun _ h => zip_get h
theorem stepTurn_keeps {st : List (Nat × Nat)} {ct : Nat × Nat} {x : Nat} (h : ∃ q ∈ st, q.1 = x) : ∃ q ∈ stepTurn st ct, q.1 = x := by
  obtain ⟨q, hq, e⟩ := h
  refine ⟨q, ?_, e⟩
  unfold stepTurn
  split
  · exact List.mem_append_left _ hq
  · exact hq
theorem stepRun_has (l : List (Nat × Nat)) : ∀ (st : List (Nat × Nat)) (x : Nat), ((∃ q ∈ st, q.1 = x) ∨ (x ≠ 0 ∧ ∃ ct ∈ l, ct.1 = x)) → ∃ q ∈ l.foldl stepTurn st, q.1 = x := by
  induction l with
  | nil =>
    intro st x h
    rcases h with h | ⟨_, ct, hct, _⟩
    · exact h
    · exact absurd hct List.not_mem_nil
  | cons p r ih =>
    intro st x h
    refine ih _ x ?_
    rcases h with h | ⟨h0, ct, hct, e⟩
    · exact .inl (stepTurn_keeps h)
    · rcases List.mem_cons.mp hct with z | z
      · subst z
        left
        unfold stepTurn
        by_cases c : ct.1 ≠ 0 ∧ valN st ct.1 = none
        · rw [if_pos c]
          exact ⟨_, List.mem_append_right _ (List.mem_singleton.mpr rfl), e⟩
        · rw [if_neg c]
          have : ¬ valN st ct.1 = none := fun z => c ⟨by rw [e]; exact h0, z⟩
          rw [← e]
          exact valN_isSome.mp (Option.isSome_iff_ne_none.mpr this)
      · exact .inr ⟨h0, ct, z, e⟩
theorem stepsOf_has {cols : List Nat} {t : Nat} (ht : t < cols.length) (h0 : cols.getD t 0 ≠ 0) : ∃ q ∈ stepsOf cols, q.1 = cols.getD t 0 := by
  refine stepRun_has _ _ _ (.inr ⟨h0, (cols.getD t 0, t), ?_, rfl⟩)
  rw [List.mem_zipIdx_iff_getElem?]
  rw [List.getD_eq_getElem?_getD, List.getElem?_eq_getElem ht]
  rfl
/-! the walk -/
structure BfsI (cols : List Nat) (M : Nat) (s : Bfs) : Prop where
  nd : (s.found.map (·.1)).Nodup
  wt : s.waiting = s.found.map (·.1)
  lt : ∀ e ∈ s.found, e.1 < 2 ^ M
  ok : ∀ e ∈ s.found, (∀ t ∈ e.2, t < cols.length) ∧ restOf cols e.2 = e.1
  zero : (0, []) ∈ s.found
  len : ∀ e ∈ s.found, e.2.length < s.found.length
  pl : s.place ≤ s.found.length
  srt : s.found.Pairwise fun a b => a.2.length ≤ b.2.length
  near : ∀ e0, s.found[s.place]? = some e0 → ∀ e ∈ s.found, e.2.length ≤ e0.2.length + 1
  cl : ∀ i e, i < s.place → s.found[i]? = some e → ∀ c ∈ stepsOf cols, ∃ e' ∈ s.found, e'.1 = e.1 ^^^ c.1 ∧ e'.2.length ≤ e.2.length + 1
/-- amid a turn, for the place's entry e0 -/
structure BfsT (cols : List Nat) (M : Nat) (e0 : Nat × List Nat) (base : List (Nat × List Nat)) (done : List (Nat × Nat)) (f : List (Nat × List Nat) × List Nat) : Prop where
  nd : (f.1.map (·.1)).Nodup
  wt : f.2 = f.1.map (·.1)
  lt : ∀ e ∈ f.1, e.1 < 2 ^ M
  ok : ∀ e ∈ f.1, (∀ t ∈ e.2, t < cols.length) ∧ restOf cols e.2 = e.1
  len : ∀ e ∈ f.1, e.2.length < f.1.length
  srt : f.1.Pairwise fun a b => a.2.length ≤ b.2.length
  near : ∀ e ∈ f.1, e.2.length ≤ e0.2.length + 1
  pre : ∃ more, f.1 = base ++ more
  cl : ∀ c ∈ done, ∃ e' ∈ f.1, e'.1 = e0.1 ^^^ c.1 ∧ e'.2.length ≤ e0.2.length + 1
theorem bfsTurn_T {cols : List Nat} {M : Nat} {e0 : Nat × List Nat} {base : List (Nat × List Nat)} {done : List (Nat × Nat)} {f : List (Nat × List Nat) × List Nat} {c : Nat × Nat} (he0 : e0 ∈ base) (hc : c.2 < cols.length ∧ cols.getD c.2 0 = c.1) (hM : c.1 < 2 ^ M) (h : BfsT cols M e0 base done f) :
    BfsT cols M e0 base (done ++ [c]) (bfsTurn e0.1 e0.2 f c) := by
  obtain ⟨more, hmore⟩ := h.pre
  have hin : e0 ∈ f.1 := by rw [hmore]; exact List.mem_append_left _ he0
  unfold bfsTurn
  by_cases hn : valN f.1 (e0.1 ^^^ c.1) = none
  · rw [if_pos hn]
    refine ⟨nodup_snoc h.nd hn, ?_, ?_, ?_, ?_, ?_, ?_, ⟨more ++ [_], by show f.1 ++ _ = _; rw [hmore, List.append_assoc]⟩, ?_⟩
    · show f.2 ++ _ = _
      rw [h.wt, List.map_append]; rfl
    · intro e he
      rcases List.mem_append.mp he with z | z
      · exact h.lt e z
      · rw [List.mem_singleton.mp z]
        exact Nat.xor_lt_two_pow (h.lt _ hin) hM
    · intro e he
      rcases List.mem_append.mp he with z | z
      · exact h.ok e z
      · rw [List.mem_singleton.mp z]
        obtain ⟨o1, o2⟩ := h.ok _ hin
        refine ⟨fun t ht => ?_, ?_⟩
        · rcases List.mem_append.mp ht with y | y
          · exact o1 t y
          · rw [List.mem_singleton.mp y]; exact hc.1
        · show restOf cols (e0.2 ++ [c.2]) = e0.1 ^^^ c.1
          rw [restOf_snoc, o2, hc.2]
    · intro e he
      show e.2.length < (f.1 ++ [_]).length
      rw [List.length_append, List.length_singleton]
      rcases List.mem_append.mp he with z | z
      · have := h.len e z; omega
      · rw [List.mem_singleton.mp z]
        have := h.len _ hin
        show (e0.2 ++ [c.2]).length < _
        rw [List.length_append, List.length_singleton]; omega
    · refine List.pairwise_append.mpr ⟨h.srt, by simp, fun a ha b hb => ?_⟩
      rw [List.mem_singleton.mp hb]
      have := h.near a ha
      show a.2.length ≤ (e0.2 ++ [c.2]).length
      rw [List.length_append, List.length_singleton]; exact this
    · intro e he
      rcases List.mem_append.mp he with z | z
      · exact h.near e z
      · rw [List.mem_singleton.mp z]
        show (e0.2 ++ [c.2]).length ≤ _
        rw [List.length_append, List.length_singleton]; exact Nat.le_refl _
    · intro d hd
      rcases List.mem_append.mp hd with z | z
      · obtain ⟨e', h1, h2⟩ := h.cl d z
        exact ⟨e', List.mem_append_left _ h1, h2⟩
      · rw [List.mem_singleton.mp z]
        exact ⟨_, List.mem_append_right _ (List.mem_singleton.mpr rfl), rfl, by show (e0.2 ++ [c.2]).length ≤ _; rw [List.length_append, List.length_singleton]; exact Nat.le_refl _⟩
  · rw [if_neg hn]
    refine ⟨h.nd, h.wt, h.lt, h.ok, h.len, h.srt, h.near, h.pre, fun d hd => ?_⟩
    rcases List.mem_append.mp hd with z | z
    · exact h.cl d z
    · rw [List.mem_singleton.mp z]
      obtain ⟨e', h1, h2⟩ := valN_isSome.mp (Option.isSome_iff_ne_none.mpr hn)
      exact ⟨e', h1, h2, h.near e' h1⟩
theorem bfsFold_T {cols : List Nat} {M : Nat} {e0 : Nat × List Nat} {base : List (Nat × List Nat)} (he0 : e0 ∈ base) (l : List (Nat × Nat)) : ∀ {done : List (Nat × Nat)} {f : List (Nat × List Nat) × List Nat}, (∀ c ∈ l, (c.2 < cols.length ∧ cols.getD c.2 0 = c.1) ∧ c.1 < 2 ^ M) → BfsT cols M e0 base done f →
    BfsT cols M e0 base (done ++ l) (l.foldl (bfsTurn e0.1 e0.2) f) := by
  induction l with
  | nil => intro done f _ h; rw [List.append_nil]; exact h
  | cons c r ih =>
    intro done f hl h
    have h1 := bfsTurn_T he0 (hl c (List.mem_cons_self ..)).1 (hl c (List.mem_cons_self ..)).2 h
    have h2 := ih (fun x hx => hl x (List.mem_cons_of_mem _ hx)) h1
    rw [List.append_assoc] at h2
    exact h2
theorem steps_ok {cols : List Nat} {M : Nat} (hM : ∀ c ∈ cols, c < 2 ^ M) : ∀ c ∈ stepsOf cols, (c.2 < cols.length ∧ cols.getD c.2 0 = c.1) ∧ c.1 < 2 ^ M := fun c hc => by
  have h := (stepsOf_inv cols).ok c hc
  refine ⟨h.2, ?_⟩
  rw [← h.2.2, List.getD_eq_getElem?_getD, List.getElem?_eq_getElem h.2.1]
  exact hM _ (List.getElem_mem _)
/-- the turn's entry -/
theorem bfs_at {cols : List Nat} {M : Nat} {s : Bfs} (h : BfsI cols M s) (hg : s.place < s.waiting.length) : ∃ e0, s.found[s.place]? = some e0 ∧ s.waiting.getD s.place 0 = e0.1 ∧ valN s.found e0.1 = some e0.2 := by
  have hl : s.place < s.found.length := by rw [h.wt, List.length_map] at hg; exact hg
  refine ⟨s.found[s.place], List.getElem?_eq_getElem hl, ?_, valN_of h.nd (List.getElem_mem hl)⟩
  rw [h.wt, List.getD_eq_getElem?_getD, List.getElem?_map, List.getElem?_eq_getElem hl]; rfl
theorem bfs_start {cols : List Nat} {M : Nat} {s : Bfs} {e0 : Nat × List Nat} (h : BfsI cols M s) (he : s.found[s.place]? = some e0) : BfsT cols M e0 s.found [] (s.found, s.waiting) :=
  ⟨h.nd, h.wt, h.lt, h.ok, h.len, h.srt, fun e hm => h.near e0 he e hm, ⟨[], by simp⟩, fun _ h => absurd h List.not_mem_nil⟩
theorem bfs_step {cols : List Nat} {M : Nat} (hM : ∀ c ∈ cols, c < 2 ^ M) {s : Bfs} (h : BfsI cols M s) (hg : bfsGo s = true) : BfsI cols M (bfsStep (stepsOf cols) s) := by
  have hg' : s.place < s.waiting.length := of_decide_eq_true hg
  obtain ⟨e0, h1, h2, h3⟩ := bfs_at h hg'
  have T := bfsFold_T (List.mem_of_getElem? h1) (stepsOf cols) (steps_ok hM) (bfs_start h h1)
  rw [List.nil_append] at T
  unfold bfsStep
  dsimp only
  rw [h2, h3]
  show BfsI cols M ⟨((stepsOf cols).foldl (bfsTurn e0.1 e0.2) (s.found, s.waiting)).1, ((stepsOf cols).foldl (bfsTurn e0.1 e0.2) (s.found, s.waiting)).2, s.place + 1⟩
  generalize (stepsOf cols).foldl (bfsTurn e0.1 e0.2) (s.found, s.waiting) = f at T
  obtain ⟨more, hmore⟩ := T.pre
  have hp : s.place < s.found.length := (List.getElem?_eq_some_iff.mp h1).1
  have old : ∀ {i : Nat}, i < s.found.length → f.1[i]? = s.found[i]? := fun {i} hi => by rw [hmore, List.getElem?_append_left hi]
  refine ⟨T.nd, T.wt, T.lt, T.ok, ?_, T.len, ?_, T.srt, ?_, ?_⟩
  · rw [show Bfs.found ⟨f.1, f.2, s.place + 1⟩ = f.1 from rfl, hmore]
    exact List.mem_append_left _ h.zero
  · show s.place + 1 ≤ f.1.length
    rw [hmore, List.length_append]; omega
  · intro e1 he1 e he
    have he1 : f.1[s.place + 1]? = some e1 := he1
    obtain ⟨hi1, hx1⟩ := List.getElem?_eq_some_iff.mp he1
    have hp' : s.place < f.1.length := by omega
    have hx0 : f.1[s.place] = e0 := by
      have := old hp
      rw [h1, List.getElem?_eq_getElem hp'] at this
      exact Option.some.inj this
    have hle := List.pairwise_iff_getElem.mp T.srt s.place (s.place + 1) hp' hi1 (Nat.lt_succ_self _)
    rw [hx0, hx1] at hle
    exact Nat.le_trans (T.near e he) (Nat.succ_le_succ hle)
  · intro i e hi he c hc
    have he : f.1[i]? = some e := he
    have hi : i < s.place + 1 := hi
    rcases Nat.lt_succ_iff_lt_or_eq.mp hi with z | z
    · rw [old (by omega)] at he
      obtain ⟨e', a, b⟩ := h.cl i e z he c hc
      exact ⟨e', by show e' ∈ f.1; rw [hmore]; exact List.mem_append_left _ a, b⟩
    · subst z
      rw [old hp, h1] at he
      cases he
      exact T.cl c hc
theorem bfs_init (cols : List Nat) (M : Nat) : BfsI cols M ⟨[(0, [])], [0], 0⟩ := by
  refine ⟨by simp, rfl, fun e he => ?_, fun e he => ?_, List.mem_singleton.mpr rfl, fun e he => ?_, Nat.zero_le _, by simp, fun e0 h0 e he => ?_, fun i e hi => absurd hi (Nat.not_lt_zero _)⟩
  · rw [List.mem_singleton.mp he]; exact Nat.two_pow_pos _
  · rw [List.mem_singleton.mp he]; exact ⟨fun _ h => absurd h List.not_mem_nil, rfl⟩
  · rw [List.mem_singleton.mp he]; exact Nat.zero_lt_one
  · rw [List.mem_singleton.mp he]; exact Nat.zero_le _
theorem nodup_lt : ∀ {m : Nat} {l : List Nat}, l.Nodup → (∀ x ∈ l, x < m) → l.length ≤ m := by
  intro m
  induction m with
  | zero =>
    intro l _ h
    cases l with
    | nil => exact Nat.le_refl _
    | cons a r => exact absurd (h a (List.mem_cons_self ..)) (Nat.not_lt_zero _)
  | succ m ih =>
    intro l h1 h2
    have h3 := ih (l := l.erase m) (h1.erase _) fun x hx => by
      rw [h1.mem_erase_iff] at hx
      have := h2 x hx.2
      omega
    rw [List.length_erase] at h3
    split at h3 <;> omega
theorem bfs_len {cols : List Nat} {M : Nat} {s : Bfs} (h : BfsI cols M s) : s.found.length ≤ 2 ^ M := by
  have := nodup_lt h.nd fun x hx => by
    obtain ⟨e, he, rfl⟩ := List.mem_map.mp hx
    exact h.lt e he
  rwa [List.length_map] at this
/-- the walk ends -/
theorem bfs_runs {cols : List Nat} {M : Nat} (hM : ∀ c ∈ cols, c < 2 ^ M) : ∃ m s', m ≤ 2 ^ M ∧ Runs bfsGo (BfsI cols M) (bfsStep (stepsOf cols)) m ⟨[(0, [])], [0], 0⟩ s' := by
  refine runs_of (BfsI cols M) (fun s => 2 ^ M - s.place) (fun s h hg => ⟨h, bfs_step hM h hg, ?_⟩) (2 ^ M) _ (bfs_init cols M) (Nat.sub_le _ _)
  have hl := bfs_len h
  have hg' : s.place < s.waiting.length := of_decide_eq_true hg
  rw [h.wt, List.length_map] at hg'
  show 2 ^ M - (s.place + 1) < 2 ^ M - s.place
  omega
theorem bfs_end {cols : List Nat} {M : Nat} (hM : ∀ c ∈ cols, c < 2 ^ M) (hM' : M ≤ 12) : ∃ s', shortest cols = s'.found ∧ BfsI cols M s' ∧ s'.place = s'.found.length := by
  obtain ⟨m, s', hm, r⟩ := bfs_runs hM
  have hI := r.inv (BfsI cols M) (fun s h hg _ => bfs_step hM h hg) (bfs_init cols M)
  refine ⟨s', ?_, hI, ?_⟩
  · unfold shortest
    rw [r.eq (Nat.le_trans hm (Nat.pow_le_pow_right (by decide) hM'))]
  · have h1 : ¬ s'.place < s'.waiting.length := of_decide_eq_false r.ends
    rw [hI.wt, List.length_map] at h1
    have := hI.pl
    omega
/-- what the walk finds: for each sum of columns a shortest lot -/
theorem shortest_spec {cols : List Nat} {M : Nat} (hM : ∀ c ∈ cols, c < 2 ^ M) (hM' : M ≤ 12) {L : List Nat} (hL : ∀ t ∈ L, t < cols.length) :
    ∃ lot, valN (shortest cols) (restOf cols L) = some lot ∧ (∀ t ∈ lot, t < cols.length) ∧ restOf cols lot = restOf cols L ∧ ∀ L', (∀ t ∈ L', t < cols.length) → restOf cols L' = restOf cols L → lot.length ≤ L'.length := by
  obtain ⟨s, e1, I, e2⟩ := bfs_end hM hM'
  rw [e1]
  have key : ∀ L : List Nat, (∀ t ∈ L, t < cols.length) → ∃ e ∈ s.found, e.1 = restOf cols L ∧ e.2.length ≤ L.length := by
    intro L
    induction h : L.length generalizing L with
    | zero =>
      intro _
      rw [List.length_eq_zero_iff.mp h]
      exact ⟨_, I.zero, rfl, Nat.le_refl _⟩
    | succ k ih =>
      intro hL
      have hne : L ≠ [] := fun z => by rw [z] at h; cases h
      have hs := List.dropLast_concat_getLast hne
      have h1 : L.dropLast.length = k := by rw [List.length_dropLast, h]; rfl
      obtain ⟨e, he, hr, hl⟩ := ih L.dropLast h1 fun t ht => hL t ((List.dropLast_sublist L).subset ht)
      have ht := hL _ (List.getLast_mem hne)
      have hre : restOf cols L = restOf cols L.dropLast ^^^ cols.getD (L.getLast hne) 0 := by
        rw [← restOf_snoc, hs]
      by_cases h0 : cols.getD (L.getLast hne) 0 = 0
      · refine ⟨e, he, by rw [hre, h0, Nat.xor_zero]; exact hr, by omega⟩
      · obtain ⟨c, hc, ec⟩ := stepsOf_has ht h0
        obtain ⟨i, hi, ei⟩ := List.getElem_of_mem he
        obtain ⟨e', a, b, d⟩ := I.cl i e (by omega) (by rw [← ei]; exact List.getElem?_eq_getElem hi) c hc
        exact ⟨e', a, by rw [b, hre, hr, ec], by omega⟩
  obtain ⟨e, he, hr, _⟩ := key L hL
  have hv : valN s.found (restOf cols L) = some e.2 := valN_of I.nd (by rw [← hr]; exact he)
  refine ⟨e.2, hv, (I.ok e he).1, by rw [(I.ok e he).2, hr], fun L' hL' hr' => ?_⟩
  obtain ⟨e', he', hr2, hl⟩ := key L' hL'
  have hv' : valN s.found (restOf cols L) = some e'.2 := valN_of I.nd (by rw [← hr', ← hr2]; exact he')
  rw [hv] at hv'
  rw [Option.some.inj hv']
  exact hl
end Bo
/-! The law's own defs as plain functions. -/
namespace Bo
def cnt16 : List Nat := [0, 1, 1, 2, 1, 2, 2, 3, 1, 2, 2, 3, 2, 3, 3, 4]
def lBits (m : Nat) : Nat := cnt16.getD (m &&& 15) 0 + cnt16.getD (m / 2 ^ 4) 0
def lMask (lot : List Nat) : Nat := (lot.map (2 ^ ·)).sum
def lLot (mask many : Nat) : List Nat := (List.range many).filter fun t => decide (mask / 2 ^ t &&& 1 = 1)
def lStars (n : Nat) (T : Ties) : List Nat := (List.range n).map fun p => lMask (tiesAt T p)
def lOdd (a b : Nat) : Bool := decide (lBits (a &&& b) % 2 = 1)
def lEvens (n : Nat) (T : Ties) : List Nat := (List.range (2 ^ T.length)).filter fun m => ((lStars n T).filter fun s => lOdd m s).isEmpty
def lRounds (ev : List Nat) : List Nat := ev.filter fun m => decide (m ≠ 0) && (ev.filter fun o => decide (o ∉ [0, m]) && decide (o &&& m = o)).isEmpty
def lSides (n some : Nat) : List Nat := 0 :: (List.range (n - 1)).map fun p => some / 2 ^ p &&& 1
def lCut (n : Nat) (T : Ties) (some : Nat) : Nat := lMask ((T.zipIdx.filter fun q => decide ((lSides n some).getD q.1.1 0 ≠ (lSides n some).getD q.1.2 0)).map (·.2))
def lCuts (n : Nat) (T : Ties) : List Nat := (List.range (2 ^ (n - 1))).map (lCut n T)
def lBoth (n : Nat) (T : Ties) : List Nat := (lEvens n T).filter fun m => ((lRounds (lEvens n T)).filter fun r => lOdd m r).isEmpty
/-- d[x] = a -/
def putD {α : Type} (k : List (Nat × α)) (x : Nat) (a : α) : List (Nat × α) := if (valN k x).isSome then k.map (fun p => if p.1 = x then (p.1, a) else p) else k ++ [(x, a)]
def lSpanK (n : Nat) (T : Ties) : List (Nat × Bool) := (lCuts n T).foldl (fun k c => (lEvens n T).foldl (fun k e => putD k (c ^^^ e) true) k) []
def lSpan (n : Nat) (T : Ties) : List Nat := sortN ((lSpanK n T).map (·.1))
theorem putD_len {α : Type} (k : List (Nat × α)) (x : Nat) (a : α) : (putD k x a).length ≤ k.length + 1 := by
  unfold putD
  split
  · rw [List.length_map]; exact Nat.le_succ _
  · simp
theorem putDs_len {α β : Type} (f : β → Nat) (g : β → α) (l : List β) : ∀ k : List (Nat × α), (l.foldl (fun k e => putD k (f e) (g e)) k).length ≤ k.length + l.length := by
  induction l with
  | nil => exact fun _ => Nat.le_refl _
  | cons b r ih =>
    intro k
    have h1 := ih (putD k (f b) (g b))
    have h2 := putD_len k (f b) (g b)
    rw [List.foldl_cons, List.length_cons]
    omega
end Bo
set_option Elab.async false
set_option linter.all false
set_option maxRecDepth 100000
set_option maxHeartbeats 4000000
/-! Comprehensions within comprehensions; lists joined and repeated; [..] == []. -/
namespace Bw
open PySem PySem.Spec PyProof.Rows L2 Bo
def relS (o sc : Scope) : Scope := { sc with names := sc.names.map fun (n, k) => if (k == .free && o.kind == .function && o.names.lookup n == some .cell) then (n, .cell) else (n, k) }
theorem blkIn {N : List Str} {so osc scope : Scope} {own : List (Str × Nat)} {env : Env} {cl : List (Str × Addr)} {C : Addr} (h : blkC N (relS so osc) scope own = true) (he : env.scope = so := by rfl) : BlkOk N (compEnvC osc cl C env).scope scope own := by
  subst he
  exact blkOk_by h
section
variable {K : PySem.W.Frag} {σ : L2.St} {G H : Hp} {te ta tb : TE} {tt : TT} {ds es : List PyData}
theorem el_lst {t : TA} (h : EA K t σ G H ds) (hl : ds.length ≤ 100000) : EL K (tLst t) σ G H ds := fun G0 H0 g0 _ q =>
  h G0 H0 g0 _ fun xs G1 H1 g1 hx => ⟨line_of (by rw [DpAll.len hx]; exact hl), fun p hp => q _ _ (upd G1 p (.lst xs)) _ (g1.trans (Gr.new g1.s hp)) upd_same (dpa_mono (same_new (g1.s.free hp)) _ _ hx)⟩
theorem el_cat (h1 : EL K ta σ G H ds) (h2 : EL K tb σ G H es) (hl : ds.length + es.length ≤ 100000) : EL K (tOp rCat ta tb) σ G H (ds ++ es) := fun G0 H0 g0 _ q =>
  h1 G0 H0 g0 _ fun a xs G1 H1 g1 e1 d1 => h2 G1 H1 (g0.trans g1) _ fun b ys G2 H2 g2 e2 d2 => by
    refine ⟨a, b, xs, ys, rfl, rfl, g2.s _ _ (g2.g _ _ e1), g2.s _ _ e2, line_of (by rw [d1.len, d2.len]; exact hl), fun p hp => ?_⟩
    exact q p _ _ _ ((g1.trans g2).trans (Gr.new g2.s hp)) upd_same (dpa_mono (same_new (g2.s.free hp)) _ _ ((dpa_mono g2.g _ _ d1).app d2))
theorem dpa_rep {G : Hp} {xs : List V} (h : DpAll K G xs ds) (k : Nat) : DpAll K G (List.replicate k xs).flatten (List.replicate k ds).flatten := by
  induction k with
  | zero => exact .nil
  | succ k ih => rw [List.replicate_succ, List.replicate_succ, List.flatten_cons, List.flatten_cons]; exact h.app ih
theorem el_rep {k : Nat} (h1 : EL K ta σ G H ds) (h2 : ED K tb σ G H (natD k)) (hk : k ≤ 1000) (hl : ds.length ≤ 100) : EL K (tOp rRep ta tb) σ G H (List.replicate k ds).flatten := fun G0 H0 g0 _ q =>
  h1 G0 H0 g0 _ fun a xs G1 H1 g1 e1 d1 => h2 G1 H1 (g0.trans g1) _ fun y G2 H2 g2 e2 => by
    cases e2
    refine ⟨a, _, xs, rfl, rfl, g2.s _ _ (g2.g _ _ e1), by omega, by omega, ?_, fun p hp => ?_⟩
    · rw [Int.toNat_natCast, d1.len]
      exact line_of (Nat.le_trans (Nat.mul_le_mul hl hk) (by decide))
    · rw [Int.toNat_natCast]
      exact q p _ _ _ ((g1.trans g2).trans (Gr.new g2.s hp)) upd_same (dpa_mono (same_new (g2.s.free hp)) _ _ (dpa_rep (dpa_mono g2.g _ _ d1) k))
theorem el_var {i : Nat} {a : Addr} {xs : List V} (hv : σ[i]? = some (some (.ref a))) (e : G a = some (.lst xs)) (d : DpAll K G xs ds) : EL K (tVar i) σ G H ds := fun G1 H1 g _ q =>
  ⟨_, hv, q a xs G1 H1 (Gr.refl g.s) (g.g _ _ e) (dpa_mono g.g _ _ d)⟩
theorem el_if {b : Bool} (h : ET tt σ G H b) (h1 : b = true → EL K ta σ G H ds) (h2 : b = false → EL K tb σ G H ds) : EL K (tIf tt ta tb) σ G H ds := fun G0 H0 g0 Q q => h G0 H0 g0 _ fun G1 H1 g => by
  cases b with
  | true =>
    rw [if_pos rfl]
    exact h1 rfl G1 H1 (g0.trans g) Q fun a xs G2 H2 g2 e d => q a xs G2 H2 (g.trans g2) e d
  | false =>
    rw [if_neg Bool.false_ne_true]
    exact h2 rfl G1 H1 (g0.trans g) Q fun a xs G2 H2 g2 e d => q a xs G2 H2 (g.trans g2) e d
theorem q_setL {D : Ends} {rest : TS} {i : Nat} (s : Same G H) (h : EL K te σ G H ds) (n : ∀ a xs G' H', Gr G H G' H' → G' a = some (.lst xs) → DpAll K G' xs ds → rest D (σ.set i (some (.ref a))) H') : tSeq (tAsg te (gName i)) rest D σ H := h G H (Gr.refl s) _ n
theorem ones_ok (n : Nat) : PyData.canLayAll0 (List.replicate n (.int 1)) = true := by
  induction n with
  | zero => rfl
  | succ n ih => rw [List.replicate_succ]; simp [PyData.canLayAll0, PyData.canLay0, ih]
theorem ones_depth (n : Nat) : (PyData.list (List.replicate n (.int 1))).depth ≤ 64 := by
  have : ∀ n, PyData.depthAll (List.replicate n (.int 1)) ≤ 0 := by
    intro n
    induction n with
    | zero => simp [PyData.depthAll]
    | succ n ih => rw [List.replicate_succ]; simp [PyData.depthAll, PyData.depth] at ih ⊢; omega
  have := this n
  simp [PyData.depth]
  omega
theorem ones_shaped (n : Nat) : SeqAt.shaped (.list (List.replicate n (.int 1))) = true := by
  unfold SeqAt.shaped
  rw [Bool.and_eq_true]
  exact ⟨by simp [PyData.canLay0, ones_ok], decide_eq_true (ones_depth n)⟩
/-- [1 for x in xs if f(x)] == [] -/
theorem ed_noOnes {α : Type} {xs : List α} {f : α → Bool} (h : ED K te σ G H (.list ((xs.filter f).map fun _ => .int 1))) : ED K (tOp (rEqD K) te (tLst tNil)) σ G H (.bool (xs.filter f).isEmpty) := by
  have e : ((xs.filter f).map fun _ => PyData.int 1) = List.replicate (xs.filter f).length (.int 1) := List.map_const' ..
  rw [e] at h
  refine ed_is (ed_op h (ed_lst ea_nil (by simp)) (rd_eqD (ones_shaped _) (ones_shaped 0))) ?_
  cases xs.filter f with
  | nil => rfl
  | cons a r => rfl
end
/-- a walk over a list or a tuple -/
def iSeq (K : PySem.W.Frag) (tl : TE) : TI := fun σ H R => tl σ H fun x H1 => ∃ a, x = .ref a ∧ (((∃ xs, SqL K H1 a xs) ∧ R (Itl K a) H1) ∨ ((∃ xs, SqT K H1 a xs) ∧ R (Itt K a) H1))
theorem pi_seq {X : Cx} {tg l : Expr} {tl : TE} (hl : PE X l tl) : PI X tg l (iSeq X.K tl) := by
  refine ⟨fun pins s σ H R I h => ?_⟩
  refine thn (hl.run pins s σ H _ I h) fun v s1 ⟨x, H1, I1, r1, q1⟩ => ?_
  obtain ⟨a, e, q1⟩ := q1
  subst e
  cases r1
  have fr : ∀ b ∈ [s1.heap.objs.size], FpOk X pins H1 b := fun b hb => by
    have e : b = s1.heap.objs.size := by simpa using hb
    subst e
    exact I1.fpOk (Nat.le_refl _) (I1.hok.fresh (Nat.le_refl _))
  rcases q1 with ⟨⟨xs, hq⟩, q⟩ | ⟨⟨xs, hq⟩, q⟩
  · obtain ⟨its, rv, p, hz⟩ := I1.list hq
    refine wpAny_pyIter_list p.isList ?_
    exact ⟨s1.heap.objs.size, [s1.heap.objs.size], _, _, H1, rfl, I1.kept (t' := s1.toks) fun b o e => Heap.get?_push_of_some _ e, turn_list a _, ⟨_, Heap.get?_push_size _ rfl, rfl, rfl⟩, fr, q⟩
  · obtain ⟨its, rv, p, hz⟩ := I1.tuple hq
    refine wpAny_pyIter_tuple (show s1.heap.IsTuple a its.toArray from p) ?_
    exact ⟨s1.heap.objs.size, [s1.heap.objs.size], _, _, H1, rfl, I1.kept (t' := s1.toks) fun b o e => Heap.get?_push_of_some _ e, turn_tuple a _, ⟨_, Heap.get?_push_size _ rfl, rfl, rfl⟩, fr, q⟩
section
variable {K : PySem.W.Frag} {σ : L2.St} {G H : Hp} {tl : TE} {ds : List PyData}
theorem es_seqL (h : ED K tl σ G H (.list ds)) : ES K (iSeq K tl) σ G H ds := fun G1 H1 g R q => h G1 H1 g _ fun v G2 H2 g2 hv => by
  cases hv with
  | @lst a xs _ hs ha => exact ⟨a, rfl, .inl ⟨⟨xs, g2.s.seq hs⟩, q _ G2 H2 g2 (yl_list hs ha)⟩⟩
theorem es_seqT (h : ED K tl σ G H (.tuple ds)) : ES K (iSeq K tl) σ G H ds := fun G1 H1 g R q => h G1 H1 g _ fun v G2 H2 g2 hv => by
  cases hv with
  | @tup a xs _ hs ha => exact ⟨a, rfl, .inr ⟨⟨xs, sqT_mono g2.s hs⟩, q _ G2 H2 g2 (yl_tup hs ha)⟩⟩
/-- range(n) -/
theorem es_rngN {ta : TE} {n : Nat} (h : ED K ta σ G H (natD n)) (hn : n ≤ 1000000) : ES K (iRng1 (tCons ta tNil)) σ G H ((List.range n).map natD) := by
  rw [← intsD_zero]
  have h : ES K (iRng1 (tCons ta tNil)) σ G H (intsD 0 ((n : Nat) : Int).toNat) := es_rng1 (ea_cons h ea_nil) (by omega) (by omega)
  rw [Int.toNat_natCast] at h
  exact h
theorem es_is {wi : TI} {es : List PyData} (h : ES K wi σ G H ds) (e : ds = es) : ES K wi σ G H es := e ▸ h
end

section
variable {K : PySem.W.Frag} {D : Ends} {σ : L2.St} {G H Gi Hi : Hp} {te : TE} {rest : TS} {d : PyData} {i j : Nat}
/-- a, b = e, {} -/
theorem q_parK (gr : Gr Gi Hi G H) (h : ED K te σ G H d) (n : ∀ v p G' H', Dp K G' v d → Hi p = none → Same G G' → Gr Gi Hi G' H' → Mu G' H' p (.dK []) → rest D ((σ.set i (some v)).set j (some (.ref p))) H') :
    tSeq (tPar i j (tCons te (tCons tDNewK tNil))) rest D σ H :=
  h.now gr.s fun v G1 H1 g1 hv => fun p hp => ⟨_, _, rfl, by
    have g2 := Gr.lay (o := .dK []) g1.s hp
    exact n v p G1 _ hv ((gr.trans g1).fresh hp) g1.g ((gr.trans g1).trans g2) (Mu.lay g1.s hp)⟩
end
end Bw
set_option Elab.async false
set_option linter.all false
set_option maxRecDepth 100000
set_option maxHeartbeats 4000000
namespace Bw
open PySem PySem.Spec PyProof.Rows L2 Bo
section
variable {P : Program} {w : World} {K : PySem.W.Frag} {mg : Str → Option Value} {base : Heap}
-- slots of ties_at: 0 web, 1 place*, 2 number, 3 pair
abbrev s_ties_at : Stmt := top 6
abbrev N_ties_at : List Str := ["web", "place", "number", "pair"]
theorem sc_ties_at : FnScope N_ties_at ["web", "place"] (defScope s_ties_at) := ⟨rfl, rfl, rfl, by decide +kernel, rfl, by decide +kernel, by decide +kernel⟩
abbrev sp_ties_at (K : PySem.W.Frag) : Sp := spD (α := Nat × Ties × Nat) K (fun a => a.2.1.length ≤ 1000) (fun a => [webD a.1 a.2.1, natD a.2.2]) (fun a => natsT (tiesAt a.2.1 a.2.2))
theorem c_ties_at {f : Addr} {fd : FuncData} (T : Txt mg) (F : Fd K mg "ties_at" s_ties_at f fd)  : Cal P w K mg base CX0 "ties_at" 1 ["web", "place"] (sp_ties_at K) := by
  refine okD F sc_ties_at (F.fn.binds fun _ _ _ _ _ _ us hl => match us, hl with | [_, _], _ => rfl) (fun _ => rfl) fun cdv A outer s H G vs a Q E hr hp hs hv q => ?_
  have nd := sc_ties_at.nd
  have hu := hr.units
  have hu1 := hu_of hr
  refine ⟨_, (pss_one (ps_ret (pe_callTy call_tuple_of rfl T.tuple_ (by decide +kernel) (pa_cons (pe_lc (own := [("number", 2), ("pair", 3)]) (g := gTup K 2 (gCons (gName 2) (gCons (gName 3) gNil))) (tt := tTest (tOp (rIn K false) (tVar 1) (tVar 3))) (te := tVar 2) rfl nd (pi_enumT rfl T.enumerate (pa_cons (pe_ix ix_tup (pv 0) pe_int (fun _ _ => rfl)) pa_nil)) (blkOk_by (N := N_ties_at) (sc := defScope s_ties_at) (by decide +kernel)) (fun _ _ _ _ _ => (pg_tup rfl (pgs_cons (pg_name (i := 2) nd rfl (Or.inl rfl)) (pgs_cons (pg_name (i := 3) nd rfl (Or.inl rfl)) pgs_nil)))) (fun _ _ _ _ _ => (pts_one (pt_cmpR op_in_seq (pv 1) (pv 3) (by rfl)))) (fun _ _ _ _ _ => (pv 2))) pa_nil)))), ?_⟩
  obtain ⟨n, W, p⟩ := a
  dsimp only at hv q hp
  obtain ⟨v0, v1, rfl, h0, h1⟩ := dpa2 hv
  cases h1
  refine s_ret (K := K) hs (ed_is (ed_cb (ea_cons (ed_lc W.zipIdx (fun q => .tuple [natD q.2, tieD q.1]) (fun q => decide (p = q.1.1 ∨ p = q.1.2)) (fun q => natD q.2) ?_ ?_ ?_) ea_nil) ra_tupL) ?_) q
  · rw [← numbered_map]
    exact es_enumT (ea_cons (ed_op (ed_var rfl h0) ed_int (rd_ixT (j := 1) rfl rfl)) ea_nil)
  · rw [List.length_zipIdx]; have : W.length ≤ 1000 := hp; omega
  · rintro ⟨⟨a, b⟩, k⟩ _ x G' H' g hx
    obtain ⟨u1, u2, d1, d2, gk⟩ := g_pair hx
    refine ⟨_, fun Q q => gk _ _ _ _ _ g.s q, rfl, et_test (K := K) (ed_is (ed_op (ed_var rfl (.int _)) (ed_var rfl d2) (rd_inTN (ns := [a, b]))) ?_), fun _ => ed_var rfl d1⟩
    simp
  · show PyData.tuple _ = PyData.tuple _
    unfold tiesAt
    rw [List.map_map]
    rfl
-- slots of tie_bit: 0 web, 1 tie
abbrev s_tie_bit : Stmt := top 8
abbrev N_tie_bit : List Str := ["web", "tie"]
theorem sc_tie_bit : FnScope N_tie_bit ["web", "tie"] (defScope s_tie_bit) := ⟨rfl, rfl, rfl, by decide +kernel, rfl, by decide +kernel, by decide +kernel⟩
abbrev sp_tie_bit (K : PySem.W.Frag) : Sp := spD (α := Nat × Ties × Nat) K (fun a => a.2.2 < a.2.1.length ∧ a.2.1.length ≤ 1000) (fun a => [webD a.1 a.2.1, natD a.2.2]) (fun a => natD (tieBit a.2.1.length a.2.2))
theorem c_tie_bit {f : Addr} {fd : FuncData} (T : Txt mg) (F : Fd K mg "tie_bit" s_tie_bit f fd)  : Cal P w K mg base CX0 "tie_bit" 1 ["web", "tie"] (sp_tie_bit K) := by
  refine okD F sc_tie_bit (F.fn.binds fun _ _ _ _ _ _ us hl => match us, hl with | [_, _], _ => rfl) (fun _ => rfl) fun cdv A outer s H G vs a Q E hr hp hs hv q => ?_
  have nd := sc_tie_bit.nd
  have hu := hr.units
  have hu1 := hu_of hr
  refine ⟨_, (pss_one (ps_ret (pe_op op_shl pe_int (pe_op op_sub (pe_op op_sub (pe_callB call_len_seq rfl T.len (by decide +kernel) (pa_cons (pe_ix ix_tup (pv 0) pe_int (fun _ _ => rfl)) pa_nil)) pe_int) (pv 1))))), ?_⟩
  obtain ⟨n, W, t⟩ := a
  dsimp only at hv q hp
  obtain ⟨v0, v1, rfl, h0, h1⟩ := dpa2 hv
  cases h1
  obtain ⟨ht, hm⟩ : t < W.length ∧ W.length ≤ 1000 := hp
  refine s_ret (K := K) hs (ed_is (ed_op ed_int (ed_op (ed_op (ed_cb (ea_cons (ed_op (ed_var rfl h0) ed_int (rd_ixT (j := 1) rfl rfl)) ea_nil) ra_lenT) ed_int (rd_subN (b := 1) ?_)) (ed_var rfl (.int _)) (rd_subN (b := t) ?_)) (rd_shlN (a := 1) (by decide) ?_)) ?_) q
  · rw [List.length_map]; omega
  · rw [List.length_map]; omega
  · rw [List.length_map]; omega
  · rw [List.length_map, Nat.one_mul]; rfl
-- slots of bits_of: 0 web*, 1 lot, 2 tie
abbrev s_bits_of : Stmt := top 9
abbrev N_bits_of : List Str := ["web", "lot", "tie"]
theorem sc_bits_of : FnScope N_bits_of ["web", "lot"] (defScope s_bits_of) := ⟨rfl, rfl, rfl, by decide +kernel, rfl, by decide +kernel, by decide +kernel⟩
abbrev sp_bits_of (K : PySem.W.Frag) : Sp := spD (α := Nat × Ties × List Nat) K (fun a => (∀ t ∈ a.2.2, t < a.2.1.length) ∧ a.2.1.length ≤ 1000 ∧ a.2.2.length ≤ 1000) (fun a => [webD a.1 a.2.1, natsT a.2.2]) (fun a => natD (bitsOf a.2.1.length a.2.2))
theorem c_bits_of {f : Addr} {fd : FuncData} (T : Txt mg) (F : Fd K mg "bits_of" s_bits_of f fd) (C_tie_bit : Cal P w K mg base CX0 "tie_bit" 1 ["web", "tie"] (sp_tie_bit K)) : Cal P w K mg base CX0 "bits_of" 2 ["web", "lot"] (sp_bits_of K) := by
  refine okD F sc_bits_of (F.fn.binds fun _ _ _ _ _ _ us hl => match us, hl with | [_, _], _ => rfl) (fun _ => rfl) fun cdv A outer s H G vs a Q E hr hp hs hv q => ?_
  have nd := sc_bits_of.nd
  have hu := hr.units
  have hu1 := hu_of hr
  refine ⟨_, (pss_one (ps_ret (pe_callB (cr_sum rfl) rfl T.sum (by decide +kernel) (pa_cons (pe_lc (own := [("tie", 2)]) (g := gName 2) (tt := tYes) (te := tCall (sp_tie_bit K) [] E0 (tCons (tVar 0) (tCons (tVar 2) (tNil)))) rfl nd (pi_tup (pv 1)) (blkOk_by (N := N_bits_of) (sc := defScope s_bits_of) (by decide +kernel)) (fun _ _ _ _ _ => (pg_name (i := 2) nd rfl (Or.inl rfl))) (fun _ _ _ _ _ => pts_nil) (fun _ _ _ _ _ => (pe_cal C_tie_bit (hr.mono (by decide)) rfl (pa_cons (pv 0) (pa_cons (pv 2) pa_nil))))) pa_nil)))), ?_⟩
  obtain ⟨n, W, lot⟩ := a
  dsimp only at hv q hp
  obtain ⟨v0, v1, rfl, h0, h1⟩ := dpa2 hv
  obtain ⟨ht, hm, hl⟩ : (∀ t ∈ lot, t < W.length) ∧ W.length ≤ 1000 ∧ lot.length ≤ 1000 := hp
  refine s_ret (K := K) hs (ed_is (ed_cb (ea_cons (ed_is (ed_lcA lot natD (fun t => natD (tieBit W.length t)) (es_tup (ed_var rfl h1)) (by omega) fun t hmem x G' H' g hx => ?_) ?_) ea_nil) (ra_sumN (ns := lot.map (tieBit W.length)))) rfl) q
  · cases hx
    exact ⟨_, fun Q q => q, rfl, ed_call (n, W, t) (ea_cons (ed_var rfl (dp_mono g.g _ _ h0)) (ea_cons (ed_var rfl (.int _)) ea_nil)) ⟨ht t hmem, hm⟩⟩
  · show PyData.list _ = PyData.list ((lot.map (tieBit W.length)).map natD)
    rw [List.map_map]; rfl
-- slots of greatest: 0 bits
abbrev s_greatest : Stmt := top 10
abbrev N_greatest : List Str := ["bits"]
theorem sc_greatest : FnScope N_greatest ["bits"] (defScope s_greatest) := ⟨rfl, rfl, rfl, by decide +kernel, rfl, by decide +kernel, by decide +kernel⟩
abbrev sp_greatest (K : PySem.W.Frag) : Sp := spD (α := Nat) K (fun b => b ≠ 0 ∧ b < 2 ^ 60) (fun b => [natD b]) (fun b => natD (2 ^ b.log2))
theorem c_greatest {f : Addr} {fd : FuncData} (T : Txt mg) (F : Fd K mg "greatest" s_greatest f fd)  : Cal P w K mg base CX0 "greatest" 1 ["bits"] (sp_greatest K) := by
  refine okD F sc_greatest (F.fn.binds fun _ _ _ _ _ _ us hl => match us, hl with | [_], _ => rfl) (fun _ => rfl) fun cdv A outer s H G vs a Q E hr hp hs hv q => ?_
  have nd := sc_greatest.nd
  have hu := hr.units
  have hu1 := hu_of hr
  refine ⟨_, (pss_one (ps_ret (pe_op op_shl pe_int (pe_op op_sub (pe_bits (pv 0)) pe_int)))), ?_⟩
  obtain ⟨v0, rfl, h0⟩ := dpa1 hv
  cases h0
  obtain ⟨hp, hb⟩ := hp
  have hlog : a.log2 < 60 := (Nat.log2_lt hp).mpr hb
  refine s_ret (K := K) hs (ed_is (ed_op ed_int (ed_op (ed_is (ed_bits (ed_var rfl (.int _))) (by rw [if_neg hp])) ed_int (rd_subN (a := a.log2 + 1) (b := 1) (by omega))) (rd_shlN (a := 1) (b := a.log2 + 1 - 1) (by decide) (by omega))) ?_) q
  rw [Nat.one_mul]; rfl
-- slots of goal_of: 0 pair, 1 place
abbrev s_goal_of : Stmt := top 13
abbrev N_goal_of : List Str := ["pair", "place"]
theorem sc_goal_of : FnScope N_goal_of ["pair", "place"] (defScope s_goal_of) := ⟨rfl, rfl, rfl, by decide +kernel, rfl, by decide +kernel, by decide +kernel⟩
abbrev sp_goal_of (K : PySem.W.Frag) : Sp := spD (α := (Nat × Nat) × Nat) K (fun _ => True) (fun a => [tieD a.1, natD a.2]) (fun a => natD (goalOf a.1 a.2))
theorem c_goal_of {f : Addr} {fd : FuncData} (T : Txt mg) (F : Fd K mg "goal_of" s_goal_of f fd)  : Cal P w K mg base CX0 "goal_of" 1 ["pair", "place"] (sp_goal_of K) := by
  refine okD F sc_goal_of (F.fn.binds fun _ _ _ _ _ _ us hl => match us, hl with | [_, _], _ => rfl) (fun _ => rfl) fun cdv A outer s H G vs a Q E hr hp hs hv q => ?_
  have nd := sc_goal_of.nd
  have hu := hr.units
  have hu1 := hu_of hr
  refine ⟨_, (pss_one (ps_ret (pe_ifExp (pt_cmpR op_eq (pe_ix ix_tup (pv 0) pe_int (fun _ _ => rfl)) (pv 1) (nomark _)) (pe_ix ix_tup (pv 0) pe_int (fun _ _ => rfl)) (pe_ix ix_tup (pv 0) pe_int (fun _ _ => rfl))))), ?_⟩
  obtain ⟨e, p⟩ := a
  dsimp only at hv q hp
  obtain ⟨v0, v1, rfl, h0, h1⟩ := dpa2 hv
  cases h1
  refine s_ret (K := K) hs (ed_if (et_test (K := K) (ed_op (ed_op (ed_var rfl h0) ed_int (rd_ixT (j := 0) rfl rfl)) (ed_var rfl (.int _)) rd_eqN)) (fun c => ?_) (fun c => ?_)) q
  · exact ed_is (ed_op (ed_var rfl h0) ed_int (rd_ixT (j := 1) rfl rfl)) (by
      show natD e.2 = natD (goalOf e p)
      rw [goalOf, if_pos (of_decide_eq_true c)])
  · exact ed_is (ed_op (ed_var rfl h0) ed_int (rd_ixT (j := 0) rfl rfl)) (by
      show natD e.1 = natD (goalOf e p)
      rw [goalOf, if_neg (of_decide_eq_false c)])
-- slots of lot_parities: 0 web, 1 lot, 2 found, 3 tie, 4 one, 5 other
abbrev s_lot_parities : Stmt := top 18
abbrev N_lot_parities : List Str := ["web", "lot", "found", "tie", "one", "other"]
theorem sc_lot_parities : FnScope N_lot_parities ["web", "lot"] (defScope s_lot_parities) := ⟨rfl, rfl, rfl, by decide +kernel, rfl, by decide +kernel, by decide +kernel⟩
abbrev sp_lot_parities (K : PySem.W.Frag) : Sp := spD (α := Nat × Ties × List Nat) K (fun a => (∀ t ∈ a.2.2, t < a.2.1.length) ∧ (∀ e ∈ a.2.1, e.1 ≤ 1000 ∧ e.2 ≤ 1000)) (fun a => [webD a.1 a.2.1, natsT a.2.2]) (fun a => natD (lotPar a.2.1 a.2.2))
theorem c_lot_parities {f : Addr} {fd : FuncData} (T : Txt mg) (F : Fd K mg "lot_parities" s_lot_parities f fd)  : Cal P w K mg base CX0 "lot_parities" 1 ["web", "lot"] (sp_lot_parities K) := by
  refine okD F sc_lot_parities (F.fn.binds fun _ _ _ _ _ _ us hl => match us, hl with | [_, _], _ => rfl) (fun _ => rfl) fun cdv A outer s H G vs a Q E hr hp hs hv q => ?_
  have nd := sc_lot_parities.nd
  have hu := hr.units
  have hu1 := hu_of hr
  refine ⟨_, (pss_cons (ps_set (i := 2) nd rfl (Or.inl rfl) pe_int)
     (pss_cons (ps_for PassesOwn.never rfl (pi_tup (pv 1)) (pg_name (i := 3) nd rfl (Or.inl rfl))
     (pss_cons (ps_asg (pe_ix ix_tup (pe_ix ix_tup (pv 0) pe_int (fun _ _ => rfl)) (pv 3) (fun _ _ => rfl)) (pg_tup rfl (pgs_cons (pg_name (i := 4) nd rfl (Or.inl rfl)) (pgs_cons (pg_name (i := 5) nd rfl (Or.inl rfl)) pgs_nil))))
     (pss_one (ps_set (i := 2) nd rfl (Or.inl rfl) (pe_op op_xor (pe_op op_xor (pv 2) (pe_op op_shl pe_int (pv 4))) (pe_op op_shl pe_int (pv 5)))))))
     (pss_one (ps_ret (pv 2))))), ?_⟩
  obtain ⟨n, W, lot⟩ := a
  dsimp only at hv q hp
  obtain ⟨v0, v1, rfl, h0, h1⟩ := dpa2 hv
  obtain ⟨ht, he⟩ : (∀ t ∈ lot, t < W.length) ∧ (∀ e ∈ W, e.1 ≤ 1000 ∧ e.2 ≤ 1000) := hp
  refine s_set (K := K) hs ed_int fun v G1 H1 g1 hx => ?_
  cases hx
  refine s_forT (Gi := G) (Hi := H) lot natD (es_tup (ed_var rfl (dp_mono g1.g _ _ h1))) g1 (fun pre σ' G' H' => ∃ a b c : Option V, σ' = [some v0, some v1, some (.int ((pre.foldl (parOne W) 0 : Nat) : Int)), a, b, c]) (fun _ _ _ => ⟨_, _, _, rfl⟩) ?_ ?_
  · rintro pre t post x σ' G2 H2 G3 H3 hsp g2 s2 ⟨a, b, c, rfl⟩ g3 hx
    cases hx
    have g := g2.trans g3
    have htl := ht t (by rw [hsp]; simp)
    have hends := he _ (ends_mem htl)
    refine s_asg (K := K) g3.s (ed_op (ed_op (ed_var rfl (dp_mono g.g _ _ h0)) ed_int (rd_ixT (j := 1) rfl rfl)) (ed_var rfl (.int _)) (rd_ixTn (get_tie htl))) fun v G4 H4 g4 hd => ?_
    refine g_tup2 g4.s hd fun u1 u2 d1 d2 => ?_
    cases d1; cases d2
    refine s_set (K := K) g4.s (ed_op (ed_op (ed_var rfl (.int _)) (ed_op ed_int (ed_var rfl (.int _)) (rd_shlN (a := 1) (by decide) (by omega))) rd_xorN) (ed_op ed_int (ed_var rfl (.int _)) (rd_shlN (a := 1) (by decide) (by omega))) rd_xorN) fun v G5 H5 g5 hd => ?_
    cases hd
    refine ⟨G5, ((g.trans g4).trans g5), ((g3.trans g4).trans g5).g, ?_⟩
    rw [List.foldl_append, Nat.one_mul, Nat.one_mul]
    exact ⟨_, _, _, rfl⟩
  · rintro σ' G' H' g s ⟨a, b, c, rfl⟩
    exact s_ret (K := K) g.s (ed_var rfl (.int _)) fun v G'' H'' g'' hd => q v _ _ (g.trans g'') hd
-- slots of parities_left: 0 pairs, 1 parities, 2 bits, 3 own, 4 further
abbrev s_parities_left : Stmt := top 19
abbrev N_parities_left : List Str := ["pairs", "parities", "bits", "own", "further"]
theorem sc_parities_left : FnScope N_parities_left ["pairs", "parities", "bits"] (defScope s_parities_left) := ⟨rfl, rfl, rfl, by decide +kernel, rfl, by decide +kernel, by decide +kernel⟩
abbrev sp_parities_left (K : PySem.W.Frag) : Sp := spD (α := List (Nat × Nat) × Nat × Nat) K (fun _ => True) (fun a => [.list (a.1.map tieD), natD a.2.1, natD a.2.2]) (fun a => tieD (parLeft a.1 a.2))
theorem c_parities_left {f : Addr} {fd : FuncData} (T : Txt mg) (F : Fd K mg "parities_left" s_parities_left f fd)  : Cal P w K mg base CX0 "parities_left" 1 ["pairs", "parities", "bits"] (sp_parities_left K) := by
  refine okD F sc_parities_left (F.fn.binds fun _ _ _ _ _ _ us hl => match us, hl with | [_, _, _], _ => rfl) (fun _ => rfl) fun cdv A outer s H G vs a Q E hr hp hs hv q => ?_
  have nd := sc_parities_left.nd
  have hu := hr.units
  have hu1 := hu_of hr
  refine ⟨_, (pss_cons (ps_for PassesOwn.never rfl (pi_list (pv 0)) (pg_tup rfl (pgs_cons (pg_name (i := 3) nd rfl (Or.inl rfl)) (pgs_cons (pg_name (i := 4) nd rfl (Or.inl rfl)) pgs_nil)))
     (pss_one (ps_if (pt_cmpR op_lt (pe_op op_xor (pv 1) (pv 3)) (pv 1) (nomark _))
     (pss_one (ps_par (i := 1) (j := 2) rfl nd rfl rfl (by decide) rfl rfl (pa_cons (pe_op op_xor (pv 1) (pv 3)) (pa_cons (pe_op op_xor (pv 2) (pv 4)) pa_nil)) rfl))
     pss_nil)))
     (pss_one (ps_ret (pe_tup (pa_cons (pv 1) (pa_cons (pv 2) pa_nil)))))), ?_⟩
  obtain ⟨ps, p, b⟩ := a
  dsimp only at hv q hp
  obtain ⟨v0, v1, v2, rfl, h0, h1, h2⟩ := dpa3 hv
  cases h1; cases h2
  refine s_forT (Gi := G) (Hi := H) ps tieD (es_list (ed_var rfl h0)) (Gr.refl hs) (fun pre σ' G' H' => ∃ c d : Option V, σ' = [some v0, some (.int ((parLeft pre (p, b)).1 : Int)), some (.int ((parLeft pre (p, b)).2 : Int)), c, d]) (fun _ _ _ => ⟨_, _, rfl⟩) ?_ ?_
  · rintro pre ⟨o, f⟩ post x σ' G2 H2 G3 H3 hsp g2 s2 ⟨c, d, rfl⟩ g3 hx
    refine g_tup2 g3.s hx fun u1 u2 d1 d2 => ?_
    cases d1; cases d2
    have g := g2.trans g3
    have e1 : parLeft (pre ++ [(o, f)]) (p, b) = parStep (parLeft pre (p, b)) (o, f) := by
      unfold parLeft
      rw [List.foldl_append]; rfl
    refine s_if g3.s (et_test (K := K) (ed_op (ed_op (ed_var rfl (.int _)) (ed_var rfl (.int _)) rd_xorN) (ed_var rfl (.int _)) rd_ltN)) (fun c1 G4 H4 g4 => ?_) (fun c1 G4 H4 g4 => ?_)
    · refine s_par (K := K) g4.s (ea_cons (ed_op (ed_var rfl (.int _)) (ed_var rfl (.int _)) rd_xorN) (ea_cons (ed_op (ed_var rfl (.int _)) (ed_var rfl (.int _)) rd_xorN) ea_nil)) fun v w G5 H5 g5 e5 e6 => ?_
      cases e5; cases e6
      refine ⟨G5, (g.trans g4).trans g5, ((g3.trans g4).trans g5).g, ?_⟩
      rw [e1, parStep, if_pos (of_decide_eq_true c1)]
      exact ⟨_, _, rfl⟩
    · refine ⟨G4, g.trans g4, (g3.trans g4).g, ?_⟩
      rw [e1, parStep, if_neg (of_decide_eq_false c1)]
      exact ⟨_, _, rfl⟩
  · rintro σ' G' H' g s ⟨c, d, rfl⟩
    exact s_ret (K := K) g.s (ed_tup (ea_cons (ed_var rfl (.int _)) (ea_cons (ed_var rfl (.int _)) ea_nil)) (by simp)) fun v G'' H'' g'' hd => q v _ _ (g.trans g'') hd
-- slots of rest_of: 0 columns, 1 lot, 2 found, 3 tie
abbrev s_rest_of : Stmt := top 29
abbrev N_rest_of : List Str := ["columns", "lot", "found", "tie"]
theorem sc_rest_of : FnScope N_rest_of ["columns", "lot"] (defScope s_rest_of) := ⟨rfl, rfl, rfl, by decide +kernel, rfl, by decide +kernel, by decide +kernel⟩
abbrev sp_rest_of (K : PySem.W.Frag) : Sp := spD (α := List Nat × List Nat) K (fun a => ∀ t ∈ a.2, t < a.1.length) (fun a => [natsL a.1, natsL a.2]) (fun a => natD (restOf a.1 a.2))
theorem c_rest_of {f : Addr} {fd : FuncData} (T : Txt mg) (F : Fd K mg "rest_of" s_rest_of f fd)  : Cal P w K mg base CX0 "rest_of" 1 ["columns", "lot"] (sp_rest_of K) := by
  refine okD F sc_rest_of (F.fn.binds fun _ _ _ _ _ _ us hl => match us, hl with | [_, _], _ => rfl) (fun _ => rfl) fun cdv A outer s H G vs a Q E hr hp hs hv q => ?_
  have nd := sc_rest_of.nd
  have hu := hr.units
  have hu1 := hu_of hr
  refine ⟨_, (pss_cons (ps_set (i := 2) nd rfl (Or.inl rfl) pe_int)
     (pss_cons (ps_for PassesOwn.never rfl (pi_list (pv 1)) (pg_name (i := 3) nd rfl (Or.inl rfl))
     (pss_one (ps_set (i := 2) nd rfl (Or.inl rfl) (pe_op op_xor (pv 2) (pe_ix ix_list (pv 0) (pv 3) (fun _ _ => rfl))))))
     (pss_one (ps_ret (pv 2))))), ?_⟩
  obtain ⟨cols, lot⟩ := a
  dsimp only at hv q hp
  obtain ⟨v0, v1, rfl, h0, h1⟩ := dpa2 hv
  refine s_set (K := K) hs ed_int fun v G1 H1 g1 hx => ?_
  cases hx
  refine s_forT (Gi := G) (Hi := H) lot natD (es_list (ed_var rfl (dp_mono g1.g _ _ h1))) g1 (fun pre σ' G' H' => ∃ a : Option V, σ' = [some v0, some v1, some (.int ((restOf cols pre : Nat) : Int)), a]) (fun _ _ _ => ⟨_, rfl⟩) ?_ ?_
  · rintro pre t post x σ' G2 H2 G3 H3 hsp g2 s2 ⟨a, rfl⟩ g3 hx
    cases hx
    have g := g2.trans g3
    have htl := hp t (by show t ∈ lot; rw [hsp]; simp)
    refine s_set (K := K) g3.s (ed_op (ed_var rfl (.int _)) (ed_op (ed_var rfl (dp_mono g.g _ _ h0)) (ed_var rfl (.int _)) (rd_ixLn (get_nat htl))) rd_xorN) fun v G5 H5 g5 hd => ?_
    cases hd
    refine ⟨G5, g.trans g5, (g3.trans g5).g, ?_⟩
    unfold restOf
    rw [List.foldl_append]
    exact ⟨_, rfl⟩
  · rintro σ' G' H' g s ⟨a, rfl⟩
    exact s_ret (K := K) g.s (ed_var rfl (.int _)) fun v G'' H'' g'' hd => q v _ _ (g.trans g'') hd
end
end Bw
set_option Elab.async false
set_option linter.all false
set_option maxRecDepth 100000
set_option maxHeartbeats 4000000
namespace Bw
open PySem PySem.Spec PyProof.Rows L2 Bo
section
variable {P : Program} {w : World} {K : PySem.W.Frag} {mg : Str → Option Value} {base : Heap}
theorem rowStep_z {T : Ties} {st : Bo.Rows} {p : Nat} (h : (parLeft st.1 (lotPar T (tiesAt T p), bitsOf T.length (tiesAt T p))).1 = 0) : rowStep T st p = (st.1, st.2 ++ [(parLeft st.1 (lotPar T (tiesAt T p), bitsOf T.length (tiesAt T p))).2]) := if_pos h
theorem rowStep_p {T : Ties} {st : Bo.Rows} {p : Nat} (h : ¬ (parLeft st.1 (lotPar T (tiesAt T p), bitsOf T.length (tiesAt T p))).1 = 0) : rowStep T st p = (st.1 ++ [parLeft st.1 (lotPar T (tiesAt T p), bitsOf T.length (tiesAt T p))], st.2) := if_neg h
abbrev rowsD (r : Bo.Rows) : PyData := .tuple [.list (r.1.map tieD), natsL r.2]
-- slots of parity_rows: 0 web, 1 pairs, 2 found, 3 place, 4 lot, 5 parities, 6 bits
abbrev s_parity_rows : Stmt := top 20
abbrev N_parity_rows : List Str := ["web", "pairs", "found", "place", "lot", "parities", "bits"]
theorem sc_parity_rows : FnScope N_parity_rows ["web"] (defScope s_parity_rows) := ⟨rfl, rfl, rfl, by decide +kernel, rfl, by decide +kernel, by decide +kernel⟩
abbrev sp_parity_rows (K : PySem.W.Frag) : Sp := spD (α := Nat × Ties) K (fun a => Ok a.1 a.2) (fun a => [webD a.1 a.2]) (fun a => rowsD (parRows a.1 a.2))
theorem rowRun_len (T : Ties) (l : List Nat) : (l.foldl (rowStep T) ([], [])).1.length ≤ l.length ∧ (l.foldl (rowStep T) ([], [])).2.length ≤ l.length := by
  have key : ∀ (l : List Nat) (st : Bo.Rows), (l.foldl (rowStep T) st).1.length ≤ st.1.length + l.length ∧ (l.foldl (rowStep T) st).2.length ≤ st.2.length + l.length := by
    intro l
    induction l with
    | nil => exact fun st => ⟨Nat.le_refl _, Nat.le_refl _⟩
    | cons p r ih =>
      intro st
      obtain ⟨h1, h2⟩ := ih (rowStep T st p)
      have : (rowStep T st p).1.length ≤ st.1.length + 1 ∧ (rowStep T st p).2.length ≤ st.2.length + 1 := by
        unfold rowStep
        dsimp only
        split
        · rw [List.length_append]; simp
        · rw [List.length_append]; simp
      rw [List.foldl_cons, List.length_cons]
      omega
  have := key l ([], [])
  simpa using this
theorem c_parity_rows {f : Addr} {fd : FuncData} (T : Txt mg) (F : Fd K mg "parity_rows" s_parity_rows f fd) (C_ties_at : Cal P w K mg base CX0 "ties_at" 1 ["web", "place"] (sp_ties_at K)) (C_bits_of : Cal P w K mg base CX0 "bits_of" 2 ["web", "lot"] (sp_bits_of K)) (C_lot_parities : Cal P w K mg base CX0 "lot_parities" 1 ["web", "lot"] (sp_lot_parities K)) (C_parities_left : Cal P w K mg base CX0 "parities_left" 1 ["pairs", "parities", "bits"] (sp_parities_left K)) : Cal P w K mg base CX0 "parity_rows" 3 ["web"] (sp_parity_rows K) := by
  refine okD F sc_parity_rows (F.fn.binds fun _ _ _ _ _ _ us hl => match us, hl with | [_], _ => rfl) (fun _ => rfl) fun cdv A outer s H G vs a Q E hr hp hs hv q => ?_
  have nd := sc_parity_rows.nd
  have hu := hr.units
  have hu1 := hu_of hr
  refine ⟨_, (pss_cons (ps_par (i := 1) (j := 2) rfl nd rfl rfl (by decide) rfl rfl (pa_cons (pe_lst pa_nil) (pa_cons (pe_lst pa_nil) pa_nil)) rfl)
     (pss_cons (ps_for PassesOwn.never rfl (pi_range2 rfl T.range (pa_cons pe_int (pa_cons (pe_ix ix_tup (pv 0) pe_int (fun _ _ => rfl)) pa_nil))) (pg_name (i := 3) nd rfl (Or.inl rfl))
     (pss_cons (ps_set (i := 4) nd rfl (Or.inl rfl) (pe_cal C_ties_at (hr.mono (by decide)) rfl (pa_cons (pv 0) (pa_cons (pv 3) pa_nil))))
     (pss_cons (ps_asg (pe_cal C_parities_left (hr.mono (by decide)) rfl (pa_cons (pv 1) (pa_cons (pe_cal C_lot_parities (hr.mono (by decide)) rfl (pa_cons (pv 0) (pa_cons (pv 4) pa_nil))) (pa_cons (pe_cal C_bits_of (hr.mono (by decide)) rfl (pa_cons (pv 0) (pa_cons (pv 4) pa_nil))) pa_nil)))) (pg_tup rfl (pgs_cons (pg_name (i := 5) nd rfl (Or.inl rfl)) (pgs_cons (pg_name (i := 6) nd rfl (Or.inl rfl)) pgs_nil))))
     (pss_one (ps_if (pt_cmpR op_eq (pv 5) pe_int (nomark _))
     (pss_one (ps_expr (pe_bm PySem.F.plainAttrs_list PySem.F.slot_list_append PySem.F.type_list_append mt_append (pv 2) (pa_cons (pv 6) pa_nil))))
     (pss_one (ps_expr (pe_bm PySem.F.plainAttrs_list PySem.F.slot_list_append PySem.F.type_list_append mt_append (pv 1) (pa_cons (pe_tup (pa_cons (pv 5) (pa_cons (pv 6) pa_nil))) pa_nil)))))))))
     (pss_one (ps_ret (pe_tup (pa_cons (pv 1) (pa_cons (pv 2) pa_nil))))))), ?_⟩
  obtain ⟨n, W⟩ := a
  dsimp only at hv q hp
  obtain ⟨v0, rfl, h0⟩ := dpa1 hv
  refine q_par00 (Gr.refl hs) fun p f H1 npf hp0 hf0 g1 mp mf => ?_
  have hn12 := hp.hi
  have hn1 := hp.lo
  have hrng : ES K (iRng2 (tCons (tC (.int 1)) (tCons (tOp (rIxT K) (tVar 0) (tC (.int 0))) tNil))) [some v0, some (.ref p), some (.ref f), none, none, none, none] G H1 (((List.range (n - 1)).map (1 + ·)).map natD) := by
    rw [← intsD_one]
    have h : ES K (iRng2 (tCons (tC (.int 1)) (tCons (tOp (rIxT K) (tVar 0) (tC (.int 0))) tNil))) [some v0, some (.ref p), some (.ref f), none, none, none, none] G H1 (intsD 1 ((n : Int) - 1).toNat) := es_rng2 (ea_cons ed_int (ea_cons (ed_op (ed_var rfl h0) ed_int (rd_ixT (j := 0) rfl rfl)) ea_nil)) (by omega)
    have e : ((n : Int) - 1).toNat = n - 1 := by omega
    rw [e] at h
    exact h
  refine q_forT (Gi := G) (Hi := H) ((List.range (n - 1)).map (1 + ·)) natD hrng g1 (fun pre σ' G' H' => ∃ (xs ys : List V) (c d e f' : Option V), σ' = [some v0, some (.ref p), some (.ref f), c, d, e, f'] ∧ Mu G' H' p (.lst xs) ∧ Mu G' H' f (.lst ys) ∧
      DpAll K G' xs ((pre.foldl (rowStep W) ([], [])).1.map tieD) ∧ DpAll K G' ys ((pre.foldl (rowStep W) ([], [])).2.map natD)) (fun G' H' g' => ⟨[], [], _, _, _, _, rfl, mp.gr g', mf.gr g', .nil, .nil⟩) ?_ ?_
  · rintro pre pl post x σ' G2 H2 G3 H3 hsp g2 s2 ⟨xs, ys, c, d, e, f', rfl, m1, m2, d1, d2⟩ g3 hx
    cases hx
    obtain ⟨l1, l2⟩ := rowRun_len W pre
    have hlen : pre.length ≤ n - 1 := by
      have := congrArg List.length hsp
      simp at this
      omega
    generalize hst : pre.foldl (rowStep W) ([], []) = st at d1 d2 l1 l2
    have g := g2.trans g3
    have hW := dp_mono g.g _ _ h0
    refine g_nm (q_set (K := K) g3.s (ed_call (n, W, pl) (ea_cons (ed_var rfl hW) (ea_cons (ed_var rfl (.int _)) ea_nil)) (Nat.le_trans hp.few (by decide))) fun vl G4 H4 g4 hl => ?_)
    have g' := g.trans g4
    have m1' := m1.gr (g3.trans g4)
    have m2' := m2.gr (g3.trans g4)
    have d1' := dpa_mono (g3.trans g4).g _ _ d1
    have d2' := dpa_mono (g3.trans g4).g _ _ d2
    have hW' := dp_mono g4.g _ _ hW
    have vs' := view_same g4.s m1'
    have up : Same G4 (upd G4 p (.lst xs)) := same_new m1'.n
    refine q_un2 (K := K) (G := upd G4 p (.lst xs)) vs' (ed_call (st.1, lotPar W (tiesAt W pl), bitsOf W.length (tiesAt W pl)) (ea_cons (ed_var rfl (.lst (.of upd_same) (dpa_mono up _ _ d1'))) (ea_cons
      (ed_call (n, W, tiesAt W pl) (ea_cons (ed_var rfl (dp_mono up _ _ hW')) (ea_cons (ed_var rfl (dp_mono up _ _ hl)) ea_nil)) (by exact ⟨fun t ht => tiesAt_lt ht, hp.ends⟩)) (ea_cons
      (ed_call (n, W, tiesAt W pl) (ea_cons (ed_var rfl (dp_mono up _ _ hW')) (ea_cons (ed_var rfl (dp_mono up _ _ hl)) ea_nil)) (by exact ⟨fun t ht => tiesAt_lt ht, Nat.le_trans hp.few (by decide), Nat.le_trans (tiesAt_len W pl) (Nat.le_trans hp.few (by decide))⟩)) ea_nil))) (by exact trivial)) fun u1 u2 G5 H5 g5 e1 e2 => ?_
    cases e1; cases e2
    have g6 := g5.unview m1'
    have m1'' := m1'.gr g6
    have m2'' := m2'.gr g6
    have d1'' := dpa_mono g6.g _ _ d1'
    have d2'' := dpa_mono g6.g _ _ d2'
    have gg := g'.trans g6
    generalize hide G5 p = G6 at g6 m1'' m2'' d1'' d2'' gg
    have hrow : (pre ++ [pl]).foldl (rowStep W) ([], []) = rowStep W st pl := by rw [List.foldl_append, hst]; rfl
    refine s_if g6.s (et_test (K := K) (ed_op (ed_var rfl (.int _)) ed_int (rd_eqN (b := 0)))) (fun c1 G7 H7 g7 => ?_) (fun c1 G7 H7 g7 => ?_)
    · have hc := of_decide_eq_true c1
      refine s_app (K := K) g7.s rfl (m2''.gr g7) (by rw [d2''.len, List.length_map]; omega) (ed_var rfl (.int _)) fun v G8 H8 g8 hd8 m8 s8 => ?_
      have g78 := g7.trans g8
      refine ⟨G8, (gg.trans g78).mut hf0 m8.n, (((g3.trans g4).trans g6).trans g78).g, ?_⟩
      rw [hrow, rowStep_z hc]
      refine ⟨xs, ys ++ [v], _, _, _, _, rfl, (m1''.gr g78).ne npf, m8, ?_, ?_⟩
      · exact dpa_mono g78.g _ _ d1''
      · rw [List.map_append]
        exact (dpa_mono g78.g _ _ d2'').app (.cons hd8 .nil)
    · have hc := of_decide_eq_false c1
      refine s_app (K := K) g7.s rfl (m1''.gr g7) (by rw [d1''.len, List.length_map]; omega) (ed_tup (ea_cons (ed_var rfl (.int _)) (ea_cons (ed_var rfl (.int _)) ea_nil)) (by simp)) fun v G8 H8 g8 hd8 m8 s8 => ?_
      have g78 := g7.trans g8
      refine ⟨G8, (gg.trans g78).mut hp0 m8.n, (((g3.trans g4).trans g6).trans g78).g, ?_⟩
      rw [hrow, rowStep_p hc]
      refine ⟨xs ++ [v], ys, _, _, _, _, rfl, m8, (m2''.gr g78).ne npf.symm, ?_, ?_⟩
      · rw [List.map_append]
        exact (dpa_mono g78.g _ _ d1'').app (.cons hd8 .nil)
      · exact dpa_mono g78.g _ _ d2''
  · rintro σ' G' H' g s ⟨xs, ys, c, d, e, f', rfl, m1, m2, d1, d2⟩
    have g1 := g.freeze hp0 m1
    have m2' : Mu (upd G' p (.lst xs)) H' f (.lst ys) := ⟨by rw [upd_ne npf.symm]; exact m2.n, m2.h⟩
    have g2 := g1.freeze hf0 m2'
    have s1 : Same G' (upd G' p (.lst xs)) := same_new m1.n
    have s2 : Same (upd G' p (.lst xs)) (upd (upd G' p (.lst xs)) f (.lst ys)) := same_new m2'.n
    refine s_ret (K := K) g2.s (ed_tup (ea_cons (ed_var rfl (.lst (.of (s2 _ _ upd_same)) (dpa_mono (s1.trans s2) _ _ d1))) (ea_cons (ed_var rfl (.lst (.of upd_same) (dpa_mono (s1.trans s2) _ _ d2))) ea_nil)) (by simp)) fun v G'' H'' g'' hd => q v _ _ (g2.trans g'') hd
end
end Bw
set_option Elab.async false
set_option linter.all false
set_option maxRecDepth 100000
set_option maxHeartbeats 4000000
namespace Bw
open PySem PySem.Spec PyProof.Rows L2 Bo
section
variable {P : Program} {w : World} {K : PySem.W.Frag} {mg : Str → Option Value} {base : Heap}
-- slots of reduced_bits: 0 rows, 1 known*, 2 row, 3 bits, 4 figure, 5 fresh
abbrev s_reduced_bits : Stmt := top 11
abbrev N_reduced_bits : List Str := ["rows", "known", "row", "bits", "figure", "fresh"]
theorem sc_reduced_bits : FnScope N_reduced_bits ["rows"] (defScope s_reduced_bits) := ⟨rfl, rfl, rfl, by decide +kernel, rfl, by decide +kernel, by decide +kernel⟩
abbrev sp_reduced_bits (K : PySem.W.Frag) : Sp := spD (α := List Nat) K (fun a => a.length ≤ 40 ∧ ∀ r ∈ a, r < 2 ^ 60) (fun a => [natsL a]) (fun a => natsL (reduced a))
theorem split_ne {k pre post : List (Nat × Nat)} {q : Nat × Nat} (hn : (k.map (·.1)).Nodup) (h : k = pre ++ q :: post) : (∀ p ∈ pre, p.1 ≠ q.1) ∧ (∀ p ∈ post, p.1 ≠ q.1) := by
  rw [h, List.map_append, List.map_cons] at hn
  obtain ⟨_, h2, h3⟩ := List.nodup_append.mp hn
  refine ⟨fun p hp e => ?_, fun p hp e => ?_⟩
  · exact h3 p.1 (List.mem_map.mpr ⟨p, hp, rfl⟩) q.1 (List.mem_cons_self ..) e
  · exact (List.nodup_cons.mp h2).1 (List.mem_map.mpr ⟨p, hp, e⟩)
theorem c_reduced_bits {f : Addr} {fd : FuncData} (T : Txt mg) (F : Fd K mg "reduced_bits" s_reduced_bits f fd) (C_greatest : Cal P w K mg base CX0 "greatest" 1 ["bits"] (sp_greatest K)) : Cal P w K mg base CX0 "reduced_bits" 2 ["rows"] (sp_reduced_bits K) := by
  refine okD F sc_reduced_bits (F.fn.binds fun _ _ _ _ _ _ us hl => match us, hl with | [_], _ => rfl) (fun _ => rfl) fun cdv A outer s H G vs a Q E hr hp hs hv q => ?_
  have nd := sc_reduced_bits.nd
  have hu := hr.units
  have hu1 := hu_of hr
  refine ⟨_, (pss_cons (ps_set (i := 1) nd rfl (Or.inr rfl) pe_dnewK)
     (pss_cons (ps_for PassesOwn.never rfl (pi_list (pv 0)) (pg_name (i := 2) nd rfl (Or.inl rfl))
     (pss_cons (ps_set (i := 3) nd rfl (Or.inl rfl) (pv 2))
     (pss_cons (ps_lock (ps_for PassesOwn.never rfl (pi_keys (pv 1)) (pg_name (i := 4) nd rfl (Or.inl rfl))
     (pss_one (ps_if (pt_cmpR op_ne (pe_op op_and (pv 3) (pv 4)) pe_int (nomark _))
     (pss_one (ps_set (i := 3) nd rfl (Or.inl rfl) (pe_op op_xor (pv 3) (pe_dget hu1 (pv 1) (pv 4) (fun _ _ => rfl)))))
     pss_nil))))
     (pss_one (ps_if (pt_cmpR op_ne (pv 3) pe_int (nomark _))
     (pss_cons (ps_set (i := 5) nd rfl (Or.inl rfl) (pe_cal C_greatest (hr.mono (by decide)) rfl (pa_cons (pv 3) pa_nil)))
     (pss_cons (ps_for PassesOwn.never rfl (pi_list (pe_callTy (call_list_dK rfl) rfl T.list_ (by decide +kernel) (pa_cons (pv 1) pa_nil))) (pg_name (i := 4) nd rfl (Or.inl rfl))
     (pss_one (ps_if (pt_cmpR op_ne (pe_op op_and (pe_dget hu1 (pv 1) (pv 4) (fun _ _ => rfl)) (pv 5)) pe_int (nomark _))
     (pss_one (ps_dput hu1 (pv 1) (pv 4) (pe_op op_xor (pe_dget hu1 (pv 1) (pv 4) (fun _ _ => rfl)) (pv 3)) rfl))
     pss_nil)))
     (pss_one (ps_dput hu1 (pv 1) (pv 5) (pv 3) rfl))))
     pss_nil)))))
     (pss_one (ps_ret (pe_lc (own := [("figure", 4)]) (g := gName 4) (tt := tYes) (te := tDGet (tVar 1) (tVar 4)) rfl nd (pi_list (pe_revL (pe_callB (cr_sortedK rfl) rfl T.sorted (by decide +kernel) (pa_cons (pv 1) pa_nil)))) (blkOk_by (N := N_reduced_bits) (sc := defScope s_reduced_bits) (by decide +kernel)) (fun _ _ _ _ _ => (pg_name (i := 4) nd rfl (Or.inl rfl))) (fun _ _ _ _ _ => pts_nil) (fun _ _ _ _ _ => (pe_dget hu1 (pv 1) (pv 4) (fun _ _ => rfl)))))))), ?_⟩
  obtain ⟨v0, rfl, h0⟩ := dpa1 hv
  obtain ⟨hlen, hlt⟩ := hp
  refine q_newD (Gr.refl hs) fun p H1 hp0 hpH _ g1 mp => ?_
  refine q_forT (Gi := G) (Hi := H) a natD (es_list (ed_var rfl h0)) g1 (fun pre σ' G' H' => ∃ (kvs : List (Key × V)) (b c d e : Option V), σ' = [some v0, some (.ref p), b, c, d, e] ∧ Mu G' H' p (.dK kvs) ∧ KvD K G' natD kvs (pre.foldl redStep [])) (fun G' H' g' => ⟨[], _, _, _, _, rfl, mp.gr g', .nil⟩) ?_ ?_
  · rintro pre row post x σ' G2 H2 G3 H3 hsp g2 s2 ⟨kvs, b, c, d, e, rfl, m1, k1⟩ g3 hx
    cases hx
    have hI := redRun_inv pre
    have hprelen : (pre.foldl redStep []).length ≤ 40 := by
      have h1 := redRun_len pre
      have h2 := congrArg List.length hsp
      simp at h2
      omega
    have hklt : ∀ fv ∈ pre.foldl redStep [], fv.2 < 2 ^ 60 := redRun_lt fun r hr => hlt r (by rw [hsp]; simp [hr])
    have hrow := hlt row (by rw [hsp]; simp)
    have hnext : (pre ++ [row]).foldl redStep [] = redStep (pre.foldl redStep []) row := by rw [List.foldl_append]; rfl
    generalize pre.foldl redStep [] = k at k1 hI hprelen hklt hnext
    have g := g2.trans g3
    refine g_nm (q_set (K := K) g3.s (ed_var rfl (.int _)) fun v G4 H4 g4 hd => ?_)
    cases hd
    have g' := g.trans g4
    have m2 := m1.gr (g3.trans g4)
    have k2 := k1.mono (g3.trans g4).g
    refine q_forKeys (K := K) (Gi := G) (Hi := H) (i := 1) rfl g' hp0 m2 k2 (fun od pre2 σ' G' H' => ∃ x y : Option V, σ' = [some v0, some (.ref p), some (.int (row : Int)), some (.int ((pre2.foldl redTurn row : Nat) : Int)), x, y]) (fun od => ⟨_, _, rfl⟩) ?_ ?_
    · rintro od pre2 q post2 σ' G5 H5 hsp2 g5 s5 m5 ⟨x, y, rfl⟩
      have hne := split_ne hI.nd hsp2
      have k5 := k2.mono s5
      refine g_nm (s_if g5.s (et_test (K := K) (ed_op (ed_op (ed_var rfl (.int _)) (ed_var rfl (.int _)) rd_andN) ed_int (rd_neN (b := 0)))) (fun c1 G6 H6 g6 => ?_) (fun c1 G6 H6 g6 => ?_))
      · refine s_set (K := K) g6.s (ed_op (ed_var rfl (.int _)) (ed_dget (k := k) (a := q.2) rfl (.inr ⟨od, (m5.gr g6).h⟩) (k5.mono g6.g) (by rw [hsp2]; exact valN_mid hne.1) (ed_var rfl (.int _))) rd_xorN) fun v G7 H7 g7 hd => ?_
        cases hd
        have g67 := g6.trans g7
        refine ⟨G7, g5.trans g67, g67.g, m5.gr g67, ?_⟩
        rw [List.foldl_append]
        have c1' : pre2.foldl redTurn row &&& q.1 ≠ 0 := by simpa using c1
        have e1 : List.foldl redTurn (List.foldl redTurn row pre2) [q] = List.foldl redTurn row pre2 ^^^ q.2 := if_pos c1'
        rw [e1]
        exact ⟨_, _, rfl⟩
      · refine ⟨G6, g5.trans g6, g6.g, m5.gr g6, ?_⟩
        rw [List.foldl_append]
        have c1' : ¬ pre2.foldl redTurn row &&& q.1 ≠ 0 := by simpa using c1
        have e1 : List.foldl redTurn (List.foldl redTurn row pre2) [q] = List.foldl redTurn row pre2 := if_neg c1'
        rw [e1]
        exact ⟨_, _, rfl⟩
    · rintro od σ' G5 H5 g5 s5 m5 ⟨x, y, rfl⟩
      have g5' : Gr G H G5 (upd H5 p (.dK kvs)) := g5.mut hp0 m5.n
      have m6 : Mu G5 (upd H5 p (.dK kvs)) p (.dK kvs) := m5.put
      have k6 := k2.mono s5
      have hclear := redOne_clear hI row
      have hfresh := @fresh_new k hI row
      have hblt := redOne_lt hklt hrow
      show tIfS _ _ _ _ [some v0, some (.ref p), some (.int (row : Int)), some (.int ((redOne k row : Nat) : Int)), x, y] _
      have hst : redStep k row = if redOne k row = 0 then k else k.map (redFix (2 ^ (redOne k row).log2) (redOne k row)) ++ [(2 ^ (redOne k row).log2, redOne k row)] := rfl
      generalize redOne k row = bt at hclear hfresh hblt hst
      refine s_if g5'.s (et_test (K := K) (ed_op (ed_var rfl (.int _)) ed_int (rd_neN (b := 0)))) (fun c1 G6 H6 g6 => ?_) (fun c1 G6 H6 g6 => ?_)
      · have hb0 : bt ≠ 0 := by simpa using c1
        rw [if_neg hb0] at hst
        refine q_set (K := K) g6.s (ed_call bt (ea_cons (ed_var rfl (.int _)) ea_nil) (by exact ⟨hb0, hblt⟩)) fun v G7 H7 g7 hd => ?_
        cases hd
        have g67 := g6.trans g7
        have m7 := m6.gr g67
        have k7 := k6.mono g67.g
        refine q_forT (Gi := G) (Hi := H) k (fun q => natD q.1) (es_list (ed_listD rfl m7.h k7)) (g5'.trans g67) (fun pre2 σ' G' H' => ∃ (kvs' : List (Key × V)) (x : Option V), σ' = [some v0, some (.ref p), some (.int (row : Int)), some (.int (bt : Int)), x, some (.int ((2 ^ bt.log2 : Nat) : Int))] ∧ Mu G' H' p (.dK kvs') ∧
          KvD K G' natD kvs' (pre2.map (redFix (2 ^ bt.log2) bt) ++ k.drop pre2.length)) (fun G' H' g' => ⟨kvs, _, rfl, m7.gr g', by rw [List.map_nil, List.nil_append, List.length_nil, List.drop_zero]; exact k7.mono g'.g⟩) ?_ ?_
        · rintro pre2 q post2 x σ' G8 H8 G9 H9 hsp2 g8 s8 ⟨kvs', x', rfl, m8, k8⟩ g9 hx
          cases hx
          have hne := split_ne hI.nd hsp2
          have hdrop : k.drop pre2.length = q :: post2 := by rw [hsp2, List.drop_left]
          have hdrop2 : k.drop (pre2 ++ [q]).length = post2 := by
            rw [hsp2, List.length_append, List.length_singleton, show pre2 ++ q :: post2 = (pre2 ++ [q]) ++ post2 by simp, show pre2.length + 1 = (pre2 ++ [q]).length by simp, List.drop_left]
          rw [hdrop] at k8
          have hne1 : ∀ y ∈ pre2.map (redFix (2 ^ bt.log2) bt), y.1 ≠ q.1 := fun y hy => by
            obtain ⟨z, hz, rfl⟩ := List.mem_map.mp hy
            exact hne.1 z hz
          have kl : (pre2.map (redFix (2 ^ bt.log2) bt) ++ q :: post2).length ≤ 40 := by
            have h2 := congrArg List.length hsp2
            simp at h2 ⊢
            omega
          have m9 := m8.gr g9
          have k9 := k8.mono g9.g
          have hv := valN_mid (post := post2) hne1
          refine g_nm (s_if g9.s (et_test (K := K) (ed_op (ed_op (ed_dget (a := q.2) rfl (.inl m9.h) k9 hv (ed_var rfl (.int _))) (ed_var rfl (.int _)) rd_andN) ed_int (rd_neN (b := 0)))) (fun c2 G10 H10 g10 => ?_) (fun c2 G10 H10 g10 => ?_))
          · have c2' : q.2 &&& 2 ^ bt.log2 ≠ 0 := by simpa using c2
            refine s_dput (K := K) (enc := natD) (x := q.1) (a := q.2 ^^^ bt) g10.s rfl (m9.gr g10) (k9.mono g10.g) (by omega) (ed_op (ed_dget (a := q.2) rfl (.inl (m9.gr g10).h) (k9.mono g10.g) hv (ed_var rfl (.int _))) (ed_var rfl (.int _)) rd_xorN) (ed_var rfl (.int _)) fun G11 H11 kvs2 g11 m11 k11 => ?_
            refine ⟨G11, (((g8.trans g9).trans g10).trans g11).mut hp0 m11.n, ((g9.trans g10).trans g11).g, kvs2, _, rfl, m11, ?_⟩
            rw [hdrop2, List.map_append, List.append_assoc]
            have e1 : redFix (2 ^ bt.log2) bt q = (q.1, q.2 ^^^ bt) := by unfold redFix; rw [if_pos c2']
            rw [List.map_singleton, e1]
            rw [putN_mid hne1 hne.2] at k11
            exact k11
          · have c2' : ¬ q.2 &&& 2 ^ bt.log2 ≠ 0 := by simpa using c2
            refine ⟨G10, (g8.trans g9).trans g10, (g9.trans g10).g, kvs', _, rfl, m9.gr g10, ?_⟩
            rw [hdrop2, List.map_append, List.append_assoc]
            have e1 : redFix (2 ^ bt.log2) bt q = q := by unfold redFix; rw [if_neg c2']
            rw [List.map_singleton, e1]
            exact k9.mono g10.g
        · rintro σ' G8 H8 g8 s8 ⟨kvs', x', rfl, m8, k8⟩
          rw [List.drop_length, List.append_nil] at k8
          refine s_dput (K := K) (enc := natD) (x := 2 ^ bt.log2) (a := bt) g8.s rfl m8 k8 (by rw [List.length_map]; omega) (ed_var rfl (.int _)) (ed_var rfl (.int _)) fun G11 H11 kvs2 g11 m11 k11 => ?_
          have sall : Same G2 G11 := ((((g3.trans g4).g.trans s5).trans g67.g).trans s8).trans g11.g
          refine ⟨G11, (g8.trans g11).mut hp0 m11.n, sall, kvs2, _, _, _, _, rfl, m11, ?_⟩
          rw [hnext, hst]
          rw [putN_new (valN_none.mpr fun y hy => by
            obtain ⟨z, hz, rfl⟩ := List.mem_map.mp hy
            exact hfresh hb0 z hz)] at k11
          exact k11
      · have hb0 : bt = 0 := by simpa using c1
        rw [if_pos hb0] at hst
        have sall : Same G2 G6 := ((g3.trans g4).g.trans s5).trans g6.g
        refine ⟨G6, g5'.trans g6, sall, kvs, _, _, _, _, rfl, m6.gr g6, ?_⟩
        rw [hnext, hst]
        exact k6.mono g6.g
  · rintro σ' G' H' g s ⟨kvs, b, c, d, e, rfl, m, k⟩
    have hI := redRun_inv a
    have hl := redRun_len a
    refine s_ret (K := K) g.s (ed_is (ed_lcA (sortN ((a.foldl redStep []).map (·.1))).reverse natD (fun f => natD ((valN (a.foldl redStep []) f).getD 0)) (es_list (ed_is (ed_revL (ed_sortedK rfl m.h k (by omega))) (by rw [← List.map_reverse]))) ?_ fun f hf x G2 H2 g2 hx => ?_) ?_) fun v G'' H'' g'' hd => q v _ _ (g.trans g'') hd
    · rw [List.length_reverse, (sortN_perm _).length_eq, List.length_map]; omega
    · cases hx
      rw [List.mem_reverse, (sortN_perm _).mem_iff, List.mem_map] at hf
      obtain ⟨fv, hm, rfl⟩ := hf
      have e1 := valN_of hI.nd (show (fv.1, fv.2) ∈ _ from hm)
      refine ⟨_, fun Q q => q, rfl, ?_⟩
      rw [e1]
      exact ed_dget (a := fv.2) rfl (.inl (m.gr g2).h) (k.mono g2.g) e1 (ed_var rfl (.int _))
    · show PyData.list _ = PyData.list ((reduced a).map natD)
      unfold reduced
      rw [List.map_map]; rfl
end
end Bw
set_option Elab.async false
set_option linter.all false
set_option maxRecDepth 100000
set_option maxHeartbeats 4000000
namespace Bw
open PySem PySem.Spec PyProof.Rows L2 Bo
section
variable {P : Program} {w : World} {K : PySem.W.Frag} {mg : Str → Option Value} {base : Heap}
-- slots of base_bits: 0 web
abbrev s_base_bits : Stmt := top 21
abbrev N_base_bits : List Str := ["web"]
theorem sc_base_bits : FnScope N_base_bits ["web"] (defScope s_base_bits) := ⟨rfl, rfl, rfl, by decide +kernel, rfl, by decide +kernel, by decide +kernel⟩
abbrev sp_base_bits (K : PySem.W.Frag) : Sp := spD (α := Nat × Ties) K (fun a => Ok a.1 a.2) (fun a => [webD a.1 a.2]) (fun a => natsL (baseBits a.1 a.2))
theorem c_base_bits {f : Addr} {fd : FuncData} (T : Txt mg) (F : Fd K mg "base_bits" s_base_bits f fd) (C_reduced_bits : Cal P w K mg base CX0 "reduced_bits" 2 ["rows"] (sp_reduced_bits K)) (C_parity_rows : Cal P w K mg base CX0 "parity_rows" 3 ["web"] (sp_parity_rows K)) : Cal P w K mg base CX0 "base_bits" 4 ["web"] (sp_base_bits K) := by
  refine okD F sc_base_bits (F.fn.binds fun _ _ _ _ _ _ us hl => match us, hl with | [_], _ => rfl) (fun _ => rfl) fun cdv A outer s H G vs a Q E hr hp hs hv q => ?_
  have nd := sc_base_bits.nd
  have hu := hr.units
  have hu1 := hu_of hr
  refine ⟨_, (pss_one (ps_ret (pe_cal C_reduced_bits (hr.mono (by decide)) rfl (pa_cons (pe_ix ix_tup (pe_cal C_parity_rows (hr.mono (by decide)) rfl (pa_cons (pv 0) pa_nil)) pe_int (fun _ _ => rfl)) pa_nil)))), ?_⟩
  obtain ⟨n, W⟩ := a
  dsimp only at hv q hp
  obtain ⟨v0, rfl, h0⟩ := dpa1 hv
  have hl := parRows_len n W
  have hn := hp.hi
  exact s_ret (K := K) hs (ed_call (parRows n W).2 (ea_cons (ed_op (ed_call (n, W) (ea_cons (ed_var rfl h0) ea_nil) hp) ed_int (rd_ixT (j := 1) rfl rfl)) ea_nil) ⟨by omega, (rowRun_lt hp.few _).2⟩) q
-- slots of few_bits: 0 web, 1 found
abbrev s_few_bits : Stmt := top 27
abbrev N_few_bits : List Str := ["web", "found"]
theorem sc_few_bits : FnScope N_few_bits ["web"] (defScope s_few_bits) := ⟨rfl, rfl, rfl, by decide +kernel, rfl, by decide +kernel, by decide +kernel⟩
abbrev sp_few_bits (K : PySem.W.Frag) : Sp := spD (α := Nat × Ties) K (fun a => Ok a.1 a.2) (fun a => [webD a.1 a.2]) (fun a => natsL (baseBits a.1 a.2))
theorem c_few_bits {f : Addr} {fd : FuncData} (T : Txt mg) (F : Fd K mg "few_bits" s_few_bits f fd) (C_base_bits : Cal P w K mg base CX0 "base_bits" 4 ["web"] (sp_base_bits K)) : Cal P w K mg base CX0 "few_bits" 5 ["web"] (sp_few_bits K) := by
  refine okD F sc_few_bits (F.fn.binds fun _ _ _ _ _ _ us hl => match us, hl with | [_], _ => rfl) (fun _ => rfl) fun cdv A outer s H G vs a Q E hr hp hs hv q => ?_
  have nd := sc_few_bits.nd
  have hu := hr.units
  have hu1 := hu_of hr
  refine ⟨_, (pss_cons (ps_set (i := 1) nd rfl (Or.inl rfl) (pe_cal C_base_bits (hr.mono (by decide)) rfl (pa_cons (pv 0) pa_nil)))
     (pss_cons (ps_if (pt_cmpR op_gt (pe_callB call_len_seq rfl T.len (by decide +kernel) (pa_cons (pv 1) pa_nil)) (pe_glob (v := .int 10) rfl T.maxGap.choose_spec ⟨_, rfl⟩) (nomark _))
     (pss_one ps_never)
     pss_nil)
     (pss_one (ps_ret (pv 1))))), ?_⟩
  obtain ⟨n, W⟩ := a
  dsimp only at hv q hp
  obtain ⟨v0, rfl, h0⟩ := dpa1 hv
  refine q_set (K := K) hs (ed_call (n, W) (ea_cons (ed_var rfl h0) ea_nil) hp) fun v G1 H1 g1 hd => ?_
  refine q_if1 g1.s (et_test (K := K) (ed_op (ed_cb (ea_cons (ed_var rfl hd) ea_nil) ra_lenL) ed_int (rd_gtN (b := 10)))) (fun c1 G2 H2 g2 => ?_) (fun c1 G2 H2 g2 => ?_)
  · have hl := baseBits_len n W
    have hn := hp.hi
    have hc := of_decide_eq_true c1
    rw [List.length_map] at hc
    dsimp only at hc
    omega
  · exact s_ret (K := K) g2.s (ed_var rfl (dp_mono g2.g _ _ hd)) fun v G3 H3 g3 hd => q v _ _ ((g1.trans g2).trans g3) hd
-- slots of columns_of: 0 web, 1 base, 2 found, 3 tie, 4 bit*, 5 place, 6 bits
abbrev s_columns_of : Stmt := top 28
abbrev N_columns_of : List Str := ["web", "base", "found", "tie", "bit", "place", "bits"]
theorem sc_columns_of : FnScope N_columns_of ["web"] (defScope s_columns_of) := ⟨rfl, rfl, rfl, by decide +kernel, rfl, by decide +kernel, by decide +kernel⟩
abbrev sp_columns_of (K : PySem.W.Frag) : Sp := spD (α := Nat × Ties) K (fun a => Ok a.1 a.2) (fun a => [webD a.1 a.2]) (fun a => natsL (columns a.1 a.2))
theorem c_columns_of {f : Addr} {fd : FuncData} (T : Txt mg) (F : Fd K mg "columns_of" s_columns_of f fd) (C_tie_bit : Cal P w K mg base CX0 "tie_bit" 1 ["web", "tie"] (sp_tie_bit K)) (C_few_bits : Cal P w K mg base CX0 "few_bits" 5 ["web"] (sp_few_bits K)) : Cal P w K mg base CX0 "columns_of" 6 ["web"] (sp_columns_of K) := by
  refine okD F sc_columns_of (F.fn.binds fun _ _ _ _ _ _ us hl => match us, hl with | [_], _ => rfl) (fun _ => rfl) fun cdv A outer s H G vs a Q E hr hp hs hv q => ?_
  have nd := sc_columns_of.nd
  have hu := hr.units
  have hu1 := hu_of hr
  refine ⟨_, (pss_cons (ps_par (i := 1) (j := 2) rfl nd rfl rfl (by decide) rfl rfl (pa_cons (pe_cal C_few_bits (hr.mono (by decide)) rfl (pa_cons (pv 0) pa_nil)) (pa_cons (pe_lst pa_nil) pa_nil)) rfl)
     (pss_cons (ps_for PassesOwn.never rfl (pi_range1 rfl T.range (pa_cons (pe_callB call_len_seq rfl T.len (by decide +kernel) (pa_cons (pe_ix ix_tup (pv 0) pe_int (fun _ _ => rfl)) pa_nil)) pa_nil)) (pg_name (i := 3) nd rfl (Or.inl rfl))
     (pss_cons (ps_set (i := 4) nd rfl (Or.inr rfl) (pe_cal C_tie_bit (hr.mono (by decide)) rfl (pa_cons (pv 0) (pa_cons (pv 3) pa_nil))))
     (pss_one (ps_expr (pe_bm PySem.F.plainAttrs_list PySem.F.slot_list_append PySem.F.type_list_append mt_append (pv 2) (pa_cons (pe_callB (cr_sum rfl) rfl T.sum (by decide +kernel) (pa_cons (pe_lc (own := [("place", 5), ("bits", 6)]) (g := gTup K 2 (gCons (gName 5) (gCons (gName 6) gNil))) (tt := tTest (tOp (rNe) (tOp (rI0 fun i j => .int (Builtin.bitAnd i j)) (tVar 6) (tVar 4)) (tC (.int 0)))) (te := tOp (rI CPow fun i j => .int (i * 2 ^ j.toNat)) (tC (.int 1)) (tVar 5)) rfl nd (pi_enum rfl T.enumerate (pa_cons (pv 1) pa_nil)) (blkOk_by (N := N_columns_of) (sc := defScope s_columns_of) (by decide +kernel)) (fun _ _ _ _ _ => (pg_tup rfl (pgs_cons (pg_name (i := 5) nd rfl (Or.inl rfl)) (pgs_cons (pg_name (i := 6) nd rfl (Or.inl rfl)) pgs_nil)))) (fun _ _ _ _ _ => (pts_one (pt_cmpR op_ne (pe_op op_and (pv 6) (pv 4)) pe_int (nomark _)))) (fun _ _ _ _ _ => (pe_op op_shl pe_int (pv 5)))) pa_nil)) pa_nil))))))
     (pss_one (ps_ret (pv 2))))), ?_⟩
  obtain ⟨n, W⟩ := a
  dsimp only at hv q hp
  obtain ⟨v0, rfl, h0⟩ := dpa1 hv
  refine q_par10 (K := K) (Gr.refl hs) (ed_call (n, W) (ea_cons (ed_var rfl h0) ea_nil) hp) fun vb p G1 H1 hb hp0 s1 g1 mp => ?_
  have hfew := hp.few
  have hrng : ES K (iRng1 (tCons (tCB (rLenS K) (tCons (tOp (rIxT K) (tVar 0) (tC (.int 1))) tNil)) tNil)) [some v0, some vb, some (.ref p), none, none, none, none] G1 H1 ((List.range W.length).map natD) := by
    rw [← intsD_zero]
    have h : ES K (iRng1 (tCons (tCB (rLenS K) (tCons (tOp (rIxT K) (tVar 0) (tC (.int 1))) tNil)) tNil)) [some v0, some vb, some (.ref p), none, none, none, none] G1 H1 (intsD 0 ((((W.map tieD).length : Nat) : Int)).toNat) :=
      es_rng1 (ea_cons (ed_cb (ea_cons (ed_op (ed_var rfl (dp_mono s1 _ _ h0)) ed_int (rd_ixT (j := 1) rfl rfl)) ea_nil) ra_lenT) ea_nil) (by omega) (by rw [List.length_map]; omega)
    rw [Int.toNat_natCast, List.length_map] at h
    exact h
  have hbl := baseBits_len n W
  refine q_forT (Gi := G) (Hi := H) (List.range W.length) natD hrng g1 (fun pre σ' G' H' => ∃ (xs : List V) (c d e f' : Option V), σ' = [some v0, some vb, some (.ref p), c, d, e, f'] ∧ Mu G' H' p (.lst xs) ∧
      DpAll K G' xs ((pre.map fun t => column (baseBits n W) (tieBit W.length t)).map natD)) (fun G' H' g' => ⟨[], _, _, _, _, rfl, mp.gr g', .nil⟩) ?_ ?_
  · rintro pre t post x σ' G2 H2 G3 H3 hsp g2 s2 ⟨xs, c, d, e, f', rfl, m1, d1⟩ g3 hx
    cases hx
    have g := g2.trans g3
    have ht : t < W.length := by
      have : t ∈ List.range W.length := by rw [hsp]; simp
      exact List.mem_range.mp this
    have hpl : pre.length ≤ 40 := by
      have h2 := congrArg List.length hsp
      simp at h2
      omega
    refine g_nm (q_set (K := K) g3.s (ed_call (n, W, t) (ea_cons (ed_var rfl (dp_mono g.g _ _ h0)) (ea_cons (ed_var rfl (.int _)) ea_nil)) (by exact ⟨ht, by show W.length ≤ 1000; omega⟩)) fun v G4 H4 g4 hd => ?_)
    cases hd
    have g34 := g3.trans g4
    have hb4 := dp_mono (s2.trans g34.g) _ _ hb
    refine s_app (K := K) g4.s rfl (m1.gr g34) (by rw [d1.len, List.length_map, List.length_map]; omega) (ed_is (ed_cb (ea_cons (ed_is (ed_lc (baseBits n W).zipIdx (fun q => .tuple [natD q.2, natD q.1]) (fun q => decide (q.1 &&& tieBit W.length t ≠ 0)) (fun q => natD (2 ^ q.2)) ?_ ?_ ?_) ?_) ea_nil) (ra_sumN (ns := ((baseBits n W).zipIdx.filter fun q => decide (q.1 &&& tieBit W.length t ≠ 0)).map fun q => 2 ^ q.2))) rfl) fun v G8 H8 g8 hd8 m8 s8 => ?_
    · rw [← numbered_map]
      exact es_enum (ea_cons (ed_var rfl hb4) ea_nil)
    · rw [List.length_zipIdx]; have := hp.hi; omega
    · rintro ⟨b, pl⟩ hmem x G' H' g' hx
      obtain ⟨u1, u2, e1, e2, gk⟩ := g_pair hx
      cases e1; cases e2
      have hpl : pl ≤ 1000 := by
        have h := List.mem_zipIdx hmem
        simp at h
        have := hp.hi
        omega
      refine ⟨_, fun Q q => gk _ _ _ _ _ g'.s q, rfl, et_test (K := K) (ed_is (ed_op (ed_op (ed_var rfl (.int _)) (ed_var rfl (.int _)) rd_andN) ed_int (rd_neN (b := 0))) ?_), fun _ => ed_is (ed_op ed_int (ed_var rfl (.int _)) (rd_shlN (a := 1) (b := pl) (by decide) (by omega))) (by rw [Nat.one_mul])⟩
      simp
    · show PyData.list _ = PyData.list ((List.map _ _).map natD)
      rw [List.map_map]; rfl
    have g48 := g34.trans g8
    refine ⟨G8, (g2.trans g48).mut hp0 m8.n, g48.g, xs ++ [v], _, _, _, _, rfl, m8, ?_⟩
    rw [List.map_append, List.map_append]
    exact (dpa_mono g48.g _ _ d1).app (.cons hd8 .nil)
  · rintro σ' G' H' g s ⟨xs, c, d, e, f', rfl, m1, d1⟩
    have g2 := g.freeze hp0 m1
    exact s_ret (K := K) g2.s (ed_var rfl (.lst (.of upd_same) (dpa_mono (same_new m1.n) _ _ d1))) fun v G'' H'' g'' hd => q v _ _ (g2.trans g'') hd
end
end Bw
set_option Elab.async false
set_option linter.all false
set_option maxRecDepth 100000
set_option maxHeartbeats 4000000
namespace Bw
open PySem PySem.Spec PyProof.Rows L2 Bo
theorem treeTurn_len (st : List Nat × List Nat) (q : (Nat × Nat) × Nat) : (treeTurn st q).2.length = st.2.length ∧ (treeTurn st q).1.length ≤ st.1.length + 1 := by
  unfold treeTurn
  dsimp only
  split
  · exact ⟨rfl, Nat.le_succ _⟩
  · simp
theorem treeRun_len (l : List ((Nat × Nat) × Nat)) : ∀ st : List Nat × List Nat, (l.foldl treeTurn st).2.length = st.2.length ∧ (l.foldl treeTurn st).1.length ≤ st.1.length + l.length := by
  induction l with
  | nil => exact fun st => ⟨rfl, Nat.le_refl _⟩
  | cons q r ih =>
    intro st
    obtain ⟨h1, h2⟩ := ih (treeTurn st q)
    obtain ⟨h3, h4⟩ := treeTurn_len st q
    rw [List.foldl_cons, List.length_cons]
    exact ⟨h1.trans h3, by omega⟩
section
variable {P : Program} {w : World} {K : PySem.W.Frag} {mg : Str → Option Value} {base : Heap}
-- slots of first_tree: 0 web, 1 found, 2 homes, 3 number, 4 one, 5 other, 6 left*, 7 right*, 8 home
abbrev s_first_tree : Stmt := top 14
abbrev N_first_tree : List Str := ["web", "found", "homes", "number", "one", "other", "left", "right", "home"]
theorem sc_first_tree : FnScope N_first_tree ["web"] (defScope s_first_tree) := ⟨rfl, rfl, rfl, by decide +kernel, rfl, by decide +kernel, by decide +kernel⟩
abbrev sp_first_tree (K : PySem.W.Frag) : Sp := spD (α := Nat × Ties) K (fun a => Ok a.1 a.2) (fun a => [webD a.1 a.2]) (fun a => natsL (firstTree a.1 a.2))
theorem c_first_tree {f : Addr} {fd : FuncData} (T : Txt mg) (F : Fd K mg "first_tree" s_first_tree f fd)  : Cal P w K mg base CX0 "first_tree" 1 ["web"] (sp_first_tree K) := by
  refine okD F sc_first_tree (F.fn.binds fun _ _ _ _ _ _ us hl => match us, hl with | [_], _ => rfl) (fun _ => rfl) fun cdv A outer s H G vs a Q E hr hp hs hv q => ?_
  have nd := sc_first_tree.nd
  have hu := hr.units
  have hu1 := hu_of hr
  refine ⟨_, (pss_cons (ps_par (i := 1) (j := 2) rfl nd rfl rfl (by decide) rfl rfl (pa_cons (pe_lst pa_nil) (pa_cons (pe_listRg rfl rfl T.list_ (prg_1 rfl T.range (pe_ix ix_tup (pv 0) pe_int (fun _ _ => rfl)))) pa_nil)) rfl)
     (pss_cons (ps_for PassesOwn.never rfl (pi_enumT rfl T.enumerate (pa_cons (pe_ix ix_tup (pv 0) pe_int (fun _ _ => rfl)) pa_nil)) (pg_tup rfl (pgs_cons (pg_name (i := 3) nd rfl (Or.inl rfl)) (pgs_cons (pg_tup rfl (pgs_cons (pg_name (i := 4) nd rfl (Or.inl rfl)) (pgs_cons (pg_name (i := 5) nd rfl (Or.inl rfl)) pgs_nil))) pgs_nil)))
     (pss_cons (ps_asg (pe_tup (pa_cons (pe_ix ix_list (pv 2) (pv 4) (fun _ _ => rfl)) (pa_cons (pe_ix ix_list (pv 2) (pv 5) (fun _ _ => rfl)) pa_nil))) (pg_tup rfl (pgs_cons (pg_name (i := 6) nd rfl (Or.inr rfl)) (pgs_cons (pg_name (i := 7) nd rfl (Or.inr rfl)) pgs_nil))))
     (pss_one (ps_if (pt_cmpR op_ne (pv 6) (pv 7) (nomark _))
     (pss_cons (ps_expr (pe_bm PySem.F.plainAttrs_list PySem.F.slot_list_append PySem.F.type_list_append mt_append (pv 1) (pa_cons (pv 3) pa_nil)))
     (pss_one (ps_setLc (i := 2) (own := [("home", 8)]) (g := gName 8) (tt := tYes) (te := tIf (tTest (tOp (rEq) (tVar 8) (tVar 7))) (tVar 6) (tVar 8)) rfl nd rfl rfl (sw_true rfl rfl rfl (by decide +kernel)) (pi_list (pv 2)) (blkOk_by (N := N_first_tree) (sc := defScope s_first_tree) (by decide +kernel)) (fun _ _ _ _ _ => (pg_name (i := 8) nd rfl (Or.inl rfl))) (fun _ _ _ _ _ => pts_nil) (fun _ _ _ _ _ => (pe_ifExp (pt_cmpR op_eq (pv 8) (pv 7) (nomark _)) (pv 6) (pv 8))))))
     pss_nil))))
     (pss_one (ps_ret (pv 1))))), ?_⟩
  obtain ⟨n, W⟩ := a
  dsimp only at hv q hp
  obtain ⟨v0, rfl, h0⟩ := dpa1 hv
  have hhi := hp.hi
  have hfew := hp.few
  refine q_par01 (K := K) (Gr.refl hs) (ed_lrg (ed_op (ed_var rfl h0) ed_int (rd_ixT (j := 0) rfl rfl)) (by omega)) fun vh p G1 H1 hh hp0 s1 g1 mp => ?_
  refine q_forT (Gi := G) (Hi := H) W.zipIdx (fun q => .tuple [natD q.2, tieD q.1]) (by
    rw [← numbered_map]
    exact es_enumT (ea_cons (ed_op (ed_var rfl (dp_mono s1 _ _ h0)) ed_int (rd_ixT (j := 1) rfl rfl)) ea_nil)) g1 (fun pre σ' G' H' => ∃ (xs : List V) (vh : V) (b c d e f' g' : Option V), σ' = [some v0, some (.ref p), some vh, b, c, d, e, f', g'] ∧ Mu G' H' p (.lst xs) ∧
      DpAll K G' xs ((pre.foldl treeTurn ([], List.range n)).1.map natD) ∧ Dp K G' vh (natsL (pre.foldl treeTurn ([], List.range n)).2)) (fun G' H' g' => ⟨[], vh, _, _, _, _, _, _, rfl, mp.gr g', .nil, dp_mono g'.g _ _ hh⟩) ?_ ?_
  · rintro pre ⟨⟨o1, o2⟩, t⟩ post x σ' G2 H2 G3 H3 hsp g2 s2 ⟨xs, vh', b, c, d, e, f', g', rfl, m1, d1, d2⟩ g3 hx
    have hmem : ((o1, o2), t) ∈ W.zipIdx := by rw [hsp]; simp
    have hmem := List.mem_zipIdx hmem
    have hweb := hp.web (o1, o2) (by
      obtain ⟨_, h2, h3⟩ := hmem
      have h3 := h3.symm
      simp at h3
      rw [← h3]
      exact List.getElem_mem _)
    obtain ⟨hw1, hw2⟩ : o1 < n ∧ o2 < n := ⟨Nat.lt_trans hweb.1 hweb.2, hweb.2⟩
    have hpl : pre.length ≤ 40 := by
      have h2 := congrArg List.length hsp
      rw [List.length_zipIdx] at h2
      simp at h2
      omega
    obtain ⟨l1, l2⟩ := treeRun_len pre ([], List.range n)
    rw [List.length_range] at l1
    have l2 : (pre.foldl treeTurn ([], List.range n)).1.length ≤ pre.length := by simpa using l2
    have hnext : (pre ++ [((o1, o2), t)]).foldl treeTurn ([], List.range n) = treeTurn (pre.foldl treeTurn ([], List.range n)) ((o1, o2), t) := by rw [List.foldl_append]; rfl
    rw [show Nx G H G2 (fun σ' G' H' => ∃ (xs : List V) (vh : V) (b c d e f' g' : Option V), σ' = [some v0, some (.ref p), some vh, b, c, d, e, f', g'] ∧ Mu G' H' p (.lst xs) ∧
      DpAll K G' xs (((pre ++ [((o1, o2), t)]).foldl treeTurn ([], List.range n)).1.map natD) ∧ Dp K G' vh (natsL ((pre ++ [((o1, o2), t)]).foldl treeTurn ([], List.range n)).2)) = Nx G H G2 (fun σ' G' H' => ∃ (xs : List V) (vh : V) (b c d e f' g' : Option V), σ' = [some v0, some (.ref p), some vh, b, c, d, e, f', g'] ∧ Mu G' H' p (.lst xs) ∧
      DpAll K G' xs ((treeTurn (pre.foldl treeTurn ([], List.range n)) ((o1, o2), t)).1.map natD) ∧ Dp K G' vh (natsL (treeTurn (pre.foldl treeTurn ([], List.range n)) ((o1, o2), t)).2)) by rw [hnext]]
    generalize pre.foldl treeTurn ([], List.range n) = st at d1 d2 l1 l2
    obtain ⟨tr, hm⟩ := st
    dsimp only at d1 d2 l1 l2
    have g := g2.trans g3
    dsimp only at hx
    refine g_tup2 g3.s hx fun u1 u2 e1 e2 => ?_
    cases e1
    refine g_un2 g3.s e2 fun v1 v2 f1 f2 => ?_
    cases f1; cases f2
    refine q_asg (K := K) g3.s (ed_tup (ea_cons (ed_op (ed_var rfl (dp_mono g3.g _ _ d2)) (ed_var rfl (.int _)) (rd_ixLn (get_nat (by omega)))) (ea_cons (ed_op (ed_var rfl (dp_mono g3.g _ _ d2)) (ed_var rfl (.int _)) (rd_ixLn (get_nat (by omega)))) ea_nil)) (by simp)) fun v G4 H4 g4 hd => ?_
    refine g_un2 g4.s hd fun v1 v2 f1 f2 => ?_
    cases f1; cases f2
    have g34 := g3.trans g4
    refine s_if g4.s (et_test (K := K) (ed_op (ed_var rfl (.int _)) (ed_var rfl (.int _)) rd_neN)) (fun c1 G5 H5 g5 => ?_) (fun c1 G5 H5 g5 => ?_)
    · have hne : ¬ hm.getD o1 0 = hm.getD o2 0 := by simpa using c1
      have g35 := g34.trans g5
      refine q_app (K := K) g5.s rfl (m1.gr g35) (by rw [d1.len, List.length_map]; omega) (ed_var rfl (.int _)) fun v G6 H6 g6 hd6 m6 s6 => ?_
      have g36 := g35.trans g6
      refine s_set (K := K) s6 (ed_lcA hm natD (fun h => natD (if h = hm.getD o2 0 then hm.getD o1 0 else h)) (es_list (ed_var rfl (dp_mono g36.g _ _ d2))) (by omega) fun h hh x G' H' g' hx => ?_) fun v G7 H7 g7 hd7 => ?_
      · cases hx
        refine ⟨_, fun Q q => q, rfl, ed_if (et_test (K := K) (ed_op (ed_var rfl (.int _)) (ed_var rfl (.int _)) rd_eqN)) (fun c2 => ?_) (fun c2 => ?_)⟩
        · rw [if_pos (of_decide_eq_true c2)]
          exact ed_var rfl (.int _)
        · rw [if_neg (of_decide_eq_false c2)]
          exact ed_var rfl (.int _)
      · have e1 : treeTurn (tr, hm) ((o1, o2), t) = (tr ++ [t], hm.map fun h => if h = hm.getD o2 0 then hm.getD o1 0 else h) := by
          unfold treeTurn
          exact if_neg hne
        rw [e1]
        have g27 : Gr G H G7 H7 := ((g2.trans g36).mut hp0 m6.n).trans g7
        refine ⟨G7, g27, (g36.g).trans g7.g, xs ++ [_], v, _, _, _, _, _, _, rfl, m6.gr g7, ?_, ?_⟩
        · rw [List.map_append]
          exact dpa_mono g7.g _ _ ((dpa_mono g36.g _ _ d1).app (.cons hd6 .nil))
        · show Dp K G7 v (.list (List.map natD (List.map _ hm)))
          rw [List.map_map]
          exact hd7
    · have hne : hm.getD o1 0 = hm.getD o2 0 := by simpa using c1
      have g35 := g34.trans g5
      have e1 : treeTurn (tr, hm) ((o1, o2), t) = (tr, hm) := by
        unfold treeTurn
        exact if_pos hne
      rw [e1]
      exact ⟨G5, g2.trans g35, g35.g, xs, vh', _, _, _, _, _, _, rfl, m1.gr g35, dpa_mono g35.g _ _ d1, dp_mono g35.g _ _ d2⟩
  · rintro σ' G' H' g s ⟨xs, vh', b, c, d, e, f', g', rfl, m1, d1, d2⟩
    have g2 := g.freeze hp0 m1
    exact s_ret (K := K) g2.s (ed_var rfl (.lst (.of upd_same) (dpa_mono (same_new m1.n) _ _ d1))) fun v G'' H'' g'' hd => q v _ _ (g2.trans g'') hd
end
end Bw
set_option Elab.async false
set_option linter.all false
set_option maxRecDepth 100000
set_option maxHeartbeats 4000000
namespace Bw
open PySem PySem.Spec PyProof.Rows L2 Bo
section
variable {P : Program} {w : World} {K : PySem.W.Frag} {mg : Str → Option Value} {base : Heap}
theorem dpa_snoc {G : Hp} {ds : List PyData} {d : PyData} : ∀ {xs : List V}, DpAll K G xs (ds ++ [d]) → ∃ ys y, xs = ys ++ [y] ∧ DpAll K G ys ds ∧ Dp K G y d := by
  induction ds with
  | nil =>
    intro xs h
    obtain ⟨v, rfl, hv⟩ := dpa1 h
    exact ⟨[], v, rfl, .nil, hv⟩
  | cons e r ih =>
    intro xs h
    cases h with
    | @cons v vs _ _ h1 h2 =>
      obtain ⟨ys, y, rfl, a, b⟩ := ih h2
      exact ⟨v :: ys, y, rfl, .cons h1 a, b⟩
/-- what way_in_tree is asked -/
structure WayAt (n : Nat) (W : Ties) (tree : List Nat) (one other : Nat) : Prop where
  ok : Ok n W
  tl : tree.length ≤ 40
  tm : ∀ t ∈ tree, t < W.length
  rn : DfsRuns W tree one other
-- slots of way_in_tree: 0 web, 1 tree, 2 one, 3 other, 4 known, 5 waiting, 6 place, 7 tie, 8 goal
abbrev s_way_in_tree : Stmt := top 15
abbrev N_way_in_tree : List Str := ["web", "tree", "one", "other", "known", "waiting", "place", "tie", "goal"]
theorem sc_way_in_tree : FnScope N_way_in_tree ["web", "tree", "one", "other"] (defScope s_way_in_tree) := ⟨rfl, rfl, rfl, by decide +kernel, rfl, by decide +kernel, by decide +kernel⟩
abbrev sp_way_in_tree (K : PySem.W.Frag) : Sp := spD (α := (Nat × Ties) × List Nat × Nat × Nat) K (fun a => WayAt a.1.1 a.1.2 a.2.1 a.2.2.1 a.2.2.2) (fun a => [webD a.1.1 a.1.2, natsL a.2.1, natD a.2.2.1, natD a.2.2.2]) (fun a => natsL (wayIn a.1.2 a.2.1 a.2.2.1 a.2.2.2))
theorem c_way_in_tree {f : Addr} {fd : FuncData} (T : Txt mg) (F : Fd K mg "way_in_tree" s_way_in_tree f fd) (C_goal_of : Cal P w K mg base CX0 "goal_of" 1 ["pair", "place"] (sp_goal_of K)) : Cal P w K mg base CX0 "way_in_tree" 2 ["web", "tree", "one", "other"] (sp_way_in_tree K) := by
  refine okD F sc_way_in_tree (F.fn.binds fun _ _ _ _ _ _ us hl => match us, hl with | [_, _, _, _], _ => rfl) (fun _ => rfl) fun cdv A outer s H G vs a Q E hr hp hs hv q => ?_
  have nd := sc_way_in_tree.nd
  have hu := hr.units
  have hu1 := hu_of hr
  refine ⟨_, (pss_cons (ps_par (i := 4) (j := 5) rfl nd rfl rfl (by decide) rfl rfl (pa_cons (pe_disp (pps_cons (pv 2) (pe_lst pa_nil) pps_nil) (by rfl) (by rfl) (fun z => by cases z) (by decide)) (pa_cons (pe_lst (pa_cons (pv 2) pa_nil)) pa_nil)) rfl)
     (pss_cons (ps_while PassesOwn.never (pt_cmp (pc_dnotin hu1 (pv 3) (pv 4)) (by rfl))
     (pss_cons (ps_set (i := 6) nd rfl (Or.inl rfl) (pe_bm0 PySem.F.plainAttrs_list PySem.F.slot_list_pop PySem.F.type_list_pop mt_pop (pv 5)))
     (pss_one (ps_for PassesOwn.never rfl (pi_list (pv 1)) (pg_name (i := 7) nd rfl (Or.inl rfl))
     (pss_one (ps_if (pt_cmpR op_in_seq (pv 6) (pe_ix ix_tup (pe_ix ix_tup (pv 0) pe_int (fun _ _ => rfl)) (pv 7) (fun _ _ => rfl)) (by rfl))
     (pss_cons (ps_set (i := 8) nd rfl (Or.inl rfl) (pe_cal C_goal_of (hr.mono (by decide)) rfl (pa_cons (pe_ix ix_tup (pe_ix ix_tup (pv 0) pe_int (fun _ _ => rfl)) (pv 7) (fun _ _ => rfl)) (pa_cons (pv 6) pa_nil))))
     (pss_one (ps_if (pt_cmp (pc_dnotin hu1 (pv 8) (pv 4)) (by rfl))
     (pss_cons (ps_dput hu1 (pv 4) (pv 8) (pe_lst (StX.pa_star (pe_dget hu1 (pv 4) (pv 6) (fun _ _ => rfl)) (pa_cons (pv 7) pa_nil))) rfl)
     (pss_one (ps_expr (pe_bm PySem.F.plainAttrs_list PySem.F.slot_list_append PySem.F.type_list_append mt_append (pv 5) (pa_cons (pv 8) pa_nil)))))
     pss_nil)))
     pss_nil))))))
     (pss_one (ps_ret (pe_dget hu1 (pv 4) (pv 3) (fun _ _ => rfl)))))), ?_⟩
  obtain ⟨⟨n, W⟩, tree, one, other⟩ := a
  dsimp only at hv q hp
  obtain ⟨v0, v1, v2, v3, rfl, h0, h1, h2, h3⟩ := dpa4 hv
  cases h2; cases h3
  obtain ⟨ok, tl, tm, m0, sE, hm0, hR⟩ := hp
  have hway : wayIn W tree one other = (valN sE.known other).getD [] := by
    unfold wayIn
    rw [hR.eq hm0]
  rw [hway] at q
  refine q_parG ?_
  refine ed_disp1 (K := K) (Gi := G) (Hi := H) (x := one) (a := ([] : List Nat)) (enc := natsL) (Gr.refl hs) (ed_var rfl (.int _)) (ed_lst ea_nil (by simp)) fun p kvs0 G1 H1 hp0 hpH g1' g1 m1 k1 => ?_
  refine ⟨_, rfl, by simp [sizeLine], fun f' hf => ⟨_, rfl, ?_⟩⟩
  have g2l := Gr.lay (o := .lst [V.int (one : Int)]) g1.s hf
  have hf0 := g1.fresh hf
  refine q_while (Gi := G) (Hi := H) (g1.trans g2l) (fun m σ' G' H' => ∃ (s : Dfs) (kvs : List (Key × V)) (xs : List V) (B : Nat) (a b c : Option V), Runs (dfsGo other) dfsOk (dfsStep W tree) m s sE ∧ σ' = [some v0, some v1, some (.int (one : Int)), some (.int (other : Int)), some (.ref p), some (.ref f'), a, b, c] ∧
      Mu G' H' p (.dK kvs) ∧ KvD K G' natsL kvs s.known ∧ Mu G' H' f' (.lst xs) ∧ DpAll K G' xs (s.waiting.map natD) ∧ DfsB s B ∧ B + 40 * m ≤ 3000) m0 ?_ ?_
  · refine ⟨_, kvs0, _, 1, none, none, none, hR, rfl, m1.gr g2l, k1, Mu.lay g1.s hf, .cons (.int _) .nil, ⟨by simp, by simp, fun kv hkv => ?_⟩, by omega⟩
    rw [List.mem_singleton.mp hkv]; simp
  · rintro m σ' G2 H2 g2 s2 ⟨s, kvs, xs, B, a, b, c, hr1, rfl, mp, kp, mf, dx, hB, hBm⟩
    have hpf : p ≠ f' := fun z => by
      have := mp.h
      rw [z, mf.h] at this
      cases this
    refine ⟨_, et_B (K := K) (ed_dnotin (x := other) rfl (.inl mp.h) kp (ed_var rfl (.int _))), fun c1 G3 H3 g3 => ?_, fun c1 G3 H3 g3 => ?_⟩
    · cases hr1 with
      | stop h => exact absurd (h.symm.trans c1) (by decide)
      | @go m' _ _ h hok hr2 =>
        obtain ⟨ws, pl, pth, e1, e2⟩ := hok
        obtain ⟨kn, wt⟩ := s
        dsimp only at e1 e2 kp dx
        subst e1
        have mp3 := mp.gr g3
        have mf3 := mf.gr g3
        have kp3 := kp.mono g3.g
        have dx3 := dpa_mono g3.g _ _ dx
        rw [List.map_append] at dx3
        obtain ⟨ys, y, rfl, dy, hy⟩ := dpa_snoc dx3
        cases hy
        have hstep : dfsStep W tree ⟨kn, ws ++ [pl]⟩ = tree.foldl (dfsTurn W pl) ⟨kn, ws⟩ := by
          unfold dfsStep
          simp
        rw [hstep] at hr2
        refine q_pop (K := K) g3.s rfl mf3 fun s4 m4 => ?_
        have g4 : Gr G H G3 (upd H3 f' (.lst ys)) := (g2.trans g3).mut hf0 mf3.n
        refine s_forT (Gi := G) (Hi := H) tree natD (es_list (ed_var rfl (dp_mono (((g1.g).trans s2).trans g3.g) _ _ h1))) g4 (fun pre σ' G' H' => ∃ (kvs : List (Key × V)) (xs : List V) (b c : Option V), σ' = [some v0, some v1, some (.int (one : Int)), some (.int (other : Int)), some (.ref p), some (.ref f'), some (.int (pl : Int)), b, c] ∧
          Mu G' H' p (.dK kvs) ∧ KvD K G' natsL kvs (pre.foldl (dfsTurn W pl) ⟨kn, ws⟩).known ∧ Mu G' H' f' (.lst xs) ∧ DpAll K G' xs ((pre.foldl (dfsTurn W pl) ⟨kn, ws⟩).waiting.map natD)) (fun G' H' g' => ⟨kvs, ys, _, _, rfl, (mp3.ne hpf).gr g', kp3.mono g'.g, m4.gr g', dpa_mono g'.g _ _ dy⟩) ?_ ?_
        · rintro pre t post x σ' G5 H5 G6 H6 hsp g5 s5 ⟨kvs, xs, b, c, rfl, mp5, kp5, mf5, dx5⟩ g6 hx
          cases hx
          have ht : t < W.length := tm t (by rw [hsp]; simp)
          have hprel : pre.length < 40 := by
            have h2 := congrArg List.length hsp
            simp at h2
            omega
          have hv1 : valN (pre.foldl (dfsTurn W pl) ⟨kn, ws⟩).known pl = some pth := dfsFold_val pre e2
          have hB1 : DfsB (pre.foldl (dfsTurn W pl) ⟨kn, ws⟩) (B + pre.length) := dfsFold_B pre ⟨hB.k, by have := hB.w; simp at this; exact Nat.le_of_succ_le this, hB.p⟩
          have hnext : (pre ++ [t]).foldl (dfsTurn W pl) ⟨kn, ws⟩ = dfsTurn W pl (pre.foldl (dfsTurn W pl) ⟨kn, ws⟩) t := by rw [List.foldl_append]; rfl
          rw [show Nx G H G5 (fun σ' G' H' => ∃ (kvs : List (Key × V)) (xs : List V) (b c : Option V), σ' = [some v0, some v1, some (.int (one : Int)), some (.int (other : Int)), some (.ref p), some (.ref f'), some (.int (pl : Int)), b, c] ∧
          Mu G' H' p (.dK kvs) ∧ KvD K G' natsL kvs ((pre ++ [t]).foldl (dfsTurn W pl) ⟨kn, ws⟩).known ∧ Mu G' H' f' (.lst xs) ∧ DpAll K G' xs (((pre ++ [t]).foldl (dfsTurn W pl) ⟨kn, ws⟩).waiting.map natD)) = Nx G H G5 (fun σ' G' H' => ∃ (kvs : List (Key × V)) (xs : List V) (b c : Option V), σ' = [some v0, some v1, some (.int (one : Int)), some (.int (other : Int)), some (.ref p), some (.ref f'), some (.int (pl : Int)), b, c] ∧
          Mu G' H' p (.dK kvs) ∧ KvD K G' natsL kvs (dfsTurn W pl (pre.foldl (dfsTurn W pl) ⟨kn, ws⟩) t).known ∧ Mu G' H' f' (.lst xs) ∧ DpAll K G' xs ((dfsTurn W pl (pre.foldl (dfsTurn W pl) ⟨kn, ws⟩) t).waiting.map natD)) by rw [hnext]]
          generalize pre.foldl (dfsTurn W pl) ⟨kn, ws⟩ = st at kp5 dx5 hv1 hB1
          obtain ⟨k1, w1⟩ := st
          dsimp only at kp5 dx5 hv1
          have hBk := hB1.k
          have hBw := hB1.w
          have hBp := hB1.p _ (valN_mem hv1)
          dsimp only at hBk hBw hBp
          have g56 := g5.trans g6
          have w6 : ED K (tOp (rIxT K) (tOp (rIxT K) (tVar 0) (tC (.int 1))) (tVar 7)) [some v0, some v1, some (.int (one : Int)), some (.int (other : Int)), some (.ref p), some (.ref f'), some (.int (pl : Int)), some (.int (t : Int)), c] G6 H6 (tieD (ends W t)) :=
            ed_op (ed_op (ed_var rfl (dp_mono g56.g _ _ h0)) ed_int (rd_ixT (j := 1) rfl rfl)) (ed_var rfl (.int _)) (rd_ixTn (get_tie ht))
          refine g_nm (s_if g6.s (et_test (K := K) (ed_op (ed_var rfl (.int _)) w6 (rd_inTN (ns := [(ends W t).1, (ends W t).2])))) (fun c2 G7 H7 g7 => ?_) (fun c2 G7 H7 g7 => ?_))
          · have c2' : pl = (ends W t).1 ∨ pl = (ends W t).2 := by simpa using c2
            refine q_set (K := K) g7.s (ed_call (ends W t, pl) (ea_cons (w6.mono g7) (ea_cons (ed_var rfl (.int _)) ea_nil)) trivial) fun v G8 H8 g8 hd => ?_
            cases hd
            have g68 := (g6.trans g7).trans g8
            have mp8 := mp5.gr g68
            have kp8 := kp5.mono g68.g
            refine s_if g8.s (et_B (K := K) (ed_dnotin (x := goalOf (ends W t) pl) rfl (.inl mp8.h) kp8 (ed_var rfl (.int _)))) (fun c3 G9 H9 g9 => ?_) (fun c3 G9 H9 g9 => ?_)
            · have c3' : valN k1 (goalOf (ends W t) pl) = none := by simpa using c3
              have hturn : dfsTurn W pl ⟨k1, w1⟩ t = ⟨k1 ++ [(goalOf (ends W t) pl, pth ++ [t])], w1 ++ [goalOf (ends W t) pl]⟩ := by
                unfold dfsTurn
                rw [if_pos c2', if_pos c3', hv1]; rfl
              rw [hturn]
              have g69 := g68.trans g9
              have mp9 := mp5.gr g69
              have kp9 := kp5.mono g69.g
              refine q_dput (K := K) (enc := natsL) (x := goalOf (ends W t) pl) (a := pth ++ [t]) g9.s rfl mp9 kp9 (by omega) (ed_is (ed_lst (ea_starL (ed_dget (a := pth) rfl (.inl mp9.h) kp9 hv1 (ed_var rfl (.int _))) (ea_cons (ed_var rfl (.int _)) ea_nil)) (by simp; omega)) (by simp)) (ed_var rfl (.int _)) fun G10 H10 kvs2 g10 m10 k10 => ?_
              have g610 := g69.trans g10
              have mf10 := mf5.gr g610
              have hm10 : Gr G H G10 (upd H10 p (.dK kvs2)) := (g5.trans g610).mut hp0 m10.n
              refine s_app (K := K) hm10.s rfl (mf10.ne (Ne.symm hpf)) (by rw [dx5.len, List.length_map]; omega) (ed_var rfl (.int _)) fun v G11 H11 g11 hd11 m11 s11 => ?_
              refine ⟨G11, (hm10.trans g11).mut hf0 m11.n, g610.g.trans g11.g, kvs2, _, _, _, rfl, (m10.gr g11).ne hpf, ?_, m11, ?_⟩
              · rw [putN_new c3'] at k10
                exact k10.mono g11.g
              · rw [List.map_append]
                exact (dpa_mono (g610.g.trans g11.g) _ _ dx5).app (.cons hd11 .nil)
            · have c3' : ¬ valN k1 (goalOf (ends W t) pl) = none := by
                intro z
                rw [z] at c3
                exact absurd c3 (by decide)
              have hturn : dfsTurn W pl ⟨k1, w1⟩ t = ⟨k1, w1⟩ := by
                unfold dfsTurn
                rw [if_pos c2', if_neg c3']
              rw [hturn]
              have g69 := g68.trans g9
              exact ⟨G9, g5.trans g69, g69.g, kvs, xs, _, _, rfl, mp5.gr g69, kp5.mono g69.g, mf5.gr g69, dpa_mono g69.g _ _ dx5⟩
          · have c2' : ¬ (pl = (ends W t).1 ∨ pl = (ends W t).2) := by simpa using c2
            have hturn : dfsTurn W pl ⟨k1, w1⟩ t = ⟨k1, w1⟩ := by
              unfold dfsTurn
              rw [if_neg c2']
            rw [hturn]
            have g67 := g6.trans g7
            exact ⟨G7, g5.trans g67, g67.g, kvs, xs, _, _, rfl, mp5.gr g67, kp5.mono g67.g, mf5.gr g67, dpa_mono g67.g _ _ dx5⟩
        · rintro σ' G5 H5 g5 s5 ⟨kvs, xs, b, c, rfl, mp5, kp5, mf5, dx5⟩
          have hBF := dfsFold_B (T := W) (p := pl) tree (s := ⟨kn, ws⟩) (B := B) ⟨hB.k, by have := hB.w; simp at this; exact Nat.le_of_succ_le this, hB.p⟩
          exact ⟨G5, g5, g3.g.trans s5, m', Nat.lt_succ_self _, _, kvs, xs, B + 40, _, _, _, hr2, rfl, mp5, kp5, mf5, dx5, hBF.le (by omega), by omega⟩
    · have hE : s = sE := by
        cases hr1 with
        | stop h => rfl
        | go h _ _ => exact absurd (h.symm.trans c1) (by decide)
      subst hE
      obtain ⟨l, hl⟩ : ∃ l, valN s.known other = some l := by
        cases e : valN s.known other with
        | none =>
          have c1' : (valN s.known other).isNone = false := c1
          rw [e] at c1'
          cases c1'
        | some l => exact ⟨l, rfl⟩
      rw [hl] at q
      have mp3 := mp.gr g3
      exact s_ret (K := K) g3.s (ed_dget (a := l) rfl (.inl mp3.h) (kp.mono g3.g) hl (ed_var rfl (.int _))) fun v G'' H'' g'' hd => q v _ _ ((g2.trans g3).trans g'') hd
end
end Bw
set_option Elab.async false
set_option linter.all false
set_option maxRecDepth 100000
set_option maxHeartbeats 4000000
namespace Bw
open PySem PySem.Spec PyProof.Rows L2 Bo
theorem zip_ends {W : Ties} {e : Nat × Nat} {t : Nat} (h : (e, t) ∈ W.zipIdx) : t < W.length ∧ ends W t = e := by
  have h := List.mem_zipIdx h
  obtain ⟨_, h2, h3⟩ := h
  simp at h2 h3
  refine ⟨h2, ?_⟩
  unfold ends
  rw [List.getD_eq_getElem?_getD, List.getElem?_eq_getElem h2, h3]
  rfl
theorem firstTree_len {n : Nat} {W : Ties} : (firstTree n W).length ≤ W.length := by
  have h := (treeRun_len W.zipIdx ([], List.range n)).2
  rw [List.length_zipIdx] at h
  unfold firstTree treeRun
  simpa using h
theorem firstTree_lt {n : Nat} {W : Ties} : ∀ t ∈ firstTree n W, t < W.length := by
  have key : ∀ (l : List ((Nat × Nat) × Nat)) (st : List Nat × List Nat) (t : Nat), t ∈ (l.foldl treeTurn st).1 → t ∈ st.1 ∨ ∃ q ∈ l, q.2 = t := by
    intro l
    induction l with
    | nil => exact fun st t h => .inl h
    | cons q r ih =>
      intro st t h
      rcases ih _ t h with z | ⟨q', h1, h2⟩
      · unfold treeTurn at z
        dsimp only at z
        split at z
        · exact .inl z
        · rcases List.mem_append.mp z with y | y
          · exact .inl y
          · exact .inr ⟨q, List.mem_cons_self .., (List.mem_singleton.mp y).symm⟩
      · exact .inr ⟨q', List.mem_cons_of_mem _ h1, h2⟩
  intro t ht
  rcases key _ _ t ht with z | ⟨q, hq, rfl⟩
  · simp at z
  · exact (zip_ends hq).1
section
variable {P : Program} {w : World} {K : PySem.W.Frag} {mg : Str → Option Value} {base : Heap}
-- slots of tree_rounds: 0 web, 1 tree, 2 found, 3 number, 4 one, 5 other
abbrev s_tree_rounds : Stmt := top 16
abbrev N_tree_rounds : List Str := ["web", "tree", "found", "number", "one", "other"]
theorem sc_tree_rounds : FnScope N_tree_rounds ["web"] (defScope s_tree_rounds) := ⟨rfl, rfl, rfl, by decide +kernel, rfl, by decide +kernel, by decide +kernel⟩
abbrev sp_tree_rounds (K : PySem.W.Frag) : Sp := spD (α := Nat × Ties) K (fun a => Ok a.1 a.2 ∧ TreeOk a.1 a.2) (fun a => [webD a.1 a.2]) (fun a => .tuple ((treeRounds a.1 a.2).map natsT))
theorem c_tree_rounds {f : Addr} {fd : FuncData} (T : Txt mg) (F : Fd K mg "tree_rounds" s_tree_rounds f fd) (C_first_tree : Cal P w K mg base CX0 "first_tree" 1 ["web"] (sp_first_tree K)) (C_way_in_tree : Cal P w K mg base CX0 "way_in_tree" 2 ["web", "tree", "one", "other"] (sp_way_in_tree K)) : Cal P w K mg base CX0 "tree_rounds" 3 ["web"] (sp_tree_rounds K) := by
  refine okD F sc_tree_rounds (F.fn.binds fun _ _ _ _ _ _ us hl => match us, hl with | [_], _ => rfl) (fun _ => rfl) fun cdv A outer s H G vs a Q E hr hp hs hv q => ?_
  have nd := sc_tree_rounds.nd
  have hu := hr.units
  have hu1 := hu_of hr
  refine ⟨_, (pss_cons (ps_par (i := 1) (j := 2) rfl nd rfl rfl (by decide) rfl rfl (pa_cons (pe_cal C_first_tree (hr.mono (by decide)) rfl (pa_cons (pv 0) pa_nil)) (pa_cons (pe_lst pa_nil) pa_nil)) rfl)
     (pss_cons (ps_for PassesOwn.never rfl (pi_enumT rfl T.enumerate (pa_cons (pe_ix ix_tup (pv 0) pe_int (fun _ _ => rfl)) pa_nil)) (pg_tup rfl (pgs_cons (pg_name (i := 3) nd rfl (Or.inl rfl)) (pgs_cons (pg_tup rfl (pgs_cons (pg_name (i := 4) nd rfl (Or.inl rfl)) (pgs_cons (pg_name (i := 5) nd rfl (Or.inl rfl)) pgs_nil))) pgs_nil)))
     (pss_one (ps_if (pt_cmpR op_notIn_seq (pv 3) (pv 1) (by rfl))
     (pss_one (ps_expr (pe_bm PySem.F.plainAttrs_list PySem.F.slot_list_append PySem.F.type_list_append mt_append (pv 2) (pa_cons (pe_callTy call_tuple_of rfl T.tuple_ (by decide +kernel) (pa_cons (pe_callB cr_sortedI rfl T.sorted (by decide +kernel) (pa_cons (pe_lst (pa_cons (pv 3) (StX.pa_star (pe_cal C_way_in_tree (hr.mono (by decide)) rfl (pa_cons (pv 0) (pa_cons (pv 1) (pa_cons (pv 4) (pa_cons (pv 5) pa_nil))))) pa_nil))) pa_nil)) pa_nil)) pa_nil))))
     pss_nil)))
     (pss_one (ps_ret (pe_callTy call_tuple_of rfl T.tuple_ (by decide +kernel) (pa_cons (pv 2) pa_nil)))))), ?_⟩
  obtain ⟨n, W⟩ := a
  dsimp only at hv q hp
  obtain ⟨v0, rfl, h0⟩ := dpa1 hv
  obtain ⟨ok, tok⟩ := hp
  have hfew := ok.few
  refine q_par10 (K := K) (Gr.refl hs) (ed_call (n, W) (ea_cons (ed_var rfl h0) ea_nil) ok) fun vt p G1 H1 ht hp0 s1 g1 mp => ?_
  have hftl : (firstTree n W).length ≤ 40 := Nat.le_trans firstTree_len hfew
  refine q_forT (Gi := G) (Hi := H) W.zipIdx (fun q => .tuple [natD q.2, tieD q.1]) (by
    rw [← numbered_map]
    exact es_enumT (ea_cons (ed_op (ed_var rfl (dp_mono s1 _ _ h0)) ed_int (rd_ixT (j := 1) rfl rfl)) ea_nil)) g1 (fun pre σ' G' H' => ∃ (xs : List V) (b c d : Option V), σ' = [some v0, some vt, some (.ref p), b, c, d] ∧ Mu G' H' p (.lst xs) ∧
      DpAll K G' xs (((pre.filter fun q => decide (q.2 ∉ firstTree n W)).map fun q => sortN (q.2 :: wayIn W (firstTree n W) q.1.1 q.1.2)).map natsT)) (fun G' H' g' => ⟨[], _, _, _, rfl, mp.gr g', .nil⟩) ?_ ?_
  · rintro pre ⟨⟨o1, o2⟩, t⟩ post x σ' G2 H2 G3 H3 hsp g2 s2 ⟨xs, b, c, d, rfl, m1, d1⟩ g3 hx
    have hmem : ((o1, o2), t) ∈ W.zipIdx := by rw [hsp]; simp
    obtain ⟨htl, hte⟩ := zip_ends hmem
    have hpl : pre.length ≤ 40 := by
      have h2 := congrArg List.length hsp
      rw [List.length_zipIdx] at h2
      simp at h2
      omega
    dsimp only at hx
    refine g_tup2 g3.s hx fun u1 u2 e1 e2 => ?_
    cases e1
    refine g_un2 g3.s e2 fun v1 v2 f1 f2 => ?_
    cases f1; cases f2
    have g13 : Same G1 G3 := s2.trans g3.g
    refine s_if g3.s (et_test (K := K) (ed_op (ed_var rfl (.int _)) (ed_var rfl (dp_mono g13 _ _ ht)) (rd_inLN (neg := true)))) (fun c1 G4 H4 g4 => ?_) (fun c1 G4 H4 g4 => ?_)
    · have hnt : t ∉ firstTree n W := by simpa using c1
      have g34 := g3.trans g4
      have hruns := tok t htl hnt
      rw [hte] at hruns
      dsimp only at hruns
      have hwl := wayIn_len hruns hftl
      refine s_app (K := K) g4.s rfl (m1.gr g34) ?_ (d := natsT (sortN (t :: wayIn W (firstTree n W) o1 o2))) (ed_cb (ea_cons (ed_cb (ea_cons (ed_is (ed_lst (ea_cons (ed_var rfl (.int _)) (ea_starL (ed_call ((n, W), firstTree n W, o1, o2) (ea_cons (ed_var rfl (dp_mono (s1.trans (g13.trans g4.g)) _ _ h0)) (ea_cons (ed_var rfl (dp_mono (g13.trans g4.g) _ _ ht)) (ea_cons (ed_var rfl (.int _)) (ea_cons (ed_var rfl (.int _)) ea_nil)))) (by exact ⟨ok, hftl, firstTree_lt, hruns⟩)) ea_nil)) (by simp; omega)) (show _ = natsL (t :: wayIn W (firstTree n W) o1 o2) by simp)) ea_nil) ra_sortedI) ea_nil) ra_tupL) fun v G5 H5 g5 hd5 m5 s5 => ?_
      · rw [d1.len, List.length_map, List.length_map]
        have := List.length_filter_le (fun q : (Nat × Nat) × Nat => decide (q.2 ∉ firstTree n W)) pre
        omega
      · have g35 := g34.trans g5
        refine ⟨G5, (g2.trans g35).mut hp0 m5.n, g35.g, xs ++ [v], _, _, _, rfl, m5, ?_⟩
        rw [List.filter_append, List.filter_cons, if_pos (by simpa using hnt), List.map_append, List.map_append]
        exact (dpa_mono g35.g _ _ d1).app (.cons hd5 .nil)
    · have hnt : t ∈ firstTree n W := by simpa using c1
      have g34 := g3.trans g4
      refine ⟨G4, g2.trans g34, g34.g, xs, _, _, _, rfl, m1.gr g34, ?_⟩
      rw [List.filter_append, List.filter_cons, if_neg (by simpa using hnt), List.filter_nil, List.append_nil]
      exact dpa_mono g34.g _ _ d1
  · rintro σ' G' H' g s ⟨xs, b, c, d, rfl, m1, d1⟩
    have g2 := g.freeze hp0 m1
    exact s_ret (K := K) g2.s (ed_cb (ea_cons (ed_var rfl (.lst (.of upd_same) (dpa_mono (same_new m1.n) _ _ d1))) ea_nil) ra_tupL) fun v G'' H'' g'' hd => q v _ _ (g2.trans g'') hd
end
end Bw
set_option Elab.async false
set_option linter.all false
set_option maxRecDepth 100000
set_option maxHeartbeats 4000000
namespace Bw
open PySem PySem.Spec PyProof.Rows L2 Bo
def cutD : Option (List Nat) → PyData
  | none => .none
  | some l => natsT l
section
variable {P : Program} {w : World} {K : PySem.W.Frag} {mg : Str → Option Value} {base : Heap}
-- slots of thin_cut: 0 web, 1 lots, 2 met, 3 tie*, 4 marks, 5 lot
abbrev s_thin_cut : Stmt := top 23
abbrev N_thin_cut : List Str := ["web", "lots", "met", "tie", "marks", "lot"]
theorem sc_thin_cut : FnScope N_thin_cut ["web"] (defScope s_thin_cut) := ⟨rfl, rfl, rfl, by decide +kernel, rfl, by decide +kernel, by decide +kernel⟩
abbrev sp_thin_cut (K : PySem.W.Frag) : Sp := spD (α := Nat × Ties) K (fun a => Ok a.1 a.2 ∧ TreeOk a.1 a.2) (fun a => [webD a.1 a.2]) (fun a => cutD (thinCut a.1 a.2))
theorem c_thin_cut {f : Addr} {fd : FuncData} (T : Txt mg) (F : Fd K mg "thin_cut" s_thin_cut f fd) (C_tree_rounds : Cal P w K mg base CX0 "tree_rounds" 3 ["web"] (sp_tree_rounds K)) : Cal P w K mg base CX0 "thin_cut" 4 ["web"] (sp_thin_cut K) := by
  refine okD F sc_thin_cut (F.fn.binds fun _ _ _ _ _ _ us hl => match us, hl with | [_], _ => rfl) (fun _ => rfl) fun cdv A outer s H G vs a Q E hr hp hs hv q => ?_
  have nd := sc_thin_cut.nd
  have hu := hr.units
  have hu1 := hu_of hr
  refine ⟨_, (pss_cons (ps_par (i := 1) (j := 2) rfl nd rfl rfl (by decide) rfl rfl (pa_cons (pe_cal C_tree_rounds (hr.mono (by decide)) rfl (pa_cons (pv 0) pa_nil)) (pa_cons pe_newM pa_nil)) rfl)
     (pss_cons (ps_for PassesOwn.never rfl (pi_range1 rfl T.range (pa_cons (pe_callB call_len_seq rfl T.len (by decide +kernel) (pa_cons (pe_ix ix_tup (pv 0) pe_int (fun _ _ => rfl)) pa_nil)) pa_nil)) (pg_name (i := 3) nd rfl (Or.inr rfl))
     (pss_cons (ps_set (i := 4) nd rfl (Or.inl rfl) (pe_callTy call_tuple_of rfl T.tuple_ (by decide +kernel) (pa_cons (pe_lc (own := [("lot", 5)]) (g := gName 5) (tt := tYes) (te := tOp (rIn K false) (tVar 3) (tVar 5)) rfl nd (pi_tup (pv 1)) (blkOk_by (N := N_thin_cut) (sc := defScope s_thin_cut) (by decide +kernel)) (fun _ _ _ _ _ => (pg_name (i := 5) nd rfl (Or.inl rfl))) (fun _ _ _ _ _ => pts_nil) (fun _ _ _ _ _ => (pe_cmpR op_in_seq (pv 3) (pv 5) (by rfl)))) pa_nil)))
     (pss_cons (ps_if (pt_not (pt_val (pe_callB (cr_anyT rfl) rfl T.any (by decide +kernel) (pa_cons (pv 4) pa_nil))))
     (pss_one (ps_ret (pe_tup (pa_cons (pv 3) pa_nil))))
     pss_nil)
     (pss_cons (ps_if (pt_cmp (pc_min hu1 (pv 4) (pv 2)) (by rfl))
     (pss_one (ps_ret (pe_tup (pa_cons (pe_mget hu1 (pv 2) (pv 4) (fun _ _ => rfl)) (pa_cons (pv 3) pa_nil)))))
     pss_nil)
     (pss_one (ps_mput hu1 (pv 2) (pv 4) (pv 3) rfl))))))
     (pss_one (ps_ret pe_non)))), ?_⟩
  obtain ⟨n, W⟩ := a
  dsimp only at hv q hp
  obtain ⟨v0, rfl, h0⟩ := dpa1 hv
  have hfew := hp.1.few
  have hlots : (treeRounds n W).length ≤ 40 := by
    unfold treeRounds
    rw [List.length_map]
    refine Nat.le_trans (List.length_filter_le _ _) ?_
    rw [List.length_zipIdx]
    exact hfew
  refine q_parM (P := P) (w := w) (K := K) (Gi := G) (Hi := H) (Gr.refl hs) (ed_call (n, W) (ea_cons (ed_var rfl h0) ea_nil) hp) fun vl p G1 H1 hl hp0 s1 g1 mp => ?_
  unfold thinCut at q
  generalize treeRounds n W = lots at hl hlots q
  have hrng : ES K (iRng1 (tCons (tCB (rLenS K) (tCons (tOp (rIxT K) (tVar 0) (tC (.int 1))) tNil)) tNil)) [some v0, some vl, some (.ref p), none, none, none] G1 H1 ((List.range W.length).map natD) := by
    rw [← intsD_zero]
    have h : ES K (iRng1 (tCons (tCB (rLenS K) (tCons (tOp (rIxT K) (tVar 0) (tC (.int 1))) tNil)) tNil)) [some v0, some vl, some (.ref p), none, none, none] G1 H1 (intsD 0 ((((W.map tieD).length : Nat) : Int)).toNat) :=
      es_rng1 (ea_cons (ed_cb (ea_cons (ed_op (ed_var rfl (dp_mono s1 _ _ h0)) ed_int (rd_ixT (j := 1) rfl rfl)) ea_nil) ra_lenT) ea_nil) (by omega) (by rw [List.length_map]; omega)
    rw [Int.toNat_natCast, List.length_map] at h
    exact h
  refine q_forT (Gi := G) (Hi := H) (List.range W.length) natD hrng g1 (fun pre σ' G' H' => ∃ (kvs : Met) (c d e : Option V), σ' = [some v0, some vl, some (.ref p), c, d, e] ∧ Mu G' H' p (metO P w p kvs) ∧ MetKeys K G' kvs ∧ kvs.length ≤ pre.length ∧
      thinGo lots W.length 0 [] = thinGo lots (W.length - pre.length) pre.length (bareM kvs)) (fun G' H' g' => ⟨[], _, _, _, rfl, mp.gr g', (fun e he => nomatch he), Nat.le_refl _, rfl⟩) ?_ ?_
  · rintro pre t post x σ' G2 H2 G3 H3 hsp g2 s2 ⟨kvs, c, d, e, rfl, m1, k1, l1, e1⟩ g3 hx
    cases hx
    have htp : t = pre.length := by
      have h2 : (List.range W.length)[pre.length]? = some t := by rw [hsp]; simp
      have h3 := (List.getElem?_eq_some_iff.mp h2).2
      simpa using h3.symm
    have hlt : pre.length < W.length := by
      have h2 := congrArg List.length hsp
      simp at h2
      omega
    rw [← htp] at l1 e1 hlt
    have ek : W.length - t = (W.length - (t + 1)) + 1 := by omega
    rw [ek] at e1
    have g := g2.trans g3
    have g13 : Same G1 G3 := s2.trans g3.g
    refine g_nm (q_set (K := K) g3.s (d := .tuple ((marksOf lots t).map PyData.bool)) (ed_cb (ea_cons (ed_is (ed_lcA lots natsT (fun l => .bool (decide (t ∈ l))) (es_tup (ed_var rfl (dp_mono g13 _ _ hl))) (by omega) fun l hl2 x G' H' g' hx => ?_) ?_) ea_nil) ra_tupL) fun v4 G4 H4 g4 hd => ?_)
    · exact ⟨_, fun Q q => q, rfl, ed_is (ed_op (ed_var rfl (.int _)) (ed_var rfl hx) rd_inTN) rfl⟩
    · unfold marksOf
      rw [List.map_map]; rfl
    have g34 := g3.trans g4
    have hany : ET (tNot (tB (tCB (rAnyT K) (tCons (tVar 4) tNil)))) [some v0, some vl, some (.ref p), some (.int (t : Int)), some v4, e] G4 H4 (!((marksOf lots t).any id)) := et_not (et_B (K := K) (ed_cb (ea_cons (ed_var rfl hd) ea_nil) ra_anyT))
    refine q_if1 g4.s hany (fun c1 G5 H5 g5 => ?_) (fun c1 G5 H5 g5 => ?_)
    · have c1' : (marksOf lots t).any id = false := by
        cases z : (marksOf lots t).any id with
        | false => rfl
        | true => rw [z] at c1; cases c1
      have e2 : thinGo lots W.length 0 [] = some [t] := by
        rw [e1]
        unfold thinGo
        rw [if_pos c1']
      rw [e2] at q
      exact s_ret (K := K) g5.s (ed_tup (ea_cons (ed_var rfl (.int _)) ea_nil) (by simp)) fun v G6 H6 g6 hd6 => q v G6 H6 (((g2.trans g34).trans g5).trans g6) hd6
    · have c1' : ¬ (marksOf lots t).any id = false := by
        intro z
        rw [z] at c1
        cases c1
      have g35 := g34.trans g5
      have m5 := m1.gr g35
      have k5 := k1.mono g35.g
      have h4 := dp_mono g5.g _ _ hd
      refine q_if1 g5.s (et_B (K := K) (ed_min (k := marksOf lots t) rfl m5.h k5 (ed_var rfl h4))) (fun c2 G6 H6 g6 => ?_) (fun c2 G6 H6 g6 => ?_)
      · obtain ⟨u, hu⟩ := Option.isSome_iff_exists.mp c2
        have e2 : thinGo lots W.length 0 [] = some [u, t] := by
          rw [e1]
          unfold thinGo
          rw [if_neg c1', hu]
        rw [e2] at q
        exact s_ret (K := K) g6.s (ed_tup (ea_cons (ed_mget rfl (m5.gr g6).h (k5.mono g6.g) hu (ed_var rfl (dp_mono g6.g _ _ h4))) (ea_cons (ed_var rfl (.int _)) ea_nil)) (by simp)) fun v G7 H7 g7 hd7 => q v G7 H7 (((g2.trans g35).trans g6).trans g7) hd7
      · have hu : valB (bareM kvs) (marksOf lots t) = none := Option.isSome_eq_false_iff.mp c2 |> Option.isNone_iff_eq_none.mp
        have g36 := g35.trans g6
        refine s_mput (K := K) (n := t) g6.s rfl (m5.gr g6) (k5.mono g6.g) (by omega) hu (ed_var rfl (.int _)) (ed_var rfl (dp_mono g6.g _ _ h4)) fun G7 H7 b g7 m7 k7 => ?_
        have g37 := g36.trans g7
        refine ⟨G7, (g2.trans g37).mut hp0 m7.n, g37.g, _, _, _, _, rfl, m7, k7, by rw [List.length_append, List.length_append]; simp only [List.length_singleton]; omega, ?_⟩
        rw [e1]
        conv => lhs; unfold thinGo
        rw [if_neg c1', hu]
        simp [htp]
  · rintro σ' G' H' g s ⟨kvs, c, d, e, rfl, m1, k1, l1, e1⟩
    rw [List.length_range, Nat.sub_self] at e1
    rw [show thinGo lots W.length 0 [] = none from e1] at q
    exact s_ret (K := K) g.s ed_non fun v G'' H'' g'' hd => q v _ _ (g.trans g'') hd
end
end Bw
set_option Elab.async false
set_option linter.all false
set_option maxRecDepth 100000
set_option maxHeartbeats 4000000
namespace Bw
open PySem PySem.Spec PyProof.Rows L2 Bo
abbrev s_thin_init : Stmt := inClass (top 3) 0
abbrev N_thin_init : List Str := ["self", "lot"]
theorem sc_thin_init : FnScope N_thin_init ["self", "lot"] (defScope s_thin_init) := ⟨rfl, rfl, rfl, by decide +kernel, rfl, by decide +kernel, by decide +kernel⟩
/-- what the written part says of Thin, at TH, and its __init__, at fI -/
structure ThK (K : PySem.W.Frag) (mg : Str → Option Value) (BE TH fI : Addr) (fd : FuncData) : Prop where
  be : BeK K mg "BothError" BE
  mTH : mg "Thin" = some (.ref TH)
  T : OexC K TH
  noLot : PySem.W.findIn K (.ref TH) "lot" = some none
  iC : PySem.W.findIn K (.ref TH) "__init__" = some (some (.ref fI))
  tI : PySem.W.typeIn K (.ref fI) = some (.type "function")
  fn : Fun K "__init__" "Thin.__init__" s_thin_init fI fd
  xf : XfC K TH
  te : PySem.W.exmOne K (.ref TH) (.ref TH) = some true
section
variable {P : Program} {w : World} {K : PySem.W.Frag} {mg : Str → Option Value} {base : Heap} {BE TH fI : Addr} {fdI : FuncData}
theorem Gr.ofSame {G H H' : Hp} (s : Same G H) (h : Same H H') : Gr G H G H' := ⟨Same.refl _, h, s.trans h, fun _ e _ => e⟩
def sp_init (TH : Addr) : Sp := fun vs H Q _ => ∃ (a : Addr) (v : V), vs = [.ref a, v] ∧ H a = some (exo a TH none) ∧ ∀ dx, H dx = none → dx ≠ a → Q .non (upd (upd H dx (exd dx [(("lot" : Str), v)])) a (exo a TH (some dx)))
theorem c_init (T : ThK K mg BE TH fI fdI) : FnOk P w K mg base CX0 1 fI fdI ["self", "lot"] (sp_init TH) := by
  refine T.fn.ok sc_thin_init (fun vs H Q E h => ?_) (fun cdv A outer s H vs Q E hr h => ?_)
  · obtain ⟨a, v, rfl, _⟩ := h
    rfl
  · obtain ⟨a, v, rfl, ha, q⟩ := h
    refine ⟨_, pss_cons (ps_expr (pe_beinit T.be rfl (pa_cons (pv 0) (pa_cons pe_str pa_nil)))) (pss_one (ps_ost (pv 0) (pv 1))), ?_⟩
    exact ⟨_, rfl, a, TH, _, rfl, by simp, T.T, ha, _, rfl, _, rfl, a, TH, rfl, T.T, T.noLot, .inl ⟨ha, fun dx hn ne => q dx hn ne⟩⟩
theorem b_init (T : ThK K mg BE TH fI fdI) : Binds K fdI ["self", "lot"] [] := T.fn.binds fun _ _ _ _ _ _ us hl => match us, hl with | [_, _], _ => rfl
/-- a promise that may raise Thin -/
def spX {α : Type} (K : PySem.W.Frag) (TH : Addr) (P : α → Prop) (args : α → List PyData) (cut : α → Option (List Nat)) (res : α → PyData) : Sp := fun vs H Q E =>
  ∃ (x : α) (G : Hp), P x ∧ Same G H ∧ DpAll K G vs (args x) ∧ (cut x = none → ∀ v G' H', Gr G H G' H' → Dp K G' v (res x) → Q v H') ∧
    ∀ l, cut x = some l → ∀ d v G' H', Gr G H G' H' → Dp K G' v (natsT l) → H' d = some (.xd [(("lot" : Str), v)]) → E (.ref TH) (some d) H'
/-- Thin(e) with the exception's dict -/
theorem mk_thin {σ : L2.St} {G H : Hp} {te : TE} {l : List Nat} {E : XK} (s : Same G H) (h : ED K te σ G H (natsT l)) (q : ∀ d v G' H', Gr G H G' H' → Dp K G' v (natsT l) → H' d = some (.xd [(("lot" : Str), v)]) → E (.ref TH) (some d) H') :
    tMkO TH (sp_init TH) [] (tCons te tNil) σ H E := h.now s fun v G1 H1 g1 hv => by
  refine ⟨by simp, fun a ha => ⟨a, v, rfl, upd_same, fun dx hn ne => ⟨rfl, dx, _, upd_same, ?_, ?_, q dx v G1 _ (g1.trans (Gr.ofSame g1.s fun b o e => ?_)) hv upd_same⟩⟩⟩
  · rw [upd_ne ne, upd_same]
  · rw [upd_ne ne] at hn; exact hn
  · rw [upd_ne ne] at hn
    have b1 : b ≠ a := ne_of_none e ha
    have b2 : b ≠ dx := ne_of_none e hn
    rw [upd_ne b2, del_ne b1, upd_ne b1, upd_ne b2, upd_ne b1]
    exact e
theorem ed_notCut {σ : L2.St} {G H : Hp} {te : TE} {o : Option (List Nat)} (h : ED K te σ G H (cutD o)) : ED K (tNotN te) σ G H (.bool o.isSome) := by
  cases o with
  | none => exact ed_notN h rfl
  | some l => exact ed_notN h rfl
-- slots of need_thick: 0 web, 1 lot
abbrev s_need_thick : Stmt := top 25
abbrev N_need_thick : List Str := ["web", "lot"]
theorem sc_need_thick : FnScope N_need_thick ["web"] (defScope s_need_thick) := ⟨rfl, rfl, rfl, by decide +kernel, rfl, by decide +kernel, by decide +kernel⟩
abbrev sp_need_thick (K : PySem.W.Frag) (TH : Addr) : Sp := spX (α := Nat × Ties) K TH (fun a => Ok a.1 a.2 ∧ TreeOk a.1 a.2) (fun a => [webD a.1 a.2]) (fun a => thinCut a.1 a.2) (fun _ => .none)
theorem c_need_thick {f : Addr} {fd : FuncData} (T : Txt mg) (Th : ThK K mg BE TH fI fdI) (F : Fd K mg "need_thick" s_need_thick f fd) (C_thin_cut : Cal P w K mg base CX0 "thin_cut" 4 ["web"] (sp_thin_cut K)) : Cal P w K mg base (L2.CX P w) "need_thick" 5 ["web"] (sp_need_thick K TH) := by
  refine ⟨f, fd, ?_, F.mg, F.fn.kp, F.fn.binds fun _ _ _ _ _ _ us hl => match us, hl with | [_], _ => rfl⟩
  refine F.fn.okX sc_need_thick (fun vs H Q E h => ?_) (fun cdv A outer s H vs Q E hr h => ?_)
  · obtain ⟨a, G, _, _, h, _⟩ := h
    rw [h.len]; rfl
  · obtain ⟨⟨n, W⟩, G, hp, hs, hv, qn, qe⟩ := h
    have nd := sc_need_thick.nd
    refine ⟨_, (pss_cons (ps_set (i := 1) nd rfl (Or.inl rfl) (pe_cal C_thin_cut (hr.mono (by decide)) rfl (pa_cons (pv 0) pa_nil)))
      (pss_one (ps_if (pt_cmp (pc_notN (pv 1)) rfl)
      (pss_one (ps_raise rfl (takes_of rfl rfl rfl rfl) (pmk_oex Th.T Th.iC Th.tI (c_init Th) (hr.mono (by decide)) (b_init Th) .nil pass0 rfl Th.mTH (pa_cons (pv 1) pa_nil))))
      pss_nil))), ?_⟩
    dsimp only at hv qn qe hp
    obtain ⟨v0, rfl, h0⟩ := dpa1 hv
    refine q_set (K := K) hs (ed_call (n, W) (ea_cons (ed_var rfl h0) ea_nil) hp) fun v G1 H1 g1 hd => ?_
    refine s_if g1.s (et_B (K := K) (ed_notCut (ed_var rfl hd))) (fun c1 G2 H2 g2 => ?_) (fun c1 G2 H2 g2 => ?_)
    · cases e : thinCut n W with
      | none => rw [e] at c1; cases c1
      | some l =>
        have hd : Dp K G1 v (cutD (thinCut n W)) := hd
        rw [e] at hd
        exact mk_thin g2.s (ed_var rfl (dp_mono g2.g _ _ hd)) fun d v G' H' g hv hd' => qe l e d v G' H' ((g1.trans g2).trans g) hv hd'
    · cases e : thinCut n W with
      | none => exact qn e .non G2 H2 (g1.trans g2) .non
      | some l => rw [e] at c1; cases c1

end
end Bw
set_option Elab.async false
set_option linter.all false
set_option maxRecDepth 100000
set_option maxHeartbeats 4000000
namespace Bw
open PySem PySem.Spec PyProof.Rows L2 Bo
theorem stepsOf_len (cols : List Nat) : (stepsOf cols).length ≤ cols.length := by
  have key : ∀ (l : List (Nat × Nat)) (st : List (Nat × Nat)), (l.foldl stepTurn st).length ≤ st.length + l.length := by
    intro l
    induction l with
    | nil => exact fun _ => Nat.le_refl _
    | cons q r ih =>
      intro st
      have h := ih (stepTurn st q)
      have : (stepTurn st q).length ≤ st.length + 1 := by
        unfold stepTurn
        split
        · simp
        · exact Nat.le_succ _
      rw [List.foldl_cons, List.length_cons]; omega
  have := key cols.zipIdx []
  rw [List.length_zipIdx] at this
  rw [stepsOf_eq]
  simpa using this
section
variable {P : Program} {w : World} {K : PySem.W.Frag} {mg : Str → Option Value} {base : Heap}
theorem bfsT_len {cols : List Nat} {M : Nat} {e0 : Nat × List Nat} {base : List (Nat × List Nat)} {done : List (Nat × Nat)} {f : List (Nat × List Nat) × List Nat} (h : BfsT cols M e0 base done f) : f.1.length ≤ 2 ^ M := by
  have := nodup_lt h.nd fun x hx => by
    obtain ⟨e, he, rfl⟩ := List.mem_map.mp hx
    exact h.lt e he
  rwa [List.length_map] at this
-- slots of shortest_lots: 0 columns, 1 steps, 2 found, 3 waiting, 4 place, 5 tie, 6 column, 7 here
abbrev s_shortest_lots : Stmt := top 30
abbrev N_shortest_lots : List Str := ["columns", "steps", "found", "waiting", "place", "tie", "column", "here"]
theorem sc_shortest_lots : FnScope N_shortest_lots ["columns"] (defScope s_shortest_lots) := ⟨rfl, rfl, rfl, by decide +kernel, rfl, by decide +kernel, by decide +kernel⟩
def sp_shortest_lots (K : PySem.W.Frag) : Sp := fun vs H Q _ => ∃ (cols : List Nat) (G : Hp), (cols.length ≤ 40 ∧ ∀ c ∈ cols, c < 2 ^ 10) ∧ Same G H ∧ DpAll K G vs [natsL cols] ∧
  ∀ p kvs G' H', H p = none → Gr G H G' H' → Mu G' H' p (.dK kvs) → KvD K G' natsT kvs (shortest cols) → Q (.ref p) H'
theorem c_shortest_lots {f : Addr} {fd : FuncData} (T : Txt mg) (F : Fd K mg "shortest_lots" s_shortest_lots f fd) : Cal P w K mg base CX0 "shortest_lots" 1 ["columns"] (sp_shortest_lots K) := by
  refine ⟨f, fd, ?_, F.mg, F.fn.kp, F.fn.binds fun _ _ _ _ _ _ us hl => match us, hl with | [_], _ => rfl⟩
  refine F.fn.ok sc_shortest_lots (fun vs H Q E h => ?_) (fun cdv A outer s H vs Q E hr h => ?_)
  · obtain ⟨a, G, _, _, h, _⟩ := h
    rw [h.len]; rfl
  obtain ⟨cols, G, ⟨hcl, hcM⟩, hs, hv, q⟩ := h
  have nd := sc_shortest_lots.nd
  have hu := hr.units
  have hu1 := hu_of hr
  refine ⟨_, (pss_cons (ps_asg (pe_tup (pa_cons pe_dnewK (pa_cons (pe_disp (pps_cons pe_int (pe_tup pa_nil) pps_nil) (by rfl) (by rfl) (fun z => by cases z) (by decide)) (pa_cons (pe_lst (pa_cons pe_int pa_nil)) (pa_cons pe_int pa_nil))))) (pg_tup rfl (pgs_cons (pg_name (i := 1) nd rfl (Or.inl rfl)) (pgs_cons (pg_name (i := 2) nd rfl (Or.inl rfl)) (pgs_cons (pg_name (i := 3) nd rfl (Or.inl rfl)) (pgs_cons (pg_name (i := 4) nd rfl (Or.inl rfl)) pgs_nil))))))
     (pss_cons (ps_for PassesOwn.never rfl (pi_enum rfl T.enumerate (pa_cons (pv 0) pa_nil)) (pg_tup rfl (pgs_cons (pg_name (i := 5) nd rfl (Or.inl rfl)) (pgs_cons (pg_name (i := 6) nd rfl (Or.inl rfl)) pgs_nil)))
     (pss_one (ps_if (pt_cmpR op_ne (pv 6) pe_int (nomark _))
     (pss_one (ps_expr (pe_dsetd (pv 1) (pv 6) (pv 5) ⟨rfl, rfl, rfl, rfl⟩)))
     pss_nil)))
     (pss_cons (ps_while PassesOwn.never (pt_cmpR op_lt (pv 4) (pe_callB call_len_seq rfl T.len (by decide +kernel) (pa_cons (pv 3) pa_nil)) (nomark _))
     (pss_cons (ps_set (i := 7) nd rfl (Or.inl rfl) (pe_ix ix_list (pv 3) (pv 4) (fun _ _ => rfl)))
     (pss_cons (ps_set (i := 4) nd rfl (Or.inl rfl) (pe_op op_add (pv 4) pe_int))
     (pss_one (ps_lock (ps_for PassesOwn.never rfl (pi_keys (pv 1)) (pg_name (i := 6) nd rfl (Or.inl rfl))
     (pss_one (ps_if (pt_cmp (pc_dnotin hu1 (pe_op op_xor (pv 7) (pv 6)) (pv 2)) (by rfl))
     (pss_cons (ps_dput hu1 (pv 2) (pe_op op_xor (pv 7) (pv 6)) (pe_op op_catA (pe_dget hu1 (pv 2) (pv 7) (fun _ _ => rfl)) (pe_tup (pa_cons (pe_dget hu1 (pv 1) (pv 6) (fun _ _ => rfl)) pa_nil))) rfl)
     (pss_one (ps_expr (pe_bm PySem.F.plainAttrs_list PySem.F.slot_list_append PySem.F.type_list_append mt_append (pv 3) (pa_cons (pe_op op_xor (pv 7) (pv 6)) pa_nil)))))
     pss_nil))))))))
     (pss_one (ps_ret (pv 2)))))), ?_⟩
  obtain ⟨v0, rfl, h0⟩ := dpa1 hv
  refine q_bfs0 (K := K) (Gi := G) (Hi := H) (Gr.refl hs) fun ps pf pw kvs0 G1 H1 n1 n2 n3 hs0 hf0 hw0 g1 s1 ms mf kf mw => ?_
  refine q_forT (Gi := G) (Hi := H) cols.zipIdx (fun q => .tuple [natD q.2, natD q.1]) (by
    rw [← numbered_map]
    exact es_enum (ea_cons (ed_var rfl (dp_mono s1 _ _ h0)) ea_nil)) g1 (fun pre σ' G' H' => ∃ (kvs : List (Key × V)) (a b : Option V), σ' = [some v0, some (.ref ps), some (.ref pf), some (.ref pw), some (.int 0), a, b, none] ∧ Mu G' H' ps (.dK kvs) ∧
      KvD K G' natD kvs (pre.foldl stepTurn []) ∧ Mu G' H' pf (.dK kvs0) ∧ KvD K G' natsT kvs0 [(0, [])] ∧ Mu G' H' pw (.lst [.int 0])) (fun G' H' g' => ⟨[], _, _, rfl, ms.gr g', .nil, mf.gr g', kf.mono g'.g, mw.gr g'⟩) ?_ ?_
  · rintro pre ⟨col, t⟩ post x σ' G2 H2 G3 H3 hsp g2 s2 ⟨kvs, a, b, rfl, m1, k1, mf1, kf1, mw1⟩ g3 hx
    have hpl : pre.length ≤ 40 := by
      have h2 := congrArg List.length hsp
      rw [List.length_zipIdx] at h2
      simp at h2
      omega
    have hlen : (pre.foldl stepTurn []).length ≤ pre.length := by
      have key : ∀ (l : List (Nat × Nat)) (st : List (Nat × Nat)), (l.foldl stepTurn st).length ≤ st.length + l.length := by
        intro l
        induction l with
        | nil => exact fun _ => Nat.le_refl _
        | cons q r ih =>
          intro st
          have h := ih (stepTurn st q)
          have : (stepTurn st q).length ≤ st.length + 1 := by
            unfold stepTurn
            split
            · simp
            · exact Nat.le_succ _
          rw [List.foldl_cons, List.length_cons]; omega
      simpa using key pre []
    have hnext : (pre ++ [(col, t)]).foldl stepTurn [] = stepTurn (pre.foldl stepTurn []) (col, t) := by rw [List.foldl_append]; rfl
    dsimp only at hx
    refine g_un2 g3.s hx fun v1 v2 f1 f2 => ?_
    cases f1; cases f2
    refine s_if g3.s (et_test (K := K) (ed_op (ed_var rfl (.int _)) ed_int (rd_neN (b := 0)))) (fun c1 G4 H4 g4 => ?_) (fun c1 G4 H4 g4 => ?_)
    · have c1' : col ≠ 0 := by simpa using c1
      have g34 := g3.trans g4
      refine s_dsetd (K := K) (enc := natD) (x := col) (a := t) g4.s rfl (m1.gr g34) (k1.mono g34.g) (by omega) (ed_var rfl (.int _)) (ed_var rfl (.int _)) (fun hx G5 H5 g5 => ?_) (fun hx G5 H5 kvs' g5 m5 k5 => ?_)
      · have g35 := g34.trans g5
        refine ⟨G5, g2.trans g35, g35.g, kvs, _, _, rfl, m1.gr g35, ?_, mf1.gr g35, kf1.mono g35.g, mw1.gr g35⟩
        rw [hnext, stepTurn, if_neg (fun z => by rw [z.2] at hx; cases hx)]
        exact k1.mono g35.g
      · have g35 := g34.trans g5
        refine ⟨G5, (g2.trans g35).mut hs0 m5.n, g35.g, kvs', _, _, rfl, m5, ?_, (mf1.gr g35).ne (Ne.symm n1), kf1.mono g35.g, (mw1.gr g35).ne (Ne.symm n2)⟩
        rw [hnext, stepTurn, if_pos ⟨c1', hx⟩]
        exact k5
    · have c1' : col = 0 := by simpa using c1
      have g34 := g3.trans g4
      refine ⟨G4, g2.trans g34, g34.g, kvs, _, _, rfl, m1.gr g34, ?_, mf1.gr g34, kf1.mono g34.g, mw1.gr g34⟩
      rw [hnext, stepTurn, if_neg (fun z => z.1 c1')]
      exact k1.mono g34.g
  · rintro σ' G2 H2 g2 s2 ⟨kst0, a0, b0, rfl, mst, kst, mf1, kf1, mw1⟩
    rw [← stepsOf_eq] at kst
    obtain ⟨m0, sE, hm0, hR⟩ := bfs_runs (M := 10) hcM
    have hE : shortest cols = sE.found := by
      unfold shortest
      rw [hR.eq (Nat.le_trans hm0 (by decide))]
    rw [hE] at q
    have hst := stepsOf_inv cols
    have hsl := stepsOf_len cols
    have hsok := steps_ok hcM
    refine q_while (Gi := G) (Hi := H) g2 (fun m σ' G' H' => ∃ (s : Bfs) (kst kfd : List (Key × V)) (xs : List V) (b c d : Option V), Runs bfsGo (BfsI cols 10) (bfsStep (stepsOf cols)) m s sE ∧ σ' = [some v0, some (.ref ps), some (.ref pf), some (.ref pw), some (.int (s.place : Int)), b, c, d] ∧
      Mu G' H' ps (.dK kst) ∧ KvD K G' natD kst (stepsOf cols) ∧ Mu G' H' pf (.dK kfd) ∧ KvD K G' natsT kfd s.found ∧ Mu G' H' pw (.lst xs) ∧ DpAll K G' xs (s.waiting.map natD)) m0 ⟨_, kst0, kvs0, _, _, _, _, hR, rfl, mst, kst, mf1, kf1, mw1, .cons (.int _) .nil⟩ ?_
    rintro m σ' G3 H3 g3 s3 ⟨s, kst1, kfd, xs, b, c, d, hr1, rfl, mst1, kst1', mfd, kfd', mw2, dx⟩
    have hcond : ET (tTest (tOp (rI0 fun i j => .bl (decide (i < j))) (tVar 4) (tCB (rLenS K) (tCons (tVar 3) tNil)))) [some v0, some (.ref ps), some (.ref pf), some (.ref pw), some (.int (s.place : Int)), b, c, d] G3 H3 (bfsGo s) := by
      refine et_is (et_test (K := K) (ed_op (ed_var rfl (.int _)) (ed_lenM rfl mw2.h) rd_ltN)) ?_
      rw [dx.len, List.length_map]; rfl
    refine ⟨_, hcond, fun c1 G4 H4 g4 => ?_, fun c1 G4 H4 g4 => ?_⟩
    · cases hr1 with
      | stop h => exact absurd (h.symm.trans c1) (by decide)
      | @go m' _ _ h hok hr2 =>
        have hg : s.place < s.waiting.length := of_decide_eq_true c1
        obtain ⟨e0, h1, h2, h3⟩ := bfs_at hok hg
        have hnew := bfs_step hcM hok c1
        have hTs := bfs_start hok h1
        have hstep : bfsStep (stepsOf cols) s = ⟨((stepsOf cols).foldl (bfsTurn e0.1 e0.2) (s.found, s.waiting)).1, ((stepsOf cols).foldl (bfsTurn e0.1 e0.2) (s.found, s.waiting)).2, s.place + 1⟩ := by
          unfold bfsStep
          dsimp only
          rw [h2, h3]; rfl
        rw [hstep] at hr2
        obtain ⟨u, hu, hd⟩ := dx.get (get_nat hg)
        rw [h2] at hd
        cases hd
        refine q_set (K := K) g4.s (ed_ixM (j := s.place) (d := natD e0.1) rfl (mw2.gr g4).h hu (.int _) (ed_var rfl (.int _))) fun v G5 H5 g5 hd => ?_
        cases hd
        refine q_set (K := K) g5.s (ed_op (ed_var rfl (.int _)) ed_int (rd_addN (b := 1))) fun v G6 H6 g6 hd => ?_
        cases hd
        have g36 := (g4.trans g5).trans g6
        refine s_forKeys (K := K) (Gi := G) (Hi := H) (i := 1) rfl (g3.trans g36) hs0 (mst1.gr g36) (kst1'.mono g36.g) (fun od pre2 σ' G' H' => ∃ (kfd : List (Key × V)) (xs : List V) (c : Option V), σ' = [some v0, some (.ref ps), some (.ref pf), some (.ref pw), some (.int ((s.place + 1 : Nat) : Int)), b, c, some (.int (e0.1 : Int))] ∧
          Mu G' H' pf (.dK kfd) ∧ KvD K G' natsT kfd (pre2.foldl (bfsTurn e0.1 e0.2) (s.found, s.waiting)).1 ∧ Mu G' H' pw (.lst xs) ∧ DpAll K G' xs ((pre2.foldl (bfsTurn e0.1 e0.2) (s.found, s.waiting)).2.map natD)) (fun od => ⟨kfd, xs, _, rfl, (mfd.gr g36).ne (Ne.symm n1), kfd'.mono g36.g, (mw2.gr g36).ne (Ne.symm n2), dpa_mono g36.g _ _ dx⟩) ?_ ?_
        · rintro od pre2 cq post2 σ' G7 H7 hsp2 g7 s7 m7 ⟨kfd7, xs7, c7, rfl, mf7, kf7, mw7, dx7⟩
          have hT := bfsFold_T (List.mem_of_getElem? h1) pre2 (fun x hx => hsok x (by rw [hsp2]; exact List.mem_append_left _ hx)) hTs
          have hnext : (pre2 ++ [cq]).foldl (bfsTurn e0.1 e0.2) (s.found, s.waiting) = bfsTurn e0.1 e0.2 (pre2.foldl (bfsTurn e0.1 e0.2) (s.found, s.waiting)) cq := by rw [List.foldl_append]; rfl
          rw [show (fun σ3 G3 H3 => Mu G3 H3 ps (.frz od (.dK kst1)) ∧ ∃ (kfd : List (Key × V)) (xs : List V) (c : Option V), σ3 = [some v0, some (.ref ps), some (.ref pf), some (.ref pw), some (.int ((s.place + 1 : Nat) : Int)), b, c, some (.int (e0.1 : Int))] ∧
          Mu G3 H3 pf (.dK kfd) ∧ KvD K G3 natsT kfd ((pre2 ++ [cq]).foldl (bfsTurn e0.1 e0.2) (s.found, s.waiting)).1 ∧ Mu G3 H3 pw (.lst xs) ∧ DpAll K G3 xs (((pre2 ++ [cq]).foldl (bfsTurn e0.1 e0.2) (s.found, s.waiting)).2.map natD)) = (fun σ3 G3 H3 => Mu G3 H3 ps (.frz od (.dK kst1)) ∧ ∃ (kfd : List (Key × V)) (xs : List V) (c : Option V), σ3 = [some v0, some (.ref ps), some (.ref pf), some (.ref pw), some (.int ((s.place + 1 : Nat) : Int)), b, c, some (.int (e0.1 : Int))] ∧
          Mu G3 H3 pf (.dK kfd) ∧ KvD K G3 natsT kfd (bfsTurn e0.1 e0.2 (pre2.foldl (bfsTurn e0.1 e0.2) (s.found, s.waiting)) cq).1 ∧ Mu G3 H3 pw (.lst xs) ∧ DpAll K G3 xs ((bfsTurn e0.1 e0.2 (pre2.foldl (bfsTurn e0.1 e0.2) (s.found, s.waiting)) cq).2.map natD)) by rw [hnext]]
          generalize pre2.foldl (bfsTurn e0.1 e0.2) (s.found, s.waiting) = ff at hT kf7 dx7
          obtain ⟨fo, wa⟩ := ff
          dsimp only at kf7 dx7
          have hfl := bfsT_len hT
          have hwl : wa.length ≤ 2 ^ 10 := by
            have e1 := congrArg List.length hT.wt
            rw [List.length_map] at e1
            have e1 : wa.length = fo.length := e1
            rw [e1]; exact hfl
          obtain ⟨more, hmore⟩ := hT.pre
          have hmore : fo = s.found ++ more := hmore
          have hv0 : valN fo e0.1 = some e0.2 := by rw [hmore]; exact valN_app h3
          have hlot := hT.len _ (valN_mem hv0)
          dsimp only at hfl hlot
          have hcv : valN (stepsOf cols) cq.1 = some cq.2 := valN_of hst.nd (by rw [hsp2]; simp)
          refine g_nm (s_if g7.s (et_B (K := K) (ed_dnotin (x := e0.1 ^^^ cq.1) rfl (.inl mf7.h) kf7 (ed_op (ed_var rfl (.int _)) (ed_var rfl (.int _)) rd_xorN))) (fun c2 G8 H8 g8 => ?_) (fun c2 G8 H8 g8 => ?_))
          · have c2' : valN fo (e0.1 ^^^ cq.1) = none := by simpa using c2
            have hturn : bfsTurn e0.1 e0.2 (fo, wa) cq = (fo ++ [(e0.1 ^^^ cq.1, e0.2 ++ [cq.2])], wa ++ [e0.1 ^^^ cq.1]) := by
              unfold bfsTurn
              exact if_pos c2'
            rw [hturn]
            have mf8 := mf7.gr g8
            have m8 := m7.gr g8
            refine q_dput (K := K) (enc := natsT) (x := e0.1 ^^^ cq.1) (a := e0.2 ++ [cq.2]) g8.s rfl mf8 (kf7.mono g8.g) (by omega) (ed_is (ed_op (ed_dget (a := e0.2) rfl (.inl mf8.h) (kf7.mono g8.g) hv0 (ed_var rfl (.int _))) (ed_tup (ea_cons (ed_dget (enc := natD) (k := stepsOf cols) (a := cq.2) rfl (.inr ⟨od, m8.h⟩) (kst1'.mono (g36.g.trans (s7.trans g8.g))) hcv (ed_var rfl (.int _))) ea_nil) (by simp)) (rd_catT (by simp; omega))) (by
                show PyData.tuple (_ ++ _) = PyData.tuple _
                rw [List.map_append]; rfl)) (ed_op (ed_var rfl (.int _)) (ed_var rfl (.int _)) rd_xorN) fun G9 H9 kvs2 g9 m9 k9 => ?_
            have g79 := g8.trans g9
            have hg9 : Gr G H G9 (upd H9 pf (.dK kvs2)) := (g7.trans g79).mut hf0 m9.n
            have mw9 := (mw7.gr g79).ne (o' := .dK kvs2) (Ne.symm n3)
            have ms9 := (m7.gr g79).ne (o' := .dK kvs2) n1
            refine s_app (K := K) hg9.s rfl mw9 (by rw [dx7.len, List.length_map]; omega) (ed_op (ed_var rfl (.int _)) (ed_var rfl (.int _)) rd_xorN) fun v G10 H10 g10 hd10 m10 s10 => ?_
            refine ⟨G10, (hg9.trans g10).mut hw0 m10.n, g79.g.trans g10.g, (ms9.gr g10).ne n2, kvs2, _, _, rfl, (m9.gr g10).ne n3, ?_, m10, ?_⟩
            · rw [putN_new c2'] at k9
              exact k9.mono g10.g
            · rw [List.map_append]
              exact (dpa_mono (g79.g.trans g10.g) _ _ dx7).app (.cons hd10 .nil)
          · have c2' : ¬ valN fo (e0.1 ^^^ cq.1) = none := by
              intro z
              rw [z] at c2
              exact absurd c2 (by decide)
            have hturn : bfsTurn e0.1 e0.2 (fo, wa) cq = (fo, wa) := by
              unfold bfsTurn
              exact if_neg c2'
            rw [hturn]
            exact ⟨G8, g7.trans g8, g8.g, m7.gr g8, kfd7, xs7, _, rfl, mf7.gr g8, kf7.mono g8.g, mw7.gr g8, dpa_mono g8.g _ _ dx7⟩
        · rintro od σ' G7 H7 g7 s7 m7 ⟨kfd7, xs7, c7, rfl, mf7, kf7, mw7, dx7⟩
          have hg7 : Gr G H G7 (upd H7 ps (.dK kst1)) := g7.mut hs0 m7.n
          exact ⟨G7, hg7, g36.g.trans s7, m', Nat.lt_succ_self _, _, kst1, kfd7, xs7, _, _, _, hr2, rfl, m7.put, kst1'.mono (g36.g.trans s7), mf7.ne (Ne.symm n1), kf7, mw7.ne (Ne.symm n2), dx7⟩
    · have hE : s = sE := by
        cases hr1 with
        | stop h => rfl
        | go h _ _ => exact absurd (h.symm.trans c1) (by decide)
      subst hE
      exact ⟨_, rfl, q pf kfd G4 H4 hf0 (g3.trans g4) (mfd.gr g4) (kfd'.mono g4.g)⟩
end
end Bw
set_option Elab.async false
set_option linter.all false
set_option maxRecDepth 100000
set_option maxHeartbeats 4000000
namespace Bw
open PySem PySem.Spec PyProof.Rows L2 Bo
abbrev intsT (l : List Int) : PyData := .tuple (l.map PyData.int)
theorem column_lt (base : List Nat) (bit : Nat) : column base bit < 2 ^ base.length := by
  have key : ∀ (l : List Nat) (s : Nat), (((l.zipIdx s).filter fun q => decide (q.1 &&& bit ≠ 0)).map fun q => 2 ^ q.2).sum + 2 ^ s ≤ 2 ^ (s + l.length) := by
    intro l
    induction l with
    | nil => intro s; simp
    | cons b r ih =>
      intro s
      have h := ih (s + 1)
      rw [List.zipIdx_cons, List.length_cons]
      have e : s + (r.length + 1) = s + 1 + r.length := by omega
      rw [e]
      have p2 : 2 ^ (s + 1) = 2 * 2 ^ s := by rw [Nat.pow_succ, Nat.mul_comm]
      by_cases c : b &&& bit ≠ 0
      · rw [List.filter_cons_of_pos (by simpa using c), List.map_cons, List.sum_cons]
        show 2 ^ s + _ + 2 ^ s ≤ _
        omega
      · rw [List.filter_cons_of_neg (by simpa using c)]
        omega
  have h := key base 0
  unfold column
  rw [Nat.zero_add] at h
  have : 0 < 2 ^ 0 := Nat.two_pow_pos 0
  omega
theorem columns_len (n : Nat) (T : Ties) : (columns n T).length = T.length := by unfold columns; rw [List.length_map, List.length_range]
theorem columns_lt {n : Nat} {T : Ties} (hn : n ≤ 9) : ∀ c ∈ columns n T, c < 2 ^ 10 := fun c hc => by
  unfold columns at hc
  obtain ⟨t, _, rfl⟩ := List.mem_map.mp hc
  refine Nat.lt_of_lt_of_le (column_lt _ _) (Nat.pow_le_pow_right (by decide) ?_)
  have := baseBits_len n T
  omega
theorem oddTies_lt {one other : List Int} {m : Nat} (h1 : one.length = m) : ∀ t ∈ oddTies one other, t < m := fun t ht => by
  unfold oddTies at ht
  obtain ⟨q, hq, rfl⟩ := List.mem_map.mp ht
  have := List.mem_zipIdx (List.mem_filter.mp hq).1
  have h2 : (one.zip other).length ≤ m := by rw [List.length_zip]; omega
  simp at this
  omega
theorem numbered2_map (xs ys : List Int) : numbered2 (xs.map PyData.int) (ys.map PyData.int) = (xs.zip ys).zipIdx.map fun q => .tuple [natD q.2, .tuple [.int q.1.1, .int q.1.2]] := by
  unfold numbered2
  rw [List.zip_map, List.zipIdx_map, List.map_map]
  rfl
theorem mendWith_len (ties : List Nat) : ∀ one : List Int, (mendWith ties one).length = one.length := by
  induction ties with
  | nil => exact fun _ => rfl
  | cons t r ih =>
    intro one
    show (mendWith r (one.set t _)).length = _
    rw [ih, List.length_set]
section
variable {P : Program} {w : World} {K : PySem.W.Frag} {mg : Str → Option Value} {base : Heap} {BE TH fI : Addr} {fdI : FuncData}
theorem pe_calX {X : Cx} {x : Str} {p pos : Pos} {e : Expr} {es : List Expr} {t : TA} {k : Nat} {ps : List Str} {sp : Sp} {E : XK} (C : Cal X.prog X.w X.K X.mg X.base (L2.CX X.prog X.w) x k ps sp) (hr : Room k X.A) (hg : Gl X x) (ha : PA X (e :: es) t) (hx : Passes (L2.CX X.prog X.w) X E)
    (he : starEach (e :: es) X.env = (false, eval e X.env) :: starEach es X.env := by rfl) (hpl : (backTo pos (starEach es X.env)).any (·.1) = false := by rfl) (hd : (x == ("__debug__" : Str)) = false := by decide) :
    PE X (.Call (.Name x p) (e :: es) [] pos) (tCall sp [] E t) := by
  obtain ⟨f, fd, F, hm, hk, hb⟩ := C
  exact pe_call F hr hg hm hk hb .nil hx ha hd he hpl
/-- name = list(a tuple), a new list of one's own -/
theorem q_listM {σ : L2.St} {G H Gi Hi : Hp} {D : Ends} {te : TE} {rest : TS} {i : Nat} {ds : List PyData} (gr : Gr Gi Hi G H) (h : ED K te σ G H (.tuple ds)) (n : ∀ p xs G' H', Hi p = none → Gr Gi Hi G' H' → Same G G' → Mu G' H' p (.lst xs) → DpAll K G' xs ds → rest D (σ.set i (some (.ref p))) H') :
    tSeq (tAsg (tCB (rListS K) (tCons te tNil)) (gName i)) rest D σ H := h.now gr.s fun v G1 H1 g1 hv => by
  cases hv with
  | @tup a xs _ hs ha =>
    refine ⟨a, xs, rfl, .inr (sqT_mono g1.s hs), fun p hp => ?_⟩
    have g2 := Gr.lay (o := .lst xs) g1.s hp
    exact n p xs G1 _ ((gr.trans g1).fresh hp) ((gr.trans g1).trans g2) g1.g (Mu.lay g1.s hp) ha
-- slots of mended: 0 web, 1 standing, 2 other, 3 columns, 4 odd, 5 tie, 6 one, 7 further, 8 ties, 9 found
abbrev s_mended : Stmt := top 31
abbrev N_mended : List Str := ["web", "standing", "other", "columns", "odd", "tie", "one", "further", "ties", "found"]
theorem sc_mended : FnScope N_mended ["web", "standing", "other"] (defScope s_mended) := ⟨rfl, rfl, rfl, by decide +kernel, rfl, by decide +kernel, by decide +kernel⟩
abbrev sp_mended (K : PySem.W.Frag) (TH : Addr) : Sp := spX (α := (Nat × Ties) × List Int × List Int) K TH (fun a => (Ok a.1.1 a.1.2 ∧ TreeOk a.1.1 a.1.2) ∧ a.2.1.length = a.1.2.length ∧ a.2.2.length = a.1.2.length) (fun a => [webD a.1.1 a.1.2, intsT a.2.1, intsT a.2.2])
  (fun a => thinCut a.1.1 a.1.2) (fun a => intsT (mended a.1.1 a.1.2 a.2.1 a.2.2))
theorem f_mended {f : Addr} {fd : FuncData} (T : Txt mg) (F : Fd K mg "mended" s_mended f fd) (C_need_thick : Cal P w K mg base (L2.CX P w) "need_thick" 5 ["web"] (sp_need_thick K TH)) (C_columns_of : Cal P w K mg base CX0 "columns_of" 6 ["web"] (sp_columns_of K)) (C_rest_of : Cal P w K mg base CX0 "rest_of" 1 ["columns", "lot"] (sp_rest_of K)) (C_shortest_lots : Cal P w K mg base CX0 "shortest_lots" 1 ["columns"] (sp_shortest_lots K)) :
    FnOk P w K mg base (L2.CX P w) 7 f fd ["web", "standing", "other"] (sp_mended K TH) := by
  refine F.fn.okX sc_mended (fun vs H Q E h => ?_) (fun cdv A outer s H vs Q E hr h => ?_)
  · obtain ⟨a, G, _, _, h, _⟩ := h
    rw [h.len]; rfl
  obtain ⟨⟨⟨n, W⟩, one, other⟩, G, ⟨⟨ok, tok⟩, l1, l2⟩, hs, hv, qn, qe⟩ := h
  have nd := sc_mended.nd
  have hu := hr.units
  have hu1 := hu_of hr
  refine ⟨_, (pss_cons (ps_expr (pe_calX C_need_thick (hr.mono (by decide)) rfl (pa_cons (pv 0) pa_nil) (passes_call (takes_of rfl rfl rfl rfl) fun _ _ _ _ h => h)))
     (PSs.nox (pss_cons (ps_set (i := 3) nd rfl (Or.inl rfl) (pe_cal C_columns_of (hr.mono (by decide)) rfl (pa_cons (pv 0) pa_nil)))
     (pss_cons (ps_setLc (i := 4) (own := [("tie", 5), ("one", 6), ("further", 7)]) (g := gTup K 2 (gCons (gName 5) (gCons (gTup K 2 (gCons (gName 6) (gCons (gName 7) gNil))) gNil))) (tt := tTest (tOp (rEq) (tOp (rI (fun _ j => 0 < j) fun i j => .int (i % j)) (tOp (rI0 fun i j => .int (i - j)) (tVar 7) (tVar 6)) (tC (.int 2))) (tC (.int 1)))) (te := tVar 5) rfl nd rfl rfl (sw_true rfl rfl rfl (by decide +kernel)) (pi_enumZ rfl T.enumerate rfl T.zip (pa_cons (pv 1) (pa_cons (pv 2) pa_nil))) (blkOk_by (N := N_mended) (sc := defScope s_mended) (by decide +kernel)) (fun _ _ _ _ _ => (pg_tup rfl (pgs_cons (pg_name (i := 5) nd rfl (Or.inl rfl)) (pgs_cons (pg_tup rfl (pgs_cons (pg_name (i := 6) nd rfl (Or.inl rfl)) (pgs_cons (pg_name (i := 7) nd rfl (Or.inl rfl)) pgs_nil))) pgs_nil)))) (fun _ _ _ _ _ => (pts_one (pt_cmpR op_eq (pe_op op_mod (pe_op op_sub (pv 7) (pv 6)) pe_int) pe_int (nomark _)))) (fun _ _ _ _ _ => (pv 5)))
     (pss_cons (ps_set (i := 8) nd rfl (Or.inl rfl) (pe_dget hu1 (pe_cal C_shortest_lots (hr.mono (by decide)) rfl (pa_cons (pv 3) pa_nil)) (pe_cal C_rest_of (hr.mono (by decide)) rfl (pa_cons (pv 3) (pa_cons (pv 4) pa_nil))) (fun _ _ => rfl)))
     (pss_cons (ps_set (i := 9) nd rfl (Or.inl rfl) (pe_callTy call_list_of rfl T.list_ (by decide +kernel) (pa_cons (pv 1) pa_nil)))
     (pss_cons (ps_for PassesOwn.never rfl (pi_tup (pv 8)) (pg_name (i := 5) nd rfl (Or.inl rfl))
     (pss_one (ps_asg (pe_ifExp (pt_cmpR op_gt (pe_ix ix_list (pv 9) (pv 5) (fun _ _ => rfl)) pe_int (nomark _)) (pe_op op_sub (pe_ix ix_list (pv 9) (pv 5) (fun _ _ => rfl)) pe_int) (pe_op op_add (pe_ix ix_list (pv 9) (pv 5) (fun _ _ => rfl)) pe_int)) (pg_sub (pv 9) (pv 5) set_list))))
     (pss_one (ps_ret (pe_callTy call_tuple_of rfl T.tuple_ (by decide +kernel) (pa_cons (pv 9) pa_nil))))))))))), ?_⟩
  dsimp only at hv qn qe l1 l2 ok tok
  obtain ⟨v0, v1, v2, rfl, h0, h1, h2⟩ := dpa3 hv
  have hhi := ok.hi
  have hfew := ok.few
  refine ⟨v0, rfl, ⟨(n, W), G, ⟨ok, tok⟩, hs, ?_, fun hcut v G1 H1 g1 _ => ?_, fun l hl d v G' H' g hv hd => qe l hl d v G' H' g hv hd⟩⟩
  · rw [List.append_nil]; exact .cons h0 .nil
  have qn := qn hcut
  dsimp only
  refine q_set (K := K) g1.s (ed_call (n, W) (ea_cons (ed_var rfl (dp_mono g1.g _ _ h0)) ea_nil) (by exact ok)) fun v3 G2 H2 g2 hcol => ?_
  have g12 := g1.trans g2
  have hcl : (columns n W).length = W.length := columns_len n W
  have hclt := columns_lt (T := W) hhi
  have hol := oddTies_lt (other := other) l1
  have hodd : ED K (tLc (iEnumZ K (tCons (tVar 1) (tCons (tVar 2) tNil))) (gTup K 2 (gCons (gName 5) (gCons (gTup K 2 (gCons (gName 6) (gCons (gName 7) gNil))) gNil))) (tTest (tOp (rEq) (tOp (rI (fun _ j => 0 < j) fun i j => .int (i % j)) (tOp (rI0 fun i j => .int (i - j)) (tVar 7) (tVar 6)) (tC (.int 2))) (tC (.int 1)))) (tVar 5) [5, 6, 7]) [some v0, some v1, some v2, some v3, none, none, none, none, none, none] G2 H2 (natsL (oddTies one other)) := by
    refine ed_is (ed_lc (one.zip other).zipIdx (fun q => .tuple [natD q.2, .tuple [.int q.1.1, .int q.1.2]]) (fun q => decide ((q.1.2 - q.1.1) % 2 = 1)) (fun q => natD q.2) ?_ ?_ ?_) ?_
    · rw [← numbered2_map]
      exact es_enumZ (by rw [List.length_map, List.length_map, l1, l2]) (ea_cons (ed_var rfl (dp_mono g12.g _ _ h1)) (ea_cons (ed_var rfl (dp_mono g12.g _ _ h2)) ea_nil))
    · rw [List.length_zipIdx, List.length_zip]; omega
    · rintro ⟨⟨x, y⟩, t⟩ hm xv G' H' g' hx
      obtain ⟨u1, u2, e1, e2, gk⟩ := g_pair hx
      cases e1
      obtain ⟨u3, u4, e3, e4, gk2⟩ := g_pair e2
      cases e3; cases e4
      exact ⟨_, fun Q q => gk _ _ _ _ _ g'.s (gk2 _ _ _ _ _ g'.s q), rfl, et_test (K := K) (ed_op (ed_op (ed_op (ed_var rfl (.int _)) (ed_var rfl (.int _)) rd_I0) ed_int (rd_I (C := fun _ j => 0 < j) (by decide))) ed_int rd_eqI), fun _ => ed_var rfl (.int _)⟩
    · unfold oddTies
      show PyData.list _ = PyData.list ((List.map _ _).map natD)
      rw [List.map_map]; rfl
  refine q_set (K := K) g2.s hodd fun v4 G3 H3 g3 ho => ?_
  have g13 := g12.trans g3
  obtain ⟨lot, hlot, hlt, _, hmin⟩ := shortest_spec (M := 10) hclt (by decide) (L := oddTies one other) (by rw [hcl]; exact hol)
  have hml : mendLot n W one other = lot := by
    unfold mendLot
    rw [hlot]; rfl
  have hll : lot.length ≤ 40 := by
    have := hmin (oddTies one other) (by rw [hcl]; exact hol) rfl
    have h3 : (oddTies one other).length ≤ W.length := by
      unfold oddTies
      rw [List.length_map]
      refine Nat.le_trans (List.length_filter_le _ _) ?_
      rw [List.length_zipIdx, List.length_zip]; omega
    omega
  refine ⟨_, rfl, ⟨columns n W, G3, ⟨by omega, hclt⟩, g3.s, .cons (dp_mono g3.g _ _ hcol) .nil, fun p kvs G4 H4 hp4 g4 m4 k4 => ?_⟩⟩
  refine (ed_call (K := K) (columns n W, oddTies one other) (ea_cons (ed_var rfl (dp_mono (g3.trans g4).g _ _ hcol)) (ea_cons (ed_var rfl (dp_mono g4.g _ _ ho)) ea_nil)) (by exact fun t ht => by rw [hcl]; exact hol t ht)).now g4.s fun y G5 H5 g5 hy => ?_
  cases hy
  obtain ⟨u8, e8, d8⟩ := k4.is_some hlot
  refine ⟨p, u8, rfl, dget_of (.inl (m4.gr g5).h) e8, ?_⟩
  have g15 := (g13.trans g4).trans g5
  have d8 := dp_mono g5.g _ _ d8
  refine q_listM (Gi := G) (Hi := H) g15 (ed_var rfl (dp_mono g15.g _ _ h1)) fun pl xs G6 H6 hp0 g6 s6 m6 d6 => ?_
  have e6 := d6.ints
  subst e6
  refine q_forT (Gi := G) (Hi := H) lot natD (es_tup (ed_var rfl (dp_mono s6 _ _ d8))) g6 (fun pre σ' G' H' => ∃ (a b c : Option V), σ' = [some v0, some v1, some v2, some v3, some v4, a, b, c, some u8, some (.ref pl)] ∧ Mu G' H' pl (.lst ((mendWith pre one).map V.int))) (fun G' H' g' => ⟨_, _, _, rfl, m6.gr g'⟩) ?_ ?_
  · rintro pre t post x σ' G7 H7 G8 H8 hsp g7 s7 ⟨a, b, c, rfl, m7⟩ g8 hx
    cases hx
    have htl : t < one.length := by
      have := hlt t (by rw [hsp]; simp)
      omega
    have m8 := m7.gr g8
    have hlen := mendWith_len pre one
    have hnext : mendWith (pre ++ [t]) one = (mendWith pre one).set t (nudge ((mendWith pre one).getD t 0)) := by
      unfold mendWith
      rw [List.foldl_append]; rfl
    have hget : ((mendWith pre one).map V.int)[t]? = some (.int ((mendWith pre one).getD t 0)) := by
      rw [List.getElem?_map, List.getD_eq_getElem?_getD, List.getElem?_eq_getElem (by omega)]; rfl
    have hix : ED K (tOp (rIxL K) (tVar 9) (tVar 5)) [some v0, some v1, some v2, some v3, some v4, some (.int (t : Int)), b, c, some u8, some (.ref pl)] G8 H8 (.int ((mendWith pre one).getD t 0)) := ed_ixM rfl m8.h hget (.int _) (ed_var rfl (.int _))
    refine g_nm (s_put (K := K) (j := t) (d := .int (nudge ((mendWith pre one).getD t 0))) g8.s rfl m8 (ed_if (et_test (K := K) (ed_op hix ed_int rd_B0)) (fun c1 => ?_) (fun c1 => ?_)) (ed_var rfl (.int _)) (by rw [List.length_map]; omega) fun v G9 H9 g9 hd m9 s9 => ?_)
    · refine ed_is (ed_op hix ed_int rd_I0) ?_
      unfold nudge
      rw [if_pos (of_decide_eq_true c1)]
    · refine ed_is (ed_op hix ed_int rd_I0) ?_
      unfold nudge
      rw [if_neg (of_decide_eq_false c1)]
    · cases hd
      refine ⟨G9, (g7.trans (g8.trans g9)).mut hp0 m9.n, (g8.trans g9).g, _, _, _, rfl, ?_⟩
      rw [hnext, List.map_set]
      exact m9
  · rintro σ' G7 H7 g7 s7 ⟨a, b, c, rfl, m7⟩
    have g8 := g7.freeze hp0 m7
    refine s_ret (K := K) g8.s (ed_cb (ea_cons (ed_var rfl (.lst (.of upd_same) (DpAll.ofInts (mendWith lot one)))) ea_nil) ra_tupL) fun v G'' H'' g'' hd => qn v _ _ (g8.trans g'') ?_
    rw [mended, hml]
    exact hd
end
end Bw
set_option Elab.async false
set_option linter.all false
set_option maxRecDepth 100000
set_option maxHeartbeats 4000000
namespace Bw
open PySem PySem.Spec PyProof.Rows L2 Bo
theorem sum_pow_lt {l : List Nat} {m : Nat} (hn : l.Nodup) (h : ∀ t ∈ l, t < m) : (l.map (2 ^ ·)).sum < 2 ^ m := by
  induction m generalizing l with
  | zero =>
    cases l with
    | nil => simp
    | cons a r => exact absurd (h a (List.mem_cons_self ..)) (Nat.not_lt_zero _)
  | succ m ih =>
    have e2 : 2 ^ (m + 1) = 2 * 2 ^ m := by rw [Nat.pow_succ, Nat.mul_comm]
    have h1 := ih (l := l.erase m) (hn.erase _) fun x hx => by
      rw [hn.mem_erase_iff] at hx
      have := h x hx.2
      omega
    by_cases hm : m ∈ l
    · have hp := (List.perm_cons_erase hm).map (2 ^ · : Nat → Nat)
      rw [hp.sum_nat, List.map_cons, List.sum_cons]
      omega
    · rw [List.erase_of_not_mem hm] at h1
      omega
theorem tiesAt_nodup (T : Ties) (p : Nat) : (tiesAt T p).Nodup := by
  unfold tiesAt
  have h : (T.zipIdx.map (·.2)).Nodup := by
    rw [List.zipIdx_map_snd]
    exact List.nodup_range'
  exact (List.Sublist.map _ List.filter_sublist).nodup h
theorem lMask_tiesAt (T : Ties) (p : Nat) : lMask (tiesAt T p) < 2 ^ T.length := sum_pow_lt (tiesAt_nodup T p) fun t ht => tiesAt_lt ht
theorem lStars_lt {n : Nat} {T : Ties} : ∀ s ∈ lStars n T, s < 2 ^ T.length := fun s hs => by
  unfold lStars at hs
  obtain ⟨p, _, rfl⟩ := List.mem_map.mp hs
  exact lMask_tiesAt T p
theorem and_lt8 {a b m : Nat} (h : a < 2 ^ m) (hm : m ≤ 8) : a &&& b < 256 := Nat.lt_of_le_of_lt Nat.and_le_left (Nat.lt_of_lt_of_le h (Nat.pow_le_pow_right (by decide) hm))
/-- the webs of the law: few places, few ties -/
structure Ok8 (n : Nat) (T : Ties) : Prop where
  ok : Ok n T
  n4 : n ≤ 4
  t8 : T.length ≤ 8
section
variable {P : Program} {w : World} {K : PySem.W.Frag} {mg : Str → Option Value} {base : Heap}
theorem rd_andI {a : Nat} {j : Int} {b : Nat} (h : j = (b : Int)) : RD K (rI0 fun i j => .int (Builtin.bitAnd i j)) (natD a) (.int j) (natD (a &&& b)) := by subst h; exact rd_andN
-- slots of _law_bits: 0 _law_mask_here, 1 _law_counts
abbrev s_law_bits : Stmt := top 38
abbrev N_law_bits : List Str := ["_law_mask_here", "_law_counts"]
theorem sc_law_bits : FnScope N_law_bits ["_law_mask_here"] (defScope s_law_bits) := ⟨rfl, rfl, rfl, by decide +kernel, rfl, by decide +kernel, by decide +kernel⟩
abbrev sp_law_bits (K : PySem.W.Frag) : Sp := spD (α := Nat) K (fun a => a < 256) (fun a => [natD a]) (fun a => natD (lBits a))
theorem c_law_bits {f : Addr} {fd : FuncData} (T : Txt mg) (F : Fd K mg "_law_bits" s_law_bits f fd)  : Cal P w K mg base CX0 "_law_bits" 1 ["_law_mask_here"] (sp_law_bits K) := by
  refine okD F sc_law_bits (F.fn.binds fun _ _ _ _ _ _ us hl => match us, hl with | [_], _ => rfl) (fun _ => rfl) fun cdv A outer s H G vs a Q E hr hp hs hv q => ?_
  have nd := sc_law_bits.nd
  have hu := hr.units
  have hu1 := hu_of hr
  refine ⟨_, (pss_cons (ps_set (i := 1) nd rfl (Or.inl rfl) (pe_tup (pa_cons pe_int (pa_cons pe_int (pa_cons pe_int (pa_cons pe_int (pa_cons pe_int (pa_cons pe_int (pa_cons pe_int (pa_cons pe_int (pa_cons pe_int (pa_cons pe_int (pa_cons pe_int (pa_cons pe_int (pa_cons pe_int (pa_cons pe_int (pa_cons pe_int (pa_cons pe_int pa_nil))))))))))))))))))
     (pss_one (ps_ret (pe_op op_add (pe_ix ix_tup (pv 1) (pe_op op_and (pv 0) pe_int) (fun _ _ => rfl)) (pe_ix ix_tup (pv 1) (pe_op op_shr (pv 0) pe_int) (fun _ _ => rfl)))))), ?_⟩
  obtain ⟨v0, rfl, h0⟩ := dpa1 hv
  cases h0
  have h1 : a &&& 15 < cnt16.length := Nat.lt_of_le_of_lt Nat.and_le_right (by decide)
  have h2 : a / 2 ^ 4 < cnt16.length := by
    show a / 16 < 16
    omega
  refine q_set (K := K) (d := .tuple (cnt16.map natD)) hs (ed_tup (ea_cons ed_int (ea_cons ed_int (ea_cons ed_int (ea_cons ed_int (ea_cons ed_int (ea_cons ed_int (ea_cons ed_int (ea_cons ed_int (ea_cons ed_int (ea_cons ed_int (ea_cons ed_int (ea_cons ed_int (ea_cons ed_int (ea_cons ed_int (ea_cons ed_int (ea_cons ed_int ea_nil)))))))))))))))) (by decide)) fun v G1 H1 g1 hd => ?_
  exact s_ret (K := K) g1.s (ed_op (ed_op (ed_var rfl hd) (ed_op (ed_var rfl (.int _)) ed_int (rd_andN (b := 15))) (rd_ixTn (get_nat h1))) (ed_op (ed_var rfl hd) (ed_op (ed_var rfl (.int _)) ed_int (rd_shrN (b := 4))) (rd_ixTn (get_nat h2))) rd_addN) fun v G2 H2 g2 hd2 => q v _ _ (g1.trans g2) hd2
-- slots of _law_mask: 0 _law_lot_here, 1 _law_tie
abbrev s_law_mask : Stmt := top 39
abbrev N_law_mask : List Str := ["_law_lot_here", "_law_tie"]
theorem sc_law_mask : FnScope N_law_mask ["_law_lot_here"] (defScope s_law_mask) := ⟨rfl, rfl, rfl, by decide +kernel, rfl, by decide +kernel, by decide +kernel⟩
def sp_law_mask (K : PySem.W.Frag) : Sp := fun vs H Q _ => ∃ (l : List Nat) (G : Hp), (l.length ≤ 1000 ∧ ∀ t ∈ l, t ≤ 1000) ∧ Same G H ∧ (DpAll K G vs [natsL l] ∨ DpAll K G vs [natsT l]) ∧ ∀ v G' H', Gr G H G' H' → Dp K G' v (natD (lMask l)) → Q v H'
theorem ed_mask {σ : L2.St} {G H : Hp} {ta : TA} {l : List Nat} (h : EA K ta σ G H [natsL l] ∨ EA K ta σ G H [natsT l]) (hl : l.length ≤ 1000 ∧ ∀ t ∈ l, t ≤ 1000) : ED K (tCall (sp_law_mask K) [] E0 ta) σ G H (natD (lMask l)) := fun G0 H0 g0 Q q => by
  rcases h with h | h
  · exact h G0 H0 g0 _ fun xs G1 H1 g1 hx => ⟨l, G1, hl, g1.s, .inl (by rw [List.append_nil]; exact hx), fun v G2 H2 g2 hv => q v G2 H2 (g1.trans g2) hv⟩
  · exact h G0 H0 g0 _ fun xs G1 H1 g1 hx => ⟨l, G1, hl, g1.s, .inr (by rw [List.append_nil]; exact hx), fun v G2 H2 g2 hv => q v G2 H2 (g1.trans g2) hv⟩
theorem c_law_mask {f : Addr} {fd : FuncData} (T : Txt mg) (F : Fd K mg "_law_mask" s_law_mask f fd) : Cal P w K mg base CX0 "_law_mask" 1 ["_law_lot_here"] (sp_law_mask K) := by
  refine ⟨f, fd, ?_, F.mg, F.fn.kp, F.fn.binds fun _ _ _ _ _ _ us hl => match us, hl with | [_], _ => rfl⟩
  refine F.fn.ok sc_law_mask (fun vs H Q E h => ?_) (fun cdv A outer s H vs Q E hr h => ?_)
  · obtain ⟨a, G, _, _, h | h, _⟩ := h
    · rw [h.len]; rfl
    · rw [h.len]; rfl
  obtain ⟨l, G, ⟨hl, hb⟩, hs, hv, q⟩ := h
  have nd := sc_law_mask.nd
  have hu := hr.units
  have hu1 := hu_of hr
  refine ⟨_, (pss_one (ps_ret (pe_callB (cr_sum rfl) rfl T.sum (by decide +kernel) (pa_cons (pe_lc (own := [("_law_tie", 1)]) (g := gName 1) (tt := tYes) (te := tOp (rI CPow fun i j => .int (i * 2 ^ j.toNat)) (tC (.int 1)) (tVar 1)) rfl nd (pi_seq (pv 0)) (blkOk_by (N := N_law_mask) (sc := defScope s_law_mask) (by decide +kernel)) (fun _ _ _ _ _ => (pg_name (i := 1) nd rfl (Or.inl rfl))) (fun _ _ _ _ _ => pts_nil) (fun _ _ _ _ _ => (pe_op op_shl pe_int (pv 1)))) pa_nil)))), ?_⟩
  have main : ∀ v0, vs = [v0] → ES K (iSeq K (tVar 0)) [some v0, none] G H (l.map natD) → tRet (tCB (rSum K) (tCons (tLc (iSeq K (tVar 0)) (gName 1) tYes (tOp (rI CPow fun i j => .int (i * 2 ^ j.toNat)) (tC (.int 1)) (tVar 1)) [1]) tNil)) { nx := fun _ H' => Q .non H', rt := Q } (start N_law_mask vs) H := by
    rintro v0 rfl hes
    refine s_ret (K := K) hs (ed_cb (ea_cons (ed_is (ed_lcA l natD (fun t => natD (2 ^ t)) hes (by omega) fun t ht x G' H' g' hx => ?_) (show _ = natsL (l.map (2 ^ ·)) by show PyData.list _ = PyData.list ((List.map _ _).map natD); rw [List.map_map]; rfl)) ea_nil) ra_sumN) q
    cases hx
    exact ⟨_, fun Q q => q, rfl, ed_is (ed_op ed_int (ed_var rfl (.int _)) (rd_shlN (a := 1) (by decide) (by have := hb t ht; omega))) (by rw [Nat.one_mul])⟩
  rcases hv with hv | hv
  · obtain ⟨v0, rfl, h0⟩ := dpa1 hv
    exact main v0 rfl (es_seqL (ed_var rfl h0))
  · obtain ⟨v0, rfl, h0⟩ := dpa1 hv
    exact main v0 rfl (es_seqT (ed_var rfl h0))
-- slots of _law_lot: 0 _law_mask_here*, 1 _law_many, 2 _law_tie
abbrev s_law_lot : Stmt := top 40
abbrev N_law_lot : List Str := ["_law_mask_here", "_law_many", "_law_tie"]
theorem sc_law_lot : FnScope N_law_lot ["_law_mask_here", "_law_many"] (defScope s_law_lot) := ⟨rfl, rfl, rfl, by decide +kernel, rfl, by decide +kernel, by decide +kernel⟩
abbrev sp_law_lot (K : PySem.W.Frag) : Sp := spD (α := Nat × Nat) K (fun a => a.2 ≤ 1000) (fun a => [natD a.1, natD a.2]) (fun a => natsT (lLot a.1 a.2))
theorem c_law_lot {f : Addr} {fd : FuncData} (T : Txt mg) (F : Fd K mg "_law_lot" s_law_lot f fd)  : Cal P w K mg base CX0 "_law_lot" 1 ["_law_mask_here", "_law_many"] (sp_law_lot K) := by
  refine okD F sc_law_lot (F.fn.binds fun _ _ _ _ _ _ us hl => match us, hl with | [_, _], _ => rfl) (fun _ => rfl) fun cdv A outer s H G vs a Q E hr hp hs hv q => ?_
  have nd := sc_law_lot.nd
  have hu := hr.units
  have hu1 := hu_of hr
  refine ⟨_, (pss_one (ps_ret (pe_callTy call_tuple_of rfl T.tuple_ (by decide +kernel) (pa_cons (pe_lc (own := [("_law_tie", 2)]) (g := gName 2) (tt := tTest (tOp (rEq) (tOp (rI0 fun i j => .int (Builtin.bitAnd i j)) (tOp (rI (fun _ j => 0 ≤ j) fun i j => .int (i / 2 ^ j.toNat)) (tVar 0) (tVar 2)) (tC (.int 1))) (tC (.int 1)))) (te := tVar 2) rfl nd (pi_range1 rfl T.range (pa_cons (pv 1) pa_nil)) (blkOk_by (N := N_law_lot) (sc := defScope s_law_lot) (by decide +kernel)) (fun _ _ _ _ _ => (pg_name (i := 2) nd rfl (Or.inl rfl))) (fun _ _ _ _ _ => (pts_one (pt_cmpR op_eq (pe_op op_and (pe_op op_shr (pv 0) (pv 2)) pe_int) pe_int (nomark _)))) (fun _ _ _ _ _ => (pv 2))) pa_nil)))), ?_⟩
  obtain ⟨m, n⟩ := a
  dsimp only at hv q hp
  obtain ⟨v0, v1, rfl, h0, h1⟩ := dpa2 hv
  cases h0; cases h1
  refine s_ret (K := K) hs (ed_cb (ea_cons (ed_is (ed_lc (List.range n) natD (fun t => decide (m / 2 ^ t &&& 1 = 1)) natD (es_rngN (ed_var rfl (.int _)) (by omega)) (by rw [List.length_range]; omega) fun t ht x G' H' g' hx => ?_) (show _ = natsL (lLot m n) by rfl)) ea_nil) ra_tupL) q
  cases hx
  exact ⟨_, fun Q q => q, rfl, et_test (K := K) (ed_op (ed_op (ed_op (ed_var rfl (.int _)) (ed_var rfl (.int _)) rd_shrN) ed_int (rd_andN (b := 1))) ed_int (rd_eqN (b := 1))), fun _ => ed_var rfl (.int _)⟩
-- slots of _law_stars: 0 _law_web_here*, 1 _law_k, 2 _law_ends, 3 _law_place*
abbrev s_law_stars : Stmt := top 41
abbrev N_law_stars : List Str := ["_law_web_here", "_law_k", "_law_ends", "_law_place"]
theorem sc_law_stars : FnScope N_law_stars ["_law_web_here"] (defScope s_law_stars) := ⟨rfl, rfl, rfl, by decide +kernel, rfl, by decide +kernel, by decide +kernel⟩
abbrev sp_law_stars (K : PySem.W.Frag) : Sp := spD (α := Nat × Ties) K (fun a => Ok a.1 a.2) (fun a => [webD a.1 a.2]) (fun a => natsL (lStars a.1 a.2))
theorem c_law_stars {f : Addr} {fd : FuncData} (T : Txt mg) (F : Fd K mg "_law_stars" s_law_stars f fd) (C_law_mask : Cal P w K mg base CX0 "_law_mask" 1 ["_law_lot_here"] (sp_law_mask K)) : Cal P w K mg base CX0 "_law_stars" 2 ["_law_web_here"] (sp_law_stars K) := by
  refine okD F sc_law_stars (F.fn.binds fun _ _ _ _ _ _ us hl => match us, hl with | [_], _ => rfl) (fun _ => rfl) fun cdv A outer s H G vs a Q E hr hp hs hv q => ?_
  have nd := sc_law_stars.nd
  have hu := hr.units
  have hu1 := hu_of hr
  refine ⟨_, (pss_one (ps_ret (pe_lc (own := [("_law_place", 3)]) (g := gName 3) (tt := tYes) (te := tCall (sp_law_mask K) [] E0 (tCons (tLc (iEnumT K (tCons (tOp (rIxT K) (tVar 0) (tC (.int 1))) (tNil))) (gTup K 2 (gCons (gName 1) (gCons (gName 2) gNil))) (tTest (tOp (rIn K false) (tVar 3) (tVar 2))) (tVar 1) [1, 2]) (tNil))) rfl nd (pi_range1 rfl T.range (pa_cons (pe_ix ix_tup (pv 0) pe_int (fun _ _ => rfl)) pa_nil)) (blkOk_by (N := N_law_stars) (sc := defScope s_law_stars) (by decide +kernel)) (fun _ _ _ _ _ => (pg_name (i := 3) nd rfl (Or.inr rfl))) (fun _ _ _ _ _ => pts_nil) (fun _ _ _ _ _ => (pe_cal C_law_mask (hr.mono (by decide)) rfl (pa_cons (pe_lc (own := [("_law_k", 1), ("_law_ends", 2)]) (g := gTup K 2 (gCons (gName 1) (gCons (gName 2) gNil))) (tt := tTest (tOp (rIn K false) (tVar 3) (tVar 2))) (te := tVar 1) rfl nd (pi_enumT rfl T.enumerate (pa_cons (pe_ix ix_tup (pv 0) pe_int (fun _ _ => rfl)) pa_nil)) (blkIn (N := N_law_stars) (so := defScope s_law_stars) (by decide +kernel)) (fun _ _ _ _ _ => (pg_tup rfl (pgs_cons (pg_name (i := 1) nd rfl (Or.inl rfl)) (pgs_cons (pg_name (i := 2) nd rfl (Or.inl rfl)) pgs_nil)))) (fun _ _ _ _ _ => (pts_one (pt_cmpR op_in_seq (pv 3) (pv 2) (by rfl)))) (fun _ _ _ _ _ => (pv 1))) pa_nil)))))), ?_⟩
  obtain ⟨n, W⟩ := a
  dsimp only at hv q hp
  obtain ⟨v0, rfl, h0⟩ := dpa1 hv
  have hhi := hp.hi
  have hfew := hp.few
  refine s_ret (K := K) hs (ed_is (ed_lcA (List.range n) natD (fun p => natD (lMask (tiesAt W p))) (es_rngN (ed_op (ed_var rfl h0) ed_int (rd_ixT (j := 0) rfl rfl)) (by omega)) (by rw [List.length_range]; omega) fun p hp x G' H' g' hx => ?_) ?_) q
  · cases hx
    refine ⟨_, fun Q q => q, rfl, ed_mask (.inl (ea_cons (ed_is (ed_lc W.zipIdx (fun q => .tuple [natD q.2, tieD q.1]) (fun q => decide (p = q.1.1 ∨ p = q.1.2)) (fun q => natD q.2) ?_ ?_ ?_) ?_) ea_nil)) ⟨?_, ?_⟩⟩
    · rw [← numbered_map]
      exact es_enumT (ea_cons (ed_op (ed_var rfl (dp_mono g'.g _ _ h0)) ed_int (rd_ixT (j := 1) rfl rfl)) ea_nil)
    · rw [List.length_zipIdx]; omega
    · rintro ⟨⟨e1, e2⟩, t⟩ hm xv G2 H2 g2 hx
      obtain ⟨u1, u2, f1, f2, gk⟩ := g_pair hx
      cases f1
      exact ⟨_, fun Q q => gk _ _ _ _ _ g2.s q, rfl, et_test (K := K) (ed_is (ed_op (ed_var rfl (.int _)) (ed_var rfl f2) (rd_inTN (ns := [e1, e2]))) (by simp)), fun _ => ed_var rfl (.int _)⟩
    · unfold tiesAt
      show PyData.list _ = PyData.list ((List.map _ _).map natD)
      rw [List.map_map]; rfl
    · exact Nat.le_trans (tiesAt_len W p) (by omega)
    · intro t ht
      have := tiesAt_lt ht
      omega
  · unfold lStars
    show PyData.list _ = PyData.list ((List.map _ _).map natD)
    rw [List.map_map]; rfl
end
end Bw
/-! The law's gaps. -/
namespace Bo
def sortBits (ns : List Nat) : List Nat := ns.mergeSort fun a b => decide (((lBits a : Nat) : Int) ≤ ((lBits b : Nat) : Int))
def lGapStep (span : List Nat) (found : List (Nat × Nat)) (mask : Nat) : List (Nat × Nat) := if valN found mask = none then span.foldl (fun k o => putD k (mask ^^^ o) (lBits mask)) found else found
def lGaps (n : Nat) (T : Ties) : List (Nat × Nat) := (sortBits (List.range (2 ^ T.length))).foldl (lGapStep (lSpan n T)) []
theorem sortBits_perm (ns : List Nat) : (sortBits ns).Perm ns := List.mergeSort_perm _ _
theorem sortBits_pw (ns : List Nat) : (sortBits ns).Pairwise fun a b => lBits a ≤ lBits b := by
  have h := List.pairwise_mergeSort (le := fun a b => decide (((lBits a : Nat) : Int) ≤ ((lBits b : Nat) : Int))) (fun a b c h1 h2 => by simp at *; omega) (fun a b => by simp; omega) ns
  exact h.imp fun h => by simpa using h
theorem lMask_lt {lot : List Nat} {m : Nat} (hn : lot.Nodup) (h : ∀ t ∈ lot, t < m) : lMask lot < 2 ^ m := by
  unfold lMask
  induction m generalizing lot with
  | zero =>
    cases lot with
    | nil => simp
    | cons a r => exact absurd (h a (List.mem_cons_self ..)) (Nat.not_lt_zero _)
  | succ m ih =>
    have e2 : 2 ^ (m + 1) = 2 * 2 ^ m := by rw [Nat.pow_succ, Nat.mul_comm]
    have h1 := ih (lot := lot.erase m) (hn.erase _) fun x hx => by
      rw [hn.mem_erase_iff] at hx
      have := h x hx.2
      omega
    by_cases hm : m ∈ lot
    · have hp := (List.perm_cons_erase hm).map (2 ^ · : Nat → Nat)
      rw [hp.sum_nat, List.map_cons, List.sum_cons]
      omega
    · rw [List.erase_of_not_mem hm] at h1
      omega
theorem zipNums_nodup {α : Type} (T : List α) (f : α × Nat → Bool) : ((T.zipIdx.filter f).map (·.2)).Nodup := by
  have h : (T.zipIdx.map (·.2)).Nodup := by
    rw [List.zipIdx_map_snd]
    exact List.nodup_range'
  exact (List.Sublist.map _ List.filter_sublist).nodup h
theorem zipNums_lt {α : Type} {T : List α} {f : α × Nat → Bool} {t : Nat} (h : t ∈ (T.zipIdx.filter f).map (·.2)) : t < T.length := by
  obtain ⟨q, hq, rfl⟩ := List.mem_map.mp h
  have := List.mem_zipIdx (List.mem_filter.mp hq).1
  simp at this
  omega
theorem lCut_lt (n : Nat) (T : Ties) (s : Nat) : lCut n T s < 2 ^ T.length := lMask_lt (zipNums_nodup T _) fun _ h => zipNums_lt h
theorem lCuts_lt {n : Nat} {T : Ties} : ∀ c ∈ lCuts n T, c < 2 ^ T.length := fun c h => by
  unfold lCuts at h
  obtain ⟨s, _, rfl⟩ := List.mem_map.mp h
  exact lCut_lt n T s
theorem evens_lt {n : Nat} {T : Ties} : ∀ m ∈ lEvens n T, m < 2 ^ T.length := fun m h => List.mem_range.mp (List.mem_filter.mp h).1
/-- what a dict's keys are behind more puts -/
structure KInv (M : Nat) {α : Type} (k : List (Nat × α)) : Prop where
  nd : (k.map (·.1)).Nodup
  lt : ∀ q ∈ k, q.1 < M
theorem KInv.nil {M : Nat} {α : Type} : KInv M ([] : List (Nat × α)) := ⟨List.nodup_nil, fun _ h => absurd h List.not_mem_nil⟩
theorem KInv.put {M : Nat} {α : Type} {k : List (Nat × α)} {x : Nat} {a : α} (h : KInv M k) (hx : x < M) : KInv M (putD k x a) := by
  unfold putD
  by_cases c : (valN k x).isSome
  · rw [if_pos c]
    have e : (k.map fun p => if p.1 = x then (p.1, a) else p).map (·.1) = k.map (·.1) := by
      rw [List.map_map]
      refine List.map_congr_left fun p _ => ?_
      show (if p.1 = x then (p.1, a) else p).1 = p.1
      split <;> rfl
    refine ⟨by rw [e]; exact h.nd, fun q hq => ?_⟩
    obtain ⟨p, hp, rfl⟩ := List.mem_map.mp hq
    have := h.lt p hp
    split <;> exact this
  · rw [if_neg c]
    have hn : valN k x = none := by simpa using c
    refine ⟨nodup_snoc h.nd hn, fun q hq => ?_⟩
    rcases List.mem_append.mp hq with z | z
    · exact h.lt q z
    · rw [List.mem_singleton.mp z]; exact hx
theorem KInv.puts {M : Nat} {α β : Type} {f : β → Nat} {g : β → α} (l : List β) : ∀ {k : List (Nat × α)}, KInv M k → (∀ e ∈ l, f e < M) → KInv M (l.foldl (fun k e => putD k (f e) (g e)) k) := by
  induction l with
  | nil => exact fun h _ => h
  | cons b r ih => exact fun h hl => ih (h.put (hl b (List.mem_cons_self ..))) fun e he => hl e (List.mem_cons_of_mem _ he)
theorem KInv.len {M : Nat} {α : Type} {k : List (Nat × α)} (h : KInv M k) : k.length ≤ M := by
  have := nodup_lt h.nd fun x hx => by
    obtain ⟨q, hq, rfl⟩ := List.mem_map.mp hx
    exact h.lt q hq
  rwa [List.length_map] at this
theorem lSpanK_inv {n : Nat} {T : Ties} : KInv (2 ^ T.length) (lSpanK n T) := by
  unfold lSpanK
  have key : ∀ (l : List Nat) (k : List (Nat × Bool)), (∀ c ∈ l, c < 2 ^ T.length) → KInv (2 ^ T.length) k → KInv (2 ^ T.length) (l.foldl (fun k c => (lEvens n T).foldl (fun k e => putD k (c ^^^ e) true) k) k) := by
    intro l
    induction l with
    | nil => exact fun _ _ h => h
    | cons c r ih =>
      intro k hl hk
      refine ih _ (fun x hx => hl x (List.mem_cons_of_mem _ hx)) ?_
      exact KInv.puts (f := fun e => c ^^^ e) (g := fun _ => true) _ hk fun e he => Nat.xor_lt_two_pow (hl c (List.mem_cons_self ..)) (evens_lt e he)
  exact key _ _ lCuts_lt KInv.nil
theorem lSpan_lt {n : Nat} {T : Ties} : ∀ s ∈ lSpan n T, s < 2 ^ T.length := fun s h => by
  unfold lSpan at h
  rw [show s ∈ sortN _ ↔ _ from (List.mergeSort_perm _ _).mem_iff, List.mem_map] at h
  obtain ⟨q, hq, rfl⟩ := h
  exact lSpanK_inv.lt q hq
theorem lSpan_len {n : Nat} {T : Ties} : (lSpan n T).length ≤ 2 ^ T.length := by
  unfold lSpan
  rw [show (sortN _).length = _ from (List.mergeSort_perm _ _).length_eq, List.length_map]
  exact lSpanK_inv.len
theorem lGapStep_inv {n : Nat} {T : Ties} {k : List (Nat × Nat)} {m : Nat} (hm : m < 2 ^ T.length) (h : KInv (2 ^ T.length) k) : KInv (2 ^ T.length) (lGapStep (lSpan n T) k m) := by
  unfold lGapStep
  split
  · exact KInv.puts (f := fun o => m ^^^ o) (g := fun _ => lBits m) _ h fun o ho => Nat.xor_lt_two_pow hm (lSpan_lt o ho)
  · exact h
theorem lGapRun_inv {n : Nat} {T : Ties} (l : List Nat) : ∀ {k : List (Nat × Nat)}, (∀ m ∈ l, m < 2 ^ T.length) → KInv (2 ^ T.length) k → KInv (2 ^ T.length) (l.foldl (lGapStep (lSpan n T)) k) := by
  induction l with
  | nil => exact fun _ h => h
  | cons m r ih => exact fun hl h => ih (fun x hx => hl x (List.mem_cons_of_mem _ hx)) (lGapStep_inv (hl m (List.mem_cons_self ..)) h)
end Bo
set_option Elab.async false
set_option linter.all false
set_option maxRecDepth 100000
set_option maxHeartbeats 4000000
namespace Bw
open PySem PySem.Spec PyProof.Rows L2 Bo
inductive IntEs : List Expr → List Nat → Prop
  | nil : IntEs [] []
  | cons (i k : Nat) (p : Pos) {es : List Expr} {is : List Nat} (h : IntEs es is) : IntEs (.Constant (.int (i : Int)) k p :: es) (i :: is)
inductive NatsAre : List Value → List Nat → Prop
  | nil : NatsAre [] []
  | cons (i : Nat) (t : Tok) {vs : List Value} {is : List Nat} (h : NatsAre vs is) : NatsAre (.int (i : Int) t :: vs) (i :: is)
theorem NatsAre.len : ∀ {vs : List Value} {is : List Nat}, NatsAre vs is → vs.length = is.length := by
  intro vs is h
  induction h with
  | nil => rfl
  | cons _ _ _ ih => rw [List.length_cons, List.length_cons, ih]
theorem NatsAre.get : ∀ {vs : List Value} {is : List Nat}, NatsAre vs is → ∀ {j : Nat}, j < is.length → ∃ t, vs[j]? = some (.int (is.getD j 0 : Nat) t) := by
  intro vs is h
  induction h with
  | nil => intro j hj; exact absurd hj (Nat.not_lt_zero _)
  | cons i t h ih =>
    intro j hj
    cases j with
    | zero => exact ⟨t, rfl⟩
    | succ j =>
      obtain ⟨u, e⟩ := ih (by simpa using hj)
      exact ⟨u, by simpa using e⟩
theorem body_bits : ∃ (es : List Expr) (k : Nat) (k1 k2 : Nat) (p1 p2 p3 p4 p5 p6 p7 p8 p9 q4 q5 q6 q7 q8 r1 : Pos), defBody s_law_bits = [.Assign [.Name "_law_counts" p1] (.Tuple es k p2) p3,
    .Return (some (.BinOp (.Subscript (.Name "_law_counts" p4) (.BinOp (.Name "_law_mask_here" p5) .BitAnd (.Constant (.int 15) k1 p6) p7) p8) .Add (.Subscript (.Name "_law_counts" q4) (.BinOp (.Name "_law_mask_here" q5) .RShift (.Constant (.int 4) k2 q6) q7) q8) p9)) r1] ∧ IntEs es cnt16 := by
  refine ⟨_, _, _, _, _, _, _, _, _, _, _, _, _, _, _, _, _, _, _, rfl, ?_⟩
  exact .cons _ _ _ (.cons _ _ _ (.cons _ _ _ (.cons _ _ _ (.cons _ _ _ (.cons _ _ _ (.cons _ _ _ (.cons _ _ _ (.cons _ _ _ (.cons _ _ _ (.cons _ _ _ (.cons _ _ _ (.cons _ _ _ (.cons _ _ _ (.cons _ _ _ (.cons _ _ _ .nil)))))))))))))))
section
variable {prog : Program} {w : World} {A : Around} {R : Result → Shared → Prop} {s : Shared} {K : PySem.W.Frag} {f : Addr} {fd : FuncData}
theorem ints_at {E : Value → Shared → Prop} {env : Env} {pos : Pos} : ∀ {es : List Expr} {is : List Nat} {s : Shared} {Q : List Value → Shared → Prop}, IntEs es is → (∀ us tk, NatsAre us is → Q us { s with toks := tk }) → wpAny (model prog w) A (spliced (backTo pos (starEach es env))) Q E s := by
  intro es is s Q h
  induction h generalizing s Q with
  | nil => exact fun q => Calls.spliced_nil (q [] s.toks .nil)
  | @cons i k p es is h ih =>
    intro q
    show wpAny _ _ (spliced ((false, eval (.Constant (.int (i : Int)) k p) env) :: backTo pos (starEach es env))) _ _ s
    refine Calls.spliced_cons (wpAny_Constant_int ?_)
    exact ih fun us tk hu => q _ tk (.cons i _ hu)
theorem tupAt {A : Around} {E : Value → Shared → Prop} {s : Shared} {value slice : Expr} {p : Addr} {tk : Tok} {x : Value} {its : Array Value} {j : Nat} {Q : Value → Shared → Prop} (ht : s.heap.IsTuple p its) (hj : j < its.size) (hz : its.size ≤ 1000) (hx : its[j]? = some x)
    (hs : subscripted slice false (.ref p) (.int (j : Int) tk) = operate [.ref p, .int (j : Int) tk] (getItem (.ref p) (.int (j : Int) tk))) (q : Q x s) : wpAny (model prog w) A (subscriptTail value slice (.ref p) (.int (j : Int) tk)) Q E s := by
  refine subscriptTail_builtinR (x := x) ht.typeIs slot_tuple_getitem.lookup (getItem_tuple (j := j) (Q := fun r s' => r = x ∧ Q r s') ht (by omega) (by omega) ?_ hx ⟨rfl, q⟩) hs
  unfold seqIndex?
  have h0 : ¬ ((j : Int) < 0) := by omega
  simp [hj, h0]
theorem bits_raw (F : Fun K "_law_bits" "_law_bits" s_law_bits f fd) {m : Nat} {t : Tok} (hm : m < 256) (X : K.In s.heap) (hlim : s.heap.NoLimit) (hroom : A.depth < recursionLimit)
    (hq : ∀ h' tk t', (∀ b o, s.heap.get? b = some o → h'.get? b = some o) → R (.ok (.ret (.int (lBits m : Int) t'))) { s with heap := h', toks := tk }) :
    codeAny (model prog w) A (.call (.ref f) ⟨[.int m t], []⟩) R s := by
  obtain ⟨oc, od, kV, doc, pm, an, cdv, ct, osl, rfl, lk, hcd⟩ := F.ex
  refine Att.call_fn (binds := [("_law_mask_here", .int m t)]) X hlim lk hcd hroom (BindsTo.of_eq (by first | rfl | with_unfolding_all rfl)) (by first | rfl | decide | with_unfolding_all rfl) (fun s₁ IC => ?_) rfl rfl rfl
  obtain ⟨h₁, tk₁, rfl⟩ := IC.toInCall.same
  have k : ∀ b o, s.heap.get? b = some o → h₁.get? b = some o := IC.toInCall.keep
  have hn := IC.toInCall.ns
  have hkm : (envOfC (Str.ofString "_law_bits") (defScope s_law_bits) s.heap.objs.size f cdv).kindOf "_law_mask_here" = some .local := rfl
  have hkc : (envOfC (Str.ofString "_law_bits") (defScope s_law_bits) s.heap.objs.size f cdv).kindOf "_law_counts" = some .local := rfl
  have hkf : (envOfC (Str.ofString "_law_bits") (defScope s_law_bits) s.heap.objs.size f cdv).scope.kind = .function := rfl
  have hlc : (envOfC (Str.ofString "_law_bits") (defScope s_law_bits) s.heap.objs.size f cdv).locals = s.heap.objs.size := rfl
  have hm0 : bindL (envOfC (Str.ofString "_law_bits") (defScope s_law_bits) s.heap.objs.size f cdv).kindOf [("_law_mask_here", Value.int m t)] (fun _ => none) "_law_mask_here" = some (.int m t) := by first | rfl | with_unfolding_all rfl | kernel_rfl
  generalize bindL (envOfC (Str.ofString "_law_bits") (defScope s_law_bits) s.heap.objs.size f cdv).kindOf [("_law_mask_here", Value.int m t)] (fun _ => none) = mm at hn hm0
  generalize hE : envOfC (Str.ofString "_law_bits") (defScope s_law_bits) s.heap.objs.size f cdv = env at hkm hkc hkf hlc
  have hcls : (env.scope.kind == .class || (env.scope.kind == .module && env.locals != env.globals)) = false := by rw [hkf]; rfl
  clear hE IC
  obtain ⟨es, kt, k1, k2, p1, p2, p3, p4, p5, p6, p7, p8, p9, q4, q5, q6, q7, q8, r1, hb, hes⟩ := body_bits
  rw [hb]
  refine wpAny_execs_cons (wpAny_Assign_Name (wpAny_Tuple_spliced (ints_at hes fun us tk hu => ⟨by rw [hu.len, sizeLine_eq]; decide, ?_⟩)) (by rfl))
  rw [← hlc] at hn
  have hT : ((h₁.push { cls := .type "tuple", data := .seq us.toArray }).IsTuple h₁.objs.size us.toArray) := ⟨_, Heap.get?_push_size _ rfl, rfl, _, rfl⟩
  refine wpAny_storeName_local hkc (hn.at fun o q => Heap.get?_push_of_some _ q) (fun h₂ hn₂ hs₂ => ?_) hcls
  have hup : ∀ b o, b ≠ env.locals → h₁.get? b = some o → h₂.get? b = some o := fun b o hb e => (hs₂.2 b hb).trans (Heap.get?_push_of_some _ e)
  have hTL : h₁.objs.size ≠ env.locals := Nat.ne_of_gt hn.lt
  have hT₂ : h₂.IsTuple h₁.objs.size us.toArray := hT.at fun o q => (hs₂.2 _ hTL).trans q
  have hsz : us.toArray.size = 16 := by rw [List.size_toArray, hu.len]; rfl
  obtain ⟨t1, e1⟩ := hu.get (j := m &&& 15) (Nat.lt_of_le_of_lt Nat.and_le_right (by decide))
  obtain ⟨t2, e2⟩ := hu.get (j := m / 2 ^ 4) (by show m / 16 < 16; omega)
  refine wpAny_execs_cons (wpAny_Return_some (wpAny_BinOp (Subscript_ (wpAny_Name (wpAny_loadName_local hkf hkc hn₂ (v := .ref h₁.objs.size) (if_pos rfl) (wpAny_BinOp (wpAny_Name (wpAny_loadName_local hkf hkm hn₂ (v := .int m t) ((if_neg (by decide)).trans hm0) (wpAny_Constant_int (and_int ?_))) (by decide)))) (by decide)))))
  have e1' : us.toArray[m &&& 15]? = some (.int ((cnt16.getD (m &&& 15) 0 : Nat) : Int) t1) := by rw [List.getElem?_toArray]; exact e1
  have e2' : us.toArray[m / 2 ^ 4]? = some (.int ((cnt16.getD (m / 2 ^ 4) 0 : Nat) : Int) t2) := by rw [List.getElem?_toArray]; exact e2
  have ea : Builtin.bitAnd (m : Int) 15 = ((m &&& 15 : Nat) : Int) := by
    have := bitAnd_pp (Int.natCast_nonneg m) (show (0 : Int) ≤ 15 by decide)
    rw [this]; rfl
  rw [ea]
  refine tupAt (s := { s with heap := h₂, toks := _ }) hT₂ (by rw [hsz]; exact Nat.lt_of_le_of_lt Nat.and_le_right (by decide)) (by omega) e1' rfl ?_
  refine Subscript_ (wpAny_Name (wpAny_loadName_local hkf hkc hn₂ (v := .ref h₁.objs.size) (if_pos rfl) (wpAny_BinOp (wpAny_Name (wpAny_loadName_local hkf hkm hn₂ (v := .int m t) ((if_neg (by decide)).trans hm0) (wpAny_Constant_int (rshift_int (by decide) ?_))) (by decide)))) (by decide))
  have eb : Int.fdiv (m : Int) (2 ^ Int.toNat 4) = ((m / 2 ^ 4 : Nat) : Int) := by
    rw [Int.fdiv_eq_ediv_of_nonneg _ (by decide), Int.natCast_ediv]; rfl
  rw [eb]
  refine tupAt (s := { s with heap := h₂, toks := _ }) hT₂ (by rw [hsz]; show m / 16 < 16; omega) (by omega) e2' rfl ?_
  refine add_int ?_
  have key : ∀ b o, s.heap.get? b = some o → h₂.get? b = some o := fun b o e => hup b o (fun z => by
    have h1 : b < s.heap.objs.size := Heap.lt_size e
    rw [z, hlc] at h1
    exact absurd h1 (Nat.lt_irrefl _)) (k b o e)
  have es : ((cnt16.getD (m &&& 15) 0 : Nat) : Int) + ((cnt16.getD (m / 2 ^ 4) 0 : Nat) : Int) = ((lBits m : Nat) : Int) := by
    unfold lBits
    rw [Int.natCast_add]
  show R (.ok (.ret (.int (((cnt16.getD (m &&& 15) 0 : Nat) : Int) + ((cnt16.getD (m / 2 ^ 4) 0 : Nat) : Int)) _))) _
  rw [es]
  exact hq h₂ _ _ key
end
/-- sorted(xs, key=_law_bits) -/
def rSortBits (K : PySem.W.Frag) (f : Addr) : List V → List V → Hp → VK → Prop := fun vs zs H Q => ∃ (a : Addr) (ns : List Nat), vs = [.ref a] ∧ zs = [.ref f] ∧ SqL K H a ((ns.map fun n : Nat => (n : Int)).map V.int) ∧ (∀ n ∈ ns, n < 256) ∧
  ∀ p, H p = none → Q (.ref p) (upd H p (.lst (((sortBits ns).map fun n : Nat => (n : Int)).map V.int)))
theorem each_nats {us : List Value} : ∀ {ns : List Nat}, Vals ((ns.map fun n : Nat => (n : Int)).map V.int) us → PySem.W.EachIs (fun v (n : Nat) => ∃ t, v = Value.int (n : Int) t) us ns := by
  induction us with
  | nil => intro ns r; cases ns with
    | nil => exact .nil
    | cons _ _ => cases r
  | cons u us ih => intro ns r; cases ns with
    | nil => cases r
    | cons n ns =>
      cases r with
      | cons h1 h2 => exact .cons h1 (ih h2)
theorem vals_each {us : List Value} {ns : List Nat} (h : PySem.W.EachIs (fun v (n : Nat) => ∃ t, v = Value.int (n : Int) t) us ns) : Vals ((ns.map fun n : Nat => (n : Int)).map V.int) us := by
  induction h with
  | nil => exact .nil
  | cons h1 _ ih => exact .cons h1 ih
theorem cr_sortedBits {X : Cx} {f : Addr} {fd : FuncData} {j : Nat} (F : Fun X.K "_law_bits" "_law_bits" s_law_bits f fd) (hr : Room j X.A) : CallRK X (.builtin "sorted") [Str.ofString "key"] (rSortBits X.K f) := by
  intro pins s σ H vs zs us ws Q I r rz h
  obtain ⟨a, ns, rfl, rfl, hs, hb, q⟩ := h
  obtain rfl := Vals.ref1 r
  obtain rfl := Vals.ref1 rz
  obtain ⟨its, rv, hl, hz⟩ := I.list hs
  have he := each_nats rv
  have hdp : X.A.in1.in1.depth < recursionLimit := by have := hr.dp; show X.A.depth < _; omega
  have hun := hr.units
  refine PySem.W.sorted_key_data (b := false) (f := .ref f) (kw := [(Str.ofString "key", .ref f)]) (fun n : Nat => PyData.int ((lBits n : Nat) : Int)) hl.isList he (fun d hd d' hd' => ?_) (.inr fun d hd => ?_) (by rw [List.length_map, List.length_map] at hz; exact hz) (fun x hx => ?_) (PyProof.Rows.ksk_s1 _ _) (fun _ => PyProof.Rows.ksk_l1 _ _) (fun x => PyProof.Rows.ksk_t1 f x) (fun v n hv hn h tk k => ?_) fun out c h' tk k fr ho hlo heo => ?_
  · obtain ⟨n, _, rfl⟩ := List.mem_map.mp hd
    obtain ⟨n', _, rfl⟩ := List.mem_map.mp hd'
    rfl
  · obtain ⟨n, _, rfl⟩ := List.mem_map.mp hd
    exact ⟨fun z => (nomatch z), fun xs z => (nomatch z)⟩
  · show X.A.units + 2 + 0 < cLine
    omega
  · obtain ⟨t, rfl⟩ := hv
    have I1 : Inv X pins σ H { s with heap := h, toks := tk } := I.kept k
    refine wpAny_call (bits_raw (s := { s with heap := h, toks := tk }) F (hb n hn) I1.kIn I1.nolimit hdp fun h2 tk2 t2 k2 => ?_)
    exact ⟨h2, tk2, rfl, k2, .int _ _⟩
  · have hp : H (s.heap.objs.size + 1) = none := I.hok.fresh (Nat.le_succ _)
    have e1 : (ns.mergeSort (PySem.W.dataLe false fun n : Nat => PyData.int ((lBits n : Nat) : Int))) = sortBits ns := by
      rw [PySem.W.dataLe_int]; rfl
    rw [e1] at heo
    have hv := vals_each heo
    have hsl : (((sortBits ns).map fun n : Nat => (n : Int)).map V.int).length ≤ sizeLine := by
      rw [hv.length, hlo]
      rw [List.length_map, List.length_map] at hz
      exact hz
    exact ⟨.ref _, _, I.laid (t' := tk) (o := .lst (((sortBits ns).map fun n : Nat => (n : Int)).map V.int)) k (Nat.le_succ _) ⟨hsl, out, c, hv, ho⟩, rfl, q _ hp⟩
end Bw
set_option Elab.async false
set_option linter.all false
set_option maxRecDepth 100000
set_option maxHeartbeats 4000000
/-! isinstance of data; sorted(set(..)); a <= b < c; [..] != []. -/
namespace Bw
open PySem PySem.Spec PyProof.Rows L2 Bo
def tyN : PyData → String
  | .none => "NoneType"
  | .bool _ => "bool"
  | .int _ => "int"
  | .str _ => "str"
  | .list _ => "list"
  | .tuple _ => "tuple"
  | .dict _ => "dict"
section
variable {K : PySem.W.Frag} {σ : L2.St} {G H : Hp} {te ta tb tc : TE} {tt : TT} {d : PyData} {ds es : List PyData}
theorem tyX_of {v : V} (h : Dp K H v d) : TyX K H v (.type (tyN d)) := by
  cases h with
  | non => exact .base .non
  | bl b => exact .base (.bl b)
  | int i => exact .base (.int i)
  | str x => exact .base (.str x)
  | lst hs _ =>
    rcases hs with (h | ⟨o, h⟩) | ⟨o, its, n, hk, hc, _⟩
    · exact .base (.lst h)
    · exact .base (.frz h)
    · exact .kList hk hc
  | tup hs _ =>
    rcases hs with (h | ⟨o, h⟩) | ⟨o, its, n, hk, hc, _⟩
    · exact .base (.tup h)
    · exact .fTuple h
    · exact .kTuple hk hc
theorem ed_isi {T : String} {b : Bool} (h : ED K te σ G H d) (hk : kitB (tyN d) T = some b) : ED K (tCB (rIsi K) (tCons te (tCons (tC (.ty T)) tNil))) σ G H (.bool b) := fun G0 H0 g0 Q q =>
  h G0 H0 g0 _ fun v G1 H1 g1 hv => ⟨v, .ty T, .type (tyN d), .type T, b, rfl, .ty T, tyX_of (dp_mono g1.s _ _ hv), kit_ty hk, q _ G1 H1 g1 (.bl b)⟩
theorem ed_chain {i j k : Int} (ha : ED K ta σ G H (.int i)) (hb : ED K tb σ G H (.int j)) (hc : ED K tc σ G H (.int k)) :
    ED K (tChain (rI0 fun i j => .bl (decide (i ≤ j))) (rI0 fun i j => .bl (decide (i < j))) ta tb tc) σ G H (.bool (decide (i ≤ j) && decide (j < k))) := fun G0 H0 g0 Q q =>
  ha G0 H0 g0 _ fun x G1 H1 g1 hx => hb G1 H1 (g0.trans g1) _ fun y G2 H2 g2 hy => by
    cases hx; cases hy
    refine ⟨i, j, rfl, rfl, _, rfl, ?_⟩
    have g := g1.trans g2
    by_cases c : i ≤ j
    · rw [decide_eq_true c, if_pos rfl]
      refine hc G2 H2 (g0.trans g) _ fun z G3 H3 g3 hz => ?_
      cases hz
      refine ⟨j, k, rfl, rfl, q _ G3 H3 (g.trans g3) ?_⟩
      rw [decide_eq_true c, Bool.true_and]
      exact .bl _
    · rw [decide_eq_false c, if_neg Bool.false_ne_true]
      refine q _ G2 H2 g ?_
      rw [decide_eq_false c, Bool.false_and]
      exact .bl _
/-- [1 for x in xs if f(x)] != [] -/
theorem ed_someOnes {α : Type} {xs : List α} {f : α → Bool} (h : ED K te σ G H (.list ((xs.filter f).map fun _ => .int 1))) : ED K (tOp (rNeD K) te (tLst tNil)) σ G H (.bool (!(xs.filter f).isEmpty)) := by
  have e : ((xs.filter f).map fun _ => PyData.int 1) = List.replicate (xs.filter f).length (.int 1) := List.map_const' ..
  rw [e] at h
  refine ed_is (ed_op h (ed_lst ea_nil (by simp)) (rd_neD (ones_shaped _) (ones_shaped 0))) ?_
  cases xs.filter f with
  | nil => rfl
  | cons a r => rfl
theorem ints_ok (ns : List Int) : PyData.canLayAll0 (ns.map PyData.int) = true := by
  induction ns with
  | nil => rfl
  | cons n ns ih => simp [PyData.canLayAll0, PyData.canLay0, ih]
theorem ints_depth (ns : List Int) : PyData.depthAll (ns.map PyData.int) ≤ 0 := by
  induction ns with
  | nil => simp [PyData.depthAll]
  | cons n ns ih => simp [PyData.depthAll, PyData.depth] at ih ⊢; omega
theorem ints_shaped (ns : List Int) : SeqAt.shaped (.list (ns.map PyData.int)) = true := by
  unfold SeqAt.shaped
  rw [Bool.and_eq_true]
  have := ints_depth ns
  exact ⟨by simp [PyData.canLay0, ints_ok], decide_eq_true (by simp [PyData.depth]; omega)⟩
theorem nats_shaped (ns : List Nat) : SeqAt.shaped (natsL ns) = true := by
  show SeqAt.shaped (.list (ns.map natD)) = true
  rw [natD_ints]
  exact ints_shaped _
end
/-- set(a tuple of ints) -/
def rSetT (w : World) (K : PySem.W.Frag) : List V → Hp → VK → Prop := fun vs H Q => ∃ (a : Addr) (ns : List Int), vs = [.ref a] ∧ SqT K H a (ns.map V.int) ∧ ns.length ≤ 60 ∧ ∀ p c, H p = none → c ≤ ns.length → Q (.ref p) (upd H p (SetO w p (fun j => decide (j ∈ ns)) c))
theorem cr_setT {X : Cx} (hc : X.calm = true) : CallR X (.type "set") (rSetT X.w X.K) := by
  intro pins s σ H vs us Q I r h
  obtain ⟨a, ns, rfl, hs, hl, q⟩ := h
  obtain ⟨its, rv, tp, _⟩ := I.tuple hs
  rw [Vals.ref1 r]
  refine call_set_tupI ns (I.ok.hd hc) (show s.heap.IsTuple a its.toArray from tp) (by simpa using rv.ints) (by unfold scanBound; omega) fun h' tk c R hcl k => ?_
  exact ⟨.ref s.heap.objs.size, _, I.laid (t' := tk) (o := SetO X.w s.heap.objs.size (fun j => decide (j ∈ ns)) c) k (Nat.le_refl _) (setO_new R), rfl, q _ c (I.hok.fresh (Nat.le_refl _)) hcl⟩
section
variable {w : World} {K : PySem.W.Frag} {σ : L2.St} {G H : Hp} {te : TE} {l : List Nat}
theorem ris_eq : ∀ {xs ys : List Int}, xs.Pairwise (· < ·) → ys.Pairwise (· < ·) → (∀ k, k ∈ xs ↔ k ∈ ys) → xs = ys := fun {xs ys} h1 h2 h => by
  have p : xs.Perm ys := (List.perm_ext_iff_of_nodup (h1.imp fun h => Int.ne_of_lt h) (h2.imp fun h => Int.ne_of_lt h)).mpr h
  exact List.Perm.eq_of_pairwise (fun a b _ _ h1 h2 => absurd (Int.lt_trans h1 h2) (Int.lt_irrefl _)) h1 h2 p
/-- sorted(set(a rising tuple)) -/
theorem ed_sset (h : ED K te σ G H (natsT l)) (hp : l.Pairwise (· < ·)) (hl : l.length ≤ 60) : ED K (tCB (rSortedSet w) (tCons (tCB (rSetT w K) (tCons te tNil)) tNil)) σ G H (natsL l) := fun G0 H0 g0 Q q =>
  h G0 H0 g0 _ fun v G1 H1 g1 hv => by
    cases hv with
    | @tup a xs _ hs ha =>
      rw [natD_ints] at ha
      have e := ha.ints
      subst e
      refine ⟨a, _, rfl, sqT_mono g1.s hs, by rw [List.length_map]; exact hl, fun p c hp0 hcl => ?_⟩
      rw [List.length_map] at hcl
      have g2 := Gr.lay (o := SetO w p (fun j => decide (j ∈ l.map fun k : Nat => (k : Int))) c) g1.s hp0
      refine ⟨p, _, c, rfl, upd_same, by omega, fun ns p2 h1 h2 h3 hp2 => ?_⟩
      have e2 : ns = l.map fun k : Nat => (k : Int) := ris_eq h1 (List.pairwise_map.mpr (hp.imp fun h => Int.ofNat_lt.mpr h)) fun k => by
        rw [h2 k]
        exact decide_eq_true_iff
      subst e2
      refine q _ _ _ ((g1.trans g2).trans (Gr.new g2.s hp2)) (.lst (.of upd_same) ?_)
      rw [natD_ints]
      exact .ofInts _
end
end Bw
set_option Elab.async false
set_option linter.all false
set_option maxRecDepth 100000
set_option maxHeartbeats 4000000
namespace Bw
open PySem PySem.Spec PyProof.Rows L2 Bo
theorem pow8 {m : Nat} (h : m ≤ 8) : 2 ^ m ≤ 256 := Nat.pow_le_pow_right (n := 2) (by decide) h
theorem lEvens_len {n : Nat} {T : Ties} (h : T.length ≤ 8) : (lEvens n T).length ≤ 256 := by
  unfold lEvens
  refine Nat.le_trans (List.length_filter_le _ _) ?_
  rw [List.length_range]
  exact pow8 h
theorem lEvens_lt {n : Nat} {T : Ties} : ∀ m ∈ lEvens n T, m < 2 ^ T.length := fun m h => by
  unfold lEvens at h
  exact List.mem_range.mp (List.mem_filter.mp h).1
theorem lRounds_mem {ev : List Nat} {m : Nat} (h : m ∈ lRounds ev) : m ∈ ev := (List.mem_filter.mp h).1
theorem lCuts_len (n : Nat) (T : Ties) : (lCuts n T).length = 2 ^ (n - 1) := by unfold lCuts; rw [List.length_map, List.length_range]
theorem lSides_len {n s : Nat} (h : 1 ≤ n) : (lSides n s).length = n := by
  unfold lSides
  rw [List.length_cons, List.length_map, List.length_range]; omega
section
variable {P : Program} {w : World} {K : PySem.W.Frag} {mg : Str → Option Value} {base : Heap}
/-- int(_law_bits(a & b)) % 2 == 1 -/
theorem ed_odd {σ : L2.St} {G H : Hp} {ta tb : TE} {a b : Nat} (ha : ED K ta σ G H (natD a)) (hb : ED K tb σ G H (natD b)) (h : a &&& b < 256) :
    ED K (tOp rEq (tOp (rI (fun _ j => 0 < j) fun i j => .int (i % j)) (tCB rInt1 (tCons (tCall (sp_law_bits K) [] E0 (tCons (tOp (rI0 fun i j => .int (Builtin.bitAnd i j)) ta tb) tNil)) tNil)) (tC (.int 2))) (tC (.int 1))) σ G H (.bool (lOdd a b)) :=
  ed_op (ed_op (ed_cb (ea_cons (ed_call (a &&& b) (ea_cons (ed_op ha hb rd_andN) ea_nil) h) ea_nil) ra_intI) ed_int (rd_modN (b := 2) (by decide))) ed_int (rd_eqN (b := 1))
-- slots of _law_evens: 0 _law_web_here, 1 _law_stars_here, 2 _law_found, 3 _law_mask_here*, 4 _law_star
abbrev s_law_evens : Stmt := top 42
abbrev N_law_evens : List Str := ["_law_web_here", "_law_stars_here", "_law_found", "_law_mask_here", "_law_star"]
theorem sc_law_evens : FnScope N_law_evens ["_law_web_here"] (defScope s_law_evens) := ⟨rfl, rfl, rfl, by decide +kernel, rfl, by decide +kernel, by decide +kernel⟩
abbrev sp_law_evens (K : PySem.W.Frag) : Sp := spD (α := Nat × Ties) K (fun a => Ok8 a.1 a.2) (fun a => [webD a.1 a.2]) (fun a => natsL (lEvens a.1 a.2))
theorem c_law_evens {f : Addr} {fd : FuncData} (T : Txt mg) (F : Fd K mg "_law_evens" s_law_evens f fd) (C_law_bits : Cal P w K mg base CX0 "_law_bits" 1 ["_law_mask_here"] (sp_law_bits K)) (C_law_stars : Cal P w K mg base CX0 "_law_stars" 2 ["_law_web_here"] (sp_law_stars K)) : Cal P w K mg base CX0 "_law_evens" 3 ["_law_web_here"] (sp_law_evens K) := by
  refine okD F sc_law_evens (F.fn.binds fun _ _ _ _ _ _ us hl => match us, hl with | [_], _ => rfl) (fun _ => rfl) fun cdv A outer s H G vs a Q E hr hp hs hv q => ?_
  have nd := sc_law_evens.nd
  have hu := hr.units
  have hu1 := hu_of hr
  refine ⟨_, (pss_cons (ps_par (i := 1) (j := 2) rfl nd rfl rfl (by decide) rfl rfl (pa_cons (pe_cal C_law_stars (hr.mono (by decide)) rfl (pa_cons (pv 0) pa_nil)) (pa_cons (pe_lst pa_nil) pa_nil)) rfl)
     (pss_cons (ps_for PassesOwn.never rfl (pi_range1 rfl T.range (pa_cons (pe_op op_shl pe_int (pe_callB call_len_seq rfl T.len (by decide +kernel) (pa_cons (pe_ix ix_tup (pv 0) pe_int (fun _ _ => rfl)) pa_nil))) pa_nil)) (pg_name (i := 3) nd rfl (Or.inr rfl))
     (pss_one (ps_if (pt_cmpR (op_eqD hu) (pe_lc (own := [("_law_star", 4)]) (g := gName 4) (tt := tTest (tOp (rEq) (tOp (rI (fun _ j => 0 < j) fun i j => .int (i % j)) (tCB rInt1 (tCons (tCall (sp_law_bits K) [] E0 (tCons (tOp (rI0 fun i j => .int (Builtin.bitAnd i j)) (tVar 3) (tVar 4)) (tNil))) (tNil))) (tC (.int 2))) (tC (.int 1)))) (te := tC (.int 1)) rfl nd (pi_list (pv 1)) (blkOk_by (N := N_law_evens) (sc := defScope s_law_evens) (by decide +kernel)) (fun _ _ _ _ _ => (pg_name (i := 4) nd rfl (Or.inl rfl))) (fun _ _ _ _ _ => (pts_one (pt_cmpR op_eq (pe_op op_mod (pe_callTy call_int1 rfl T.int_ (by decide +kernel) (pa_cons (pe_cal C_law_bits (hr.mono (by decide)) rfl (pa_cons (pe_op op_and (pv 3) (pv 4)) pa_nil)) pa_nil)) pe_int) pe_int (nomark _)))) (fun _ _ _ _ _ => pe_int)) (pe_lst pa_nil) (nomark _))
     (pss_one (ps_expr (pe_bm PySem.F.plainAttrs_list PySem.F.slot_list_append PySem.F.type_list_append mt_append (pv 2) (pa_cons (pv 3) pa_nil))))
     pss_nil)))
     (pss_one (ps_ret (pv 2))))), ?_⟩
  obtain ⟨n, W⟩ := a
  dsimp only at hv q hp
  obtain ⟨v0, rfl, h0⟩ := dpa1 hv
  have h8 := pow8 hp.t8
  have hn := hp.ok.hi
  refine q_par10 (K := K) (Gr.refl hs) (ed_call (n, W) (ea_cons (ed_var rfl h0) ea_nil) hp.ok) fun vs' p G1 H1 hst hp0 s1 g1 mp => ?_
  refine q_forT (Gi := G) (Hi := H) (List.range (2 ^ W.length)) natD (es_rngN (ed_is (ed_op ed_int (ed_cb (ea_cons (ed_op (ed_var rfl (dp_mono s1 _ _ h0)) ed_int (rd_ixT (j := 1) rfl rfl)) ea_nil) ra_lenT) (rd_shlN (a := 1) (by decide) (by rw [List.length_map]; have := hp.t8; omega))) (by rw [Nat.one_mul, List.length_map])) (by omega)) g1
    (fun pre σ' G' H' => ∃ (xs : List V) (a b : Option V), σ' = [some v0, some vs', some (.ref p), a, b] ∧ Mu G' H' p (.lst xs) ∧ DpAll K G' xs ((pre.filter fun m => ((lStars n W).filter fun s => lOdd m s).isEmpty).map natD)) (fun G' H' g' => ⟨[], _, _, rfl, mp.gr g', .nil⟩) ?_ ?_
  · rintro pre m post x σ' G2 H2 G3 H3 hsp g2 s2 ⟨xs, a, b, rfl, m1, d1⟩ g3 hx
    cases hx
    have hpl : pre.length ≤ 256 := by
      have h2 := congrArg List.length hsp
      rw [List.length_range] at h2
      simp at h2
      omega
    have g13 := s2.trans g3.g
    have hte : ET (tTest (tOp (rEqD K) (tLc (iList K (tVar 1)) (gName 4) (tTest (tOp rEq (tOp (rI (fun _ j => 0 < j) fun i j => .int (i % j)) (tCB rInt1 (tCons (tCall (sp_law_bits K) [] E0 (tCons (tOp (rI0 fun i j => .int (Builtin.bitAnd i j)) (tVar 3) (tVar 4)) tNil)) tNil)) (tC (.int 2))) (tC (.int 1)))) (tC (.int 1)) [4]) (tLst tNil)))
        [some v0, some vs', some (.ref p), some (.int (m : Int)), b] G3 H3 (((lStars n W).filter fun s => lOdd m s).isEmpty) := by
      refine et_test (K := K) (ed_noOnes (ed_lc (lStars n W) natD (fun s => lOdd m s) (fun _ => .int 1) (es_list (ed_var rfl (dp_mono g13 _ _ hst))) (by unfold lStars; rw [List.length_map, List.length_range]; omega) fun s hm x G' H' g' hx => ?_))
      cases hx
      exact ⟨_, fun Q q => q, rfl, et_test (K := K) (ed_odd (ed_var rfl (.int _)) (ed_var rfl (.int _)) (by rw [Nat.and_comm]; exact and_lt8 (lStars_lt s hm) hp.t8)), fun _ => ed_int⟩
    refine g_nm (s_if g3.s hte (fun c1 G4 H4 g4 => ?_) (fun c1 G4 H4 g4 => ?_))
    · have g34 := g3.trans g4
      refine s_app (K := K) g4.s rfl (m1.gr g34) (by rw [d1.len, List.length_map]; have := List.length_filter_le (fun m => ((lStars n W).filter fun s => lOdd m s).isEmpty) pre; omega) (ed_var rfl (.int _)) fun v G5 H5 g5 hd5 m5 s5 => ?_
      have g35 := g34.trans g5
      refine ⟨G5, (g2.trans g35).mut hp0 m5.n, g35.g, xs ++ [v], _, _, rfl, m5, ?_⟩
      rw [List.filter_append, List.filter_cons, if_pos c1, List.map_append]
      exact (dpa_mono g35.g _ _ d1).app (.cons hd5 .nil)
    · have g34 := g3.trans g4
      refine ⟨G4, g2.trans g34, g34.g, xs, _, _, rfl, m1.gr g34, ?_⟩
      rw [List.filter_append, List.filter_cons, if_neg (by rw [c1]; decide), List.filter_nil, List.append_nil]
      exact dpa_mono g34.g _ _ d1
  · rintro σ' G' H' g s ⟨xs, a, b, rfl, m1, d1⟩
    have g2 := g.freeze hp0 m1
    exact s_ret (K := K) g2.s (ed_var rfl (.lst (.of upd_same) (dpa_mono (same_new m1.n) _ _ d1))) fun v G'' H'' g'' hd => q v _ _ (g2.trans g'') hd
-- slots of _law_rounds: 0 _law_evens_here, 1 _law_found, 2 _law_mask_here*, 3 _law_own
abbrev s_law_rounds : Stmt := top 43
abbrev N_law_rounds : List Str := ["_law_evens_here", "_law_found", "_law_mask_here", "_law_own"]
theorem sc_law_rounds : FnScope N_law_rounds ["_law_evens_here"] (defScope s_law_rounds) := ⟨rfl, rfl, rfl, by decide +kernel, rfl, by decide +kernel, by decide +kernel⟩
abbrev sp_law_rounds (K : PySem.W.Frag) : Sp := spD (α := List Nat) K (fun a => a.length ≤ 1000) (fun a => [natsL a]) (fun a => natsL (lRounds a))
theorem c_law_rounds {f : Addr} {fd : FuncData} (T : Txt mg) (F : Fd K mg "_law_rounds" s_law_rounds f fd)  : Cal P w K mg base CX0 "_law_rounds" 1 ["_law_evens_here"] (sp_law_rounds K) := by
  refine okD F sc_law_rounds (F.fn.binds fun _ _ _ _ _ _ us hl => match us, hl with | [_], _ => rfl) (fun _ => rfl) fun cdv A outer s H G vs a Q E hr hp hs hv q => ?_
  have nd := sc_law_rounds.nd
  have hu := hr.units
  have hu1 := hu_of hr
  refine ⟨_, (pss_cons (ps_set (i := 1) nd rfl (Or.inl rfl) (pe_lst pa_nil))
     (pss_cons (ps_for PassesOwn.never rfl (pi_list (pv 0)) (pg_name (i := 2) nd rfl (Or.inr rfl))
     (pss_one (ps_if (PW.pt (pw_and (pt_cmpR op_ne (pv 2) pe_int (nomark _)) (pw_and1 (pt_cmpR (op_eqD hu) (pe_lc (own := [("_law_own", 3)]) (g := gName 3) (tt := tAnd (tTest (tOp (rIn K true) (tVar 3) (tTup (tCons (tC (.int 0)) (tCons (tVar 2) (tNil)))))) (tTest (tOp (rEq) (tOp (rI0 fun i j => .int (Builtin.bitAnd i j)) (tVar 3) (tVar 2)) (tVar 3)))) (te := tC (.int 1)) rfl nd (pi_list (pv 0)) (blkOk_by (N := N_law_rounds) (sc := defScope s_law_rounds) (by decide +kernel)) (fun _ _ _ _ _ => (pg_name (i := 3) nd rfl (Or.inl rfl))) (fun _ _ _ _ _ => (pts_one (PW.pt (pw_and (pt_cmpR op_notIn_seq (pv 3) (pe_tup (pa_cons pe_int (pa_cons (pv 2) pa_nil))) (by rfl)) (pw_and1 (pt_cmpR op_eq (pe_op op_and (pv 3) (pv 2)) (pv 3) (nomark _))))))) (fun _ _ _ _ _ => pe_int)) (pe_lst pa_nil) (nomark _)))))
     (pss_one (ps_expr (pe_bm PySem.F.plainAttrs_list PySem.F.slot_list_append PySem.F.type_list_append mt_append (pv 1) (pa_cons (pv 2) pa_nil))))
     pss_nil)))
     (pss_one (ps_ret (pv 1))))), ?_⟩
  obtain ⟨v0, rfl, h0⟩ := dpa1 hv
  refine q_new (Gr.refl hs) fun p H1 hp0 hpH gl g1 mp => ?_
  refine q_forT (Gi := G) (Hi := H) a natD (es_list (ed_var rfl h0)) g1 (fun pre σ' G' H' => ∃ (xs : List V) (b c : Option V), σ' = [some v0, some (.ref p), b, c] ∧ Mu G' H' p (.lst xs) ∧
    DpAll K G' xs ((pre.filter fun m => decide (m ≠ 0) && (a.filter fun o => decide (o ∉ [0, m]) && decide (o &&& m = o)).isEmpty).map natD)) (fun G' H' g' => ⟨[], _, _, rfl, mp.gr g', .nil⟩) ?_ ?_
  · rintro pre m post x σ' G2 H2 G3 H3 hsp g2 s2 ⟨xs, b, c, rfl, m1, d1⟩ g3 hx
    cases hx
    have hpl : pre.length ≤ 1000 := by
      have h2 := congrArg List.length hsp
      simp at h2
      omega
    have g03 := (g2.trans g3).g
    refine g_nm (s_if g3.s (b := decide (m ≠ 0) && (a.filter fun o => decide (o ∉ [0, m]) && decide (o &&& m = o)).isEmpty) (et_and (et_is (et_test (K := K) (ed_op (ed_var rfl (.int _)) ed_int (rd_neN (b := 0)))) (by simp)) fun _ => et_test (K := K) (ed_noOnes (ed_lc a natD (fun o => decide (o ∉ [0, m]) && decide (o &&& m = o)) (fun _ => .int 1) (es_list (ed_var rfl (dp_mono g03 _ _ h0))) (by omega) fun o ho x G' H' g' hx => ?_))) (fun c1 G4 H4 g4 => ?_) (fun c1 G4 H4 g4 => ?_))
    · cases hx
      exact ⟨_, fun Q q => q, rfl, et_and (et_is (et_test (K := K) (ed_op (ed_var rfl (.int _)) (ed_tup (ea_cons ed_int (ea_cons (ed_var rfl (.int _)) ea_nil)) (by simp)) (rd_inTN (neg := true) (ns := [0, m])))) (by simp)) fun _ => et_test (K := K) (ed_op (ed_op (ed_var rfl (.int _)) (ed_var rfl (.int _)) rd_andN) (ed_var rfl (.int _)) rd_eqN), fun _ => ed_int⟩
    · have g34 := g3.trans g4
      refine s_app (K := K) g4.s rfl (m1.gr g34) (by rw [d1.len, List.length_map]; have := List.length_filter_le (fun m => decide (m ≠ 0) && (a.filter fun o => decide (o ∉ [0, m]) && decide (o &&& m = o)).isEmpty) pre; omega) (ed_var rfl (.int _)) fun v G5 H5 g5 hd5 m5 s5 => ?_
      have g35 := g34.trans g5
      refine ⟨G5, (g2.trans g35).mut hp0 m5.n, g35.g, xs ++ [v], _, _, rfl, m5, ?_⟩
      rw [List.filter_append, List.filter_cons, if_pos c1, List.map_append]
      exact (dpa_mono g35.g _ _ d1).app (.cons hd5 .nil)
    · have g34 := g3.trans g4
      refine ⟨G4, g2.trans g34, g34.g, xs, _, _, rfl, m1.gr g34, ?_⟩
      rw [List.filter_append, List.filter_cons, if_neg (by rw [c1]; decide), List.filter_nil, List.append_nil]
      exact dpa_mono g34.g _ _ d1
  · rintro σ' G' H' g s ⟨xs, b, c, rfl, m1, d1⟩
    have g2 := g.freeze hp0 m1
    exact s_ret (K := K) g2.s (ed_var rfl (.lst (.of upd_same) (dpa_mono (same_new m1.n) _ _ d1))) fun v G'' H'' g'' hd => q v _ _ (g2.trans g'') hd
-- slots of _law_cuts: 0 _law_web_here, 1 _law_found, 2 _law_some*, 3 _law_sides*, 4 _law_place, 5 _law_k, 6 _law_ends
abbrev s_law_cuts : Stmt := top 44
abbrev N_law_cuts : List Str := ["_law_web_here", "_law_found", "_law_some", "_law_sides", "_law_place", "_law_k", "_law_ends"]
theorem sc_law_cuts : FnScope N_law_cuts ["_law_web_here"] (defScope s_law_cuts) := ⟨rfl, rfl, rfl, by decide +kernel, rfl, by decide +kernel, by decide +kernel⟩
abbrev sp_law_cuts (K : PySem.W.Frag) : Sp := spD (α := Nat × Ties) K (fun a => Ok a.1 a.2) (fun a => [webD a.1 a.2]) (fun a => natsL (lCuts a.1 a.2))
theorem c_law_cuts {f : Addr} {fd : FuncData} (T : Txt mg) (F : Fd K mg "_law_cuts" s_law_cuts f fd) (C_law_mask : Cal P w K mg base CX0 "_law_mask" 1 ["_law_lot_here"] (sp_law_mask K)) : Cal P w K mg base CX0 "_law_cuts" 2 ["_law_web_here"] (sp_law_cuts K) := by
  refine okD F sc_law_cuts (F.fn.binds fun _ _ _ _ _ _ us hl => match us, hl with | [_], _ => rfl) (fun _ => rfl) fun cdv A outer s H G vs a Q E hr hp hs hv q => ?_
  have nd := sc_law_cuts.nd
  have hu := hr.units
  have hu1 := hu_of hr
  refine ⟨_, (pss_cons (ps_set (i := 1) nd rfl (Or.inl rfl) (pe_lst pa_nil))
     (pss_cons (ps_for PassesOwn.never rfl (pi_range1 rfl T.range (pa_cons (pe_op op_shl pe_int (pe_op op_sub (pe_ix ix_tup (pv 0) pe_int (fun _ _ => rfl)) pe_int)) pa_nil)) (pg_name (i := 2) nd rfl (Or.inr rfl))
     (pss_cons (ps_set (i := 3) nd rfl (Or.inr rfl) (pe_op op_cat (pe_lst (pa_cons pe_int pa_nil)) (pe_lc (own := [("_law_place", 4)]) (g := gName 4) (tt := tYes) (te := tOp (rI0 fun i j => .int (Builtin.bitAnd i j)) (tOp (rI (fun _ j => 0 ≤ j) fun i j => .int (i / 2 ^ j.toNat)) (tVar 2) (tVar 4)) (tC (.int 1))) rfl nd (pi_range1 rfl T.range (pa_cons (pe_op op_sub (pe_ix ix_tup (pv 0) pe_int (fun _ _ => rfl)) pe_int) pa_nil)) (blkOk_by (N := N_law_cuts) (sc := defScope s_law_cuts) (by decide +kernel)) (fun _ _ _ _ _ => (pg_name (i := 4) nd rfl (Or.inl rfl))) (fun _ _ _ _ _ => pts_nil) (fun _ _ _ _ _ => (pe_op op_and (pe_op op_shr (pv 2) (pv 4)) pe_int)))))
     (pss_one (ps_expr (pe_bm PySem.F.plainAttrs_list PySem.F.slot_list_append PySem.F.type_list_append mt_append (pv 1) (pa_cons (pe_cal C_law_mask (hr.mono (by decide)) rfl (pa_cons (pe_lc (own := [("_law_k", 5), ("_law_ends", 6)]) (g := gTup K 2 (gCons (gName 5) (gCons (gName 6) gNil))) (tt := tTest (tOp (rNe) (tOp (rIxL K) (tVar 3) (tOp (rIxT K) (tVar 6) (tC (.int 0)))) (tOp (rIxL K) (tVar 3) (tOp (rIxT K) (tVar 6) (tC (.int 1)))))) (te := tVar 5) rfl nd (pi_enumT rfl T.enumerate (pa_cons (pe_ix ix_tup (pv 0) pe_int (fun _ _ => rfl)) pa_nil)) (blkOk_by (N := N_law_cuts) (sc := defScope s_law_cuts) (by decide +kernel)) (fun _ _ _ _ _ => (pg_tup rfl (pgs_cons (pg_name (i := 5) nd rfl (Or.inl rfl)) (pgs_cons (pg_name (i := 6) nd rfl (Or.inl rfl)) pgs_nil)))) (fun _ _ _ _ _ => (pts_one (pt_cmpR op_ne (pe_ix ix_list (pv 3) (pe_ix ix_tup (pv 6) pe_int (fun _ _ => rfl)) (fun _ _ => rfl)) (pe_ix ix_list (pv 3) (pe_ix ix_tup (pv 6) pe_int (fun _ _ => rfl)) (fun _ _ => rfl)) (nomark _)))) (fun _ _ _ _ _ => (pv 5))) pa_nil)) pa_nil))))))
     (pss_one (ps_ret (pv 1))))), ?_⟩
  obtain ⟨n, W⟩ := a
  dsimp only at hv q hp
  obtain ⟨v0, rfl, h0⟩ := dpa1 hv
  have h8 : 2 ^ (n - 1) ≤ 256 := pow8 (by have := hp.hi; omega)
  have hn := hp.hi
  have hlo := hp.lo
  have hfew := hp.few
  refine q_new (Gr.refl hs) fun p H1 hp0 hpH gl g1 mp => ?_
  have hn1 : ∀ {σ : L2.St} {G' H' : Hp} {v : V}, σ[0]? = some (some v) → Dp K G' v (webD n W) → ED K (tOp (rI0 fun i j => .int (i - j)) (tOp (rIxT K) (tVar 0) (tC (.int 0))) (tC (.int 1))) σ G' H' (natD (n - 1)) := fun hv hd => ed_op (ed_op (ed_var hv hd) ed_int (rd_ixT (j := 0) rfl rfl)) ed_int (rd_subN (b := 1) hlo)
  refine q_forT (Gi := G) (Hi := H) (List.range (2 ^ (n - 1))) natD (es_rngN (ed_is (ed_op ed_int (hn1 rfl h0) (rd_shlN (a := 1) (by decide) (by omega))) (by rw [Nat.one_mul])) (by omega)) g1
    (fun pre σ' G' H' => ∃ (xs : List V) (a b c d e : Option V), σ' = [some v0, some (.ref p), a, b, c, d, e] ∧ Mu G' H' p (.lst xs) ∧ DpAll K G' xs ((pre.map (lCut n W)).map natD)) (fun G' H' g' => ⟨[], _, _, _, _, _, rfl, mp.gr g', .nil⟩) ?_ ?_
  · rintro pre so post x σ' G2 H2 G3 H3 hsp g2 s2 ⟨xs, a, b, c, d, e, rfl, m1, d1⟩ g3 hx
    cases hx
    have hpl : pre.length ≤ 256 := by
      have h2 := congrArg List.length hsp
      rw [List.length_range] at h2
      simp at h2
      omega
    have g03 := (g2.trans g3).g
    have hside : EL K (tOp rCat (tLst (tCons (tC (.int 0)) tNil)) (tLc (iRng1 (tCons (tOp (rI0 fun i j => .int (i - j)) (tOp (rIxT K) (tVar 0) (tC (.int 0))) (tC (.int 1))) tNil)) (gName 4) tYes (tOp (rI0 fun i j => .int (Builtin.bitAnd i j)) (tOp (rI (fun _ j => 0 ≤ j) fun i j => .int (i / 2 ^ j.toNat)) (tVar 2) (tVar 4)) (tC (.int 1))) [4]))
        [some v0, some (.ref p), some (.int (so : Int)), b, c, d, e] G3 H3 ((lSides n so).map natD) := by
      refine (el_cat (el_lst (ea_cons ed_int ea_nil) (by simp)) (el_lc (tt := tYes) (List.range (n - 1)) natD (fun _ => true) (fun p => natD (so / 2 ^ p &&& 1)) (es_rngN (hn1 rfl (dp_mono g03 _ _ h0)) (by omega)) (by rw [List.length_range]; omega) fun t ht x G' H' g' hx => ?_) ?_).is ?_
      · cases hx
        exact ⟨_, fun Q q => q, rfl, et_yes, fun _ => ed_op (ed_op (ed_var rfl (.int _)) (ed_var rfl (.int _)) rd_shrN) ed_int (rd_andN (b := 1))⟩
      · rw [List.length_map]
        have := List.length_filter_le (fun _ => true) (List.range (n - 1))
        rw [List.length_range] at this
        simp only [List.length_singleton]
        omega
      · rw [List.filter_eq_self.mpr (fun _ _ => rfl)]
        unfold lSides
        rw [List.map_cons, List.map_map]; rfl
    refine g_nm (q_set (K := K) g3.s hside.ed fun vsd G4 H4 g4 hsd => ?_)
    have g34 := g3.trans g4
    refine s_app (K := K) g4.s rfl (m1.gr g34) (by rw [d1.len, List.length_map, List.length_map]; omega) (ed_mask (.inl (ea_cons (ed_is (ed_lc W.zipIdx (fun q => .tuple [natD q.2, tieD q.1]) (fun q => decide ((lSides n so).getD q.1.1 0 ≠ (lSides n so).getD q.1.2 0)) (fun q => natD q.2) ?_ ?_ ?_) (show _ = natsL ((W.zipIdx.filter fun q => decide ((lSides n so).getD q.1.1 0 ≠ (lSides n so).getD q.1.2 0)).map (·.2)) by
        show PyData.list _ = PyData.list ((List.map _ _).map natD)
        rw [List.map_map]; rfl)) ea_nil)) ⟨?_, ?_⟩) fun v G5 H5 g5 hd5 m5 s5 => ?_
    · rw [← numbered_map]
      exact es_enumT (ea_cons (ed_op (ed_var rfl (dp_mono ((g2.trans g34).g) _ _ h0)) ed_int (rd_ixT (j := 1) rfl rfl)) ea_nil)
    · rw [List.length_zipIdx]; omega
    · rintro ⟨⟨e1, e2⟩, t⟩ hm xv G' H' g' hx
      obtain ⟨_, hte⟩ := zip_ends hm
      have hweb := hp.web (e1, e2) (by rw [← hte]; exact ends_mem (zip_ends hm).1)
      have hsl := lSides_len (s := so) hlo
      have hw : e1 < e2 ∧ e2 < n := hweb
      obtain ⟨u1, u2, f1, f2, gk⟩ := g_pair hx
      cases f1
      refine ⟨_, fun Q q => gk _ _ _ _ _ g'.s q, rfl, et_test (K := K) (ed_is (ed_op (ed_op (ed_var rfl (dp_mono g'.g _ _ hsd)) (ed_op (ed_var rfl f2) ed_int (rd_ixT (j := 0) rfl rfl)) (rd_ixLn (get_nat (show e1 < _ by omega)))) (ed_op (ed_var rfl (dp_mono g'.g _ _ hsd)) (ed_op (ed_var rfl f2) ed_int (rd_ixT (j := 1) rfl rfl)) (rd_ixLn (get_nat (show e2 < _ by omega)))) rd_neN) (by simp)), fun _ => ed_var rfl (.int _)⟩
    · rw [List.length_map]
      refine Nat.le_trans (List.length_filter_le _ _) ?_
      rw [List.length_zipIdx]; omega
    · intro t ht
      obtain ⟨q, hq, rfl⟩ := List.mem_map.mp ht
      have := (zip_ends (List.mem_filter.mp hq).1).1
      omega
    · have g35 := g34.trans g5
      refine ⟨G5, (g2.trans g35).mut hp0 m5.n, g35.g, xs ++ [v], _, _, _, _, _, rfl, m5, ?_⟩
      rw [List.map_append, List.map_append]
      exact (dpa_mono g35.g _ _ d1).app (.cons hd5 .nil)
  · rintro σ' G' H' g s ⟨xs, a, b, c, d, e, rfl, m1, d1⟩
    have g2 := g.freeze hp0 m1
    exact s_ret (K := K) g2.s (ed_var rfl (.lst (.of upd_same) (dpa_mono (same_new m1.n) _ _ d1))) fun v G'' H'' g'' hd => q v _ _ (g2.trans g'') hd
-- slots of _law_both: 0 _law_web_here, 1 _law_evens_here, 2 _law_rows*, 3 _law_mask_here*, 4 _law_row
abbrev s_law_both : Stmt := top 45
abbrev N_law_both : List Str := ["_law_web_here", "_law_evens_here", "_law_rows", "_law_mask_here", "_law_row"]
theorem sc_law_both : FnScope N_law_both ["_law_web_here"] (defScope s_law_both) := ⟨rfl, rfl, rfl, by decide +kernel, rfl, by decide +kernel, by decide +kernel⟩
abbrev sp_law_both (K : PySem.W.Frag) : Sp := spD (α := Nat × Ties) K (fun a => Ok8 a.1 a.2) (fun a => [webD a.1 a.2]) (fun a => natsL (lBoth a.1 a.2))
theorem c_law_both {f : Addr} {fd : FuncData} (T : Txt mg) (F : Fd K mg "_law_both" s_law_both f fd) (C_law_bits : Cal P w K mg base CX0 "_law_bits" 1 ["_law_mask_here"] (sp_law_bits K)) (C_law_evens : Cal P w K mg base CX0 "_law_evens" 3 ["_law_web_here"] (sp_law_evens K)) (C_law_rounds : Cal P w K mg base CX0 "_law_rounds" 1 ["_law_evens_here"] (sp_law_rounds K)) : Cal P w K mg base CX0 "_law_both" 4 ["_law_web_here"] (sp_law_both K) := by
  refine okD F sc_law_both (F.fn.binds fun _ _ _ _ _ _ us hl => match us, hl with | [_], _ => rfl) (fun _ => rfl) fun cdv A outer s H G vs a Q E hr hp hs hv q => ?_
  have nd := sc_law_both.nd
  have hu := hr.units
  have hu1 := hu_of hr
  refine ⟨_, (pss_cons (ps_set (i := 1) nd rfl (Or.inl rfl) (pe_cal C_law_evens (hr.mono (by decide)) rfl (pa_cons (pv 0) pa_nil)))
     (pss_cons (ps_set (i := 2) nd rfl (Or.inr rfl) (pe_cal C_law_rounds (hr.mono (by decide)) rfl (pa_cons (pv 1) pa_nil)))
     (pss_one (ps_ret (pe_lc (own := [("_law_mask_here", 3)]) (g := gName 3) (tt := tTest (tOp (rEqD K) (tLc (iList K (tVar 2)) (gName 4) (tTest (tOp (rEq) (tOp (rI (fun _ j => 0 < j) fun i j => .int (i % j)) (tCB rInt1 (tCons (tCall (sp_law_bits K) [] E0 (tCons (tOp (rI0 fun i j => .int (Builtin.bitAnd i j)) (tVar 3) (tVar 4)) (tNil))) (tNil))) (tC (.int 2))) (tC (.int 1)))) (tC (.int 1)) [4]) (tLst (tNil)))) (te := tVar 3) rfl nd (pi_list (pv 1)) (blkOk_by (N := N_law_both) (sc := defScope s_law_both) (by decide +kernel)) (fun _ _ _ _ _ => (pg_name (i := 3) nd rfl (Or.inr rfl))) (fun _ _ _ _ _ => (pts_one (pt_cmpR (op_eqD hu) (pe_lc (own := [("_law_row", 4)]) (g := gName 4) (tt := tTest (tOp (rEq) (tOp (rI (fun _ j => 0 < j) fun i j => .int (i % j)) (tCB rInt1 (tCons (tCall (sp_law_bits K) [] E0 (tCons (tOp (rI0 fun i j => .int (Builtin.bitAnd i j)) (tVar 3) (tVar 4)) (tNil))) (tNil))) (tC (.int 2))) (tC (.int 1)))) (te := tC (.int 1)) rfl nd (pi_list (pv 2)) (blkIn (N := N_law_both) (so := defScope s_law_both) (by decide +kernel)) (fun _ _ _ _ _ => (pg_name (i := 4) nd rfl (Or.inl rfl))) (fun _ _ _ _ _ => (pts_one (pt_cmpR op_eq (pe_op op_mod (pe_callTy call_int1 rfl T.int_ (by decide +kernel) (pa_cons (pe_cal C_law_bits (hr.mono (by decide)) rfl (pa_cons (pe_op op_and (pv 3) (pv 4)) pa_nil)) pa_nil)) pe_int) pe_int (nomark _)))) (fun _ _ _ _ _ => pe_int)) (pe_lst pa_nil) (nomark _)))) (fun _ _ _ _ _ => (pv 3))))))), ?_⟩
  obtain ⟨n, W⟩ := a
  dsimp only at hv q hp
  obtain ⟨v0, rfl, h0⟩ := dpa1 hv
  have hel := lEvens_len (n := n) hp.t8
  refine q_set (K := K) hs (ed_call (n, W) (ea_cons (ed_var rfl h0) ea_nil) hp) fun v1 G1 H1 g1 h1 => ?_
  refine q_set (K := K) g1.s (ed_call (lEvens n W) (ea_cons (ed_var rfl h1) ea_nil) (by show (lEvens n W).length ≤ 1000; omega)) fun v2 G2 H2 g2 h2 => ?_
  have g12 := g1.trans g2
  refine s_ret (K := K) g2.s (ed_lc (lEvens n W) natD (fun m => ((lRounds (lEvens n W)).filter fun r => lOdd m r).isEmpty) natD (es_list (ed_var rfl (dp_mono g2.g _ _ h1))) (by omega) fun m hm x G' H' g' hx => ?_) fun v G3 H3 g3 hd => q v _ _ (g12.trans g3) hd
  cases hx
  refine ⟨_, fun Q q => q, rfl, et_test (K := K) (ed_noOnes (ed_lc (lRounds (lEvens n W)) natD (fun r => lOdd m r) (fun _ => .int 1) (es_list (ed_var rfl (dp_mono g'.g _ _ h2))) (by have := List.length_filter_le (fun m => decide (m ≠ 0) && ((lEvens n W).filter fun o => decide (o ∉ [0, m]) && decide (o &&& m = o)).isEmpty) (lEvens n W); unfold lRounds; omega) fun r hr x G'' H'' g'' hx => ?_)), fun _ => ed_var rfl (.int _)⟩
  cases hx
  exact ⟨_, fun Q q => q, rfl, et_test (K := K) (ed_odd (ed_var rfl (.int _)) (ed_var rfl (.int _)) (and_lt8 (lEvens_lt m hm) hp.t8)), fun _ => ed_int⟩
-- slots of _law_span: 0 _law_web_here, 1 _law_evens_here, 2 _law_found, 3 _law_cut, 4 _law_even
abbrev s_law_span : Stmt := top 48
abbrev N_law_span : List Str := ["_law_web_here", "_law_evens_here", "_law_found", "_law_cut", "_law_even"]
theorem sc_law_span : FnScope N_law_span ["_law_web_here"] (defScope s_law_span) := ⟨rfl, rfl, rfl, by decide +kernel, rfl, by decide +kernel, by decide +kernel⟩
abbrev sp_law_span (K : PySem.W.Frag) : Sp := spD (α := Nat × Ties) K (fun a => Ok8 a.1 a.2) (fun a => [webD a.1 a.2]) (fun a => natsL (lSpan a.1 a.2))
theorem c_law_span {f : Addr} {fd : FuncData} (T : Txt mg) (F : Fd K mg "_law_span" s_law_span f fd) (C_law_evens : Cal P w K mg base CX0 "_law_evens" 3 ["_law_web_here"] (sp_law_evens K)) (C_law_cuts : Cal P w K mg base CX0 "_law_cuts" 2 ["_law_web_here"] (sp_law_cuts K)) : Cal P w K mg base CX0 "_law_span" 4 ["_law_web_here"] (sp_law_span K) := by
  refine okD F sc_law_span (F.fn.binds fun _ _ _ _ _ _ us hl => match us, hl with | [_], _ => rfl) (fun _ => rfl) fun cdv A outer s H G vs a Q E hr hp hs hv q => ?_
  have nd := sc_law_span.nd
  have hu := hr.units
  have hu1 := hu_of hr
  refine ⟨_, (pss_cons (ps_par (i := 1) (j := 2) rfl nd rfl rfl (by decide) rfl rfl (pa_cons (pe_cal C_law_evens (hr.mono (by decide)) rfl (pa_cons (pv 0) pa_nil)) (pa_cons pe_dnewK pa_nil)) rfl)
     (pss_cons (ps_for PassesOwn.never rfl (pi_list (pe_cal C_law_cuts (hr.mono (by decide)) rfl (pa_cons (pv 0) pa_nil))) (pg_name (i := 3) nd rfl (Or.inl rfl))
     (pss_one (ps_for PassesOwn.never rfl (pi_list (pv 1)) (pg_name (i := 4) nd rfl (Or.inl rfl))
     (pss_one (ps_dput hu1 (pv 2) (pe_op op_xor (pv 3) (pv 4)) pe_bl rfl)))))
     (pss_one (ps_ret (pe_callB cr_sortedI rfl T.sorted (by decide +kernel) (pa_cons (pe_callTy (call_list_dK rfl) rfl T.list_ (by decide +kernel) (pa_cons (pv 2) pa_nil)) pa_nil)))))), ?_⟩
  obtain ⟨n, W⟩ := a
  dsimp only at hv q hp
  obtain ⟨v0, rfl, h0⟩ := dpa1 hv
  have hel := lEvens_len (n := n) hp.t8
  have hcl : (lCuts n W).length ≤ 8 := by
    rw [lCuts_len]
    exact Nat.pow_le_pow_right (n := 2) (by decide) (show n - 1 ≤ 3 by have := hp.n4; omega)
  refine q_parK (K := K) (Gi := G) (Hi := H) (Gr.refl hs) (ed_call (n, W) (ea_cons (ed_var rfl h0) ea_nil) hp) fun v1 p G1 H1 h1 hp0 s1 g1 mp => ?_
  have hlen : ∀ pre : List Nat, pre.length ≤ 8 → (pre.foldl (fun k c => (lEvens n W).foldl (fun k e => putD k (c ^^^ e) true) k) ([] : List (Nat × Bool))).length ≤ 256 * pre.length := by
    intro pre
    have key : ∀ (l : List Nat) (k : List (Nat × Bool)), (l.foldl (fun k c => (lEvens n W).foldl (fun k e => putD k (c ^^^ e) true) k) k).length ≤ k.length + 256 * l.length := by
      intro l
      induction l with
      | nil => exact fun _ => Nat.le_refl _
      | cons c r ih =>
        intro k
        have h1 := ih ((lEvens n W).foldl (fun k e => putD k (c ^^^ e) true) k)
        have h2 := putDs_len (fun e => c ^^^ e) (fun _ => true) (lEvens n W) k
        rw [List.foldl_cons, List.length_cons]
        omega
    intro _
    have := key pre []
    simpa using this
  refine q_forT (Gi := G) (Hi := H) (lCuts n W) natD (es_list (ed_call (n, W) (ea_cons (ed_var rfl (dp_mono s1 _ _ h0)) ea_nil) hp.ok)) g1 (fun pre σ' G' H' => ∃ (kvs : List (Key × V)) (a b : Option V), σ' = [some v0, some v1, some (.ref p), a, b] ∧ Mu G' H' p (.dK kvs) ∧
    KvD K G' PyData.bool kvs (pre.foldl (fun k c => (lEvens n W).foldl (fun k e => putD k (c ^^^ e) true) k) [])) (fun G' H' g' => ⟨[], _, _, rfl, mp.gr g', .nil⟩) ?_ ?_
  · rintro pre c post x σ' G2 H2 G3 H3 hsp g2 s2 ⟨kvs, a, b, rfl, m1, k1⟩ g3 hx
    cases hx
    have hpl : pre.length ≤ 8 := by
      have h2 := congrArg List.length hsp
      simp at h2
      omega
    have hk0 := hlen pre hpl
    have hnext : (pre ++ [c]).foldl (fun k c => (lEvens n W).foldl (fun k e => putD k (c ^^^ e) true) k) ([] : List (Nat × Bool)) = (lEvens n W).foldl (fun k e => putD k (c ^^^ e) true) (pre.foldl (fun k c => (lEvens n W).foldl (fun k e => putD k (c ^^^ e) true) k) []) := by rw [List.foldl_append]; rfl
    generalize hK : pre.foldl (fun k c => (lEvens n W).foldl (fun k e => putD k (c ^^^ e) true) k) ([] : List (Nat × Bool)) = k0 at k1 hk0 hnext
    have g13 := s2.trans g3.g
    refine g_nm (s_forT (Gi := G) (Hi := H) (lEvens n W) natD (es_list (ed_var rfl (dp_mono g13 _ _ h1))) (g2.trans g3) (fun pre2 σ' G' H' => ∃ (kvs : List (Key × V)) (b : Option V), σ' = [some v0, some v1, some (.ref p), some (.int (c : Int)), b] ∧ Mu G' H' p (.dK kvs) ∧
      KvD K G' PyData.bool kvs (pre2.foldl (fun k e => putD k (c ^^^ e) true) k0)) (fun G' H' g' => ⟨kvs, _, rfl, (m1.gr g3).gr g', (k1.mono g3.g).mono g'.g⟩) ?_ ?_)
    · rintro pre2 e post2 x σ' G4 H4 G5 H5 hsp2 g4 s4 ⟨kvs, b, rfl, m4, k4⟩ g5 hx
      cases hx
      have hl2 := putDs_len (fun e => c ^^^ e) (fun _ => true) pre2 k0
      have hpl2 : pre2.length ≤ 256 := by
        have h2 := congrArg List.length hsp2
        simp at h2
        omega
      refine g_nm (s_dput (K := K) (enc := PyData.bool) (x := c ^^^ e) (a := true) g5.s rfl (m4.gr g5) (k4.mono g5.g) (by omega) ed_bl (ed_op (ed_var rfl (.int _)) (ed_var rfl (.int _)) rd_xorN) fun G6 H6 kvs2 g6 m6 k6 => ?_)
      refine ⟨G6, (g4.trans (g5.trans g6)).mut hp0 m6.n, (g5.trans g6).g, kvs2, _, rfl, m6, ?_⟩
      rw [List.foldl_append]
      exact k6
    · rintro σ' G4 H4 g4 s4 ⟨kvs, b, rfl, m4, k4⟩
      refine ⟨G4, g4, g3.g.trans s4, kvs, _, _, rfl, m4, ?_⟩
      rw [hnext]
      exact k4
  · rintro σ' G' H' g s ⟨kvs, a, b, rfl, m1, k1⟩
    refine s_ret (K := K) g.s (ed_cb (ea_cons (ed_is (ed_listD rfl m1.h k1) (show _ = natsL ((lSpanK n W).map (·.1)) by
      show PyData.list _ = PyData.list ((List.map _ _).map natD)
      rw [List.map_map]; rfl)) ea_nil) ra_sortedI) fun v G'' H'' g'' hd => q v _ _ (g.trans g'') hd
end
end Bw
set_option Elab.async false
set_option linter.all false
set_option maxRecDepth 100000
set_option maxHeartbeats 4000000
namespace Bw
open PySem PySem.Spec PyProof.Rows L2 Bo
def lOddOnes (b : List (List Nat)) (one other : List Int) : Nat := (b.filter fun own => decide ((own.map fun t => other.getD t 0 - one.getD t 0).sum % 2 = 1)).length
section
variable {P : Program} {w : World} {K : PySem.W.Frag} {mg : Str → Option Value} {base : Heap}
theorem get_int {T : List Int} {i : Nat} (h : i < T.length) : (T.map PyData.int)[i]? = some (.int (T.getD i 0)) := by
  rw [get_map h, List.getD_eq_getElem?_getD, List.getElem?_eq_getElem h]; rfl
-- slots of _law_is_whole: 0 _law_thing
abbrev s_law_is_whole : Stmt := top 46
abbrev N_law_is_whole : List Str := ["_law_thing"]
theorem sc_law_is_whole : FnScope N_law_is_whole ["_law_thing"] (defScope s_law_is_whole) := ⟨rfl, rfl, rfl, by decide +kernel, rfl, by decide +kernel, by decide +kernel⟩
abbrev sp_law_is_whole (K : PySem.W.Frag) : Sp := spD (α := Int) K (fun _ => True) (fun a => [.int a]) (fun _ => .bool true)
theorem c_law_is_whole {f : Addr} {fd : FuncData} (T : Txt mg) (F : Fd K mg "_law_is_whole" s_law_is_whole f fd)  : Cal P w K mg base CX0 "_law_is_whole" 1 ["_law_thing"] (sp_law_is_whole K) := by
  refine okD F sc_law_is_whole (F.fn.binds fun _ _ _ _ _ _ us hl => match us, hl with | [_], _ => rfl) (fun _ => rfl) fun cdv A outer s H G vs a Q E hr hp hs hv q => ?_
  have nd := sc_law_is_whole.nd
  have hu := hr.units
  have hu1 := hu_of hr
  refine ⟨_, (pss_one (ps_ret (pe_and (pe_callB call_isi rfl T.isinstance (by decide +kernel) (pa_cons (pv 0) (pa_cons (pe_bltn (v := .ty "int") (u := .type "int") rfl T.int_ (by decide +kernel) rfl) pa_nil))) (pe_one (pe_not (pe_callB call_isi rfl T.isinstance (by decide +kernel) (pa_cons (pv 0) (pa_cons (pe_bltn (v := .ty "bool") (u := .type "bool") rfl T.bool_ (by decide +kernel) rfl) pa_nil)))))))), ?_⟩
  obtain ⟨v0, rfl, h0⟩ := dpa1 hv
  cases h0
  exact s_ret (K := K) hs (ed_andV (ed_isi (d := .int a) (T := "int") (b := true) (ed_var rfl (.int _)) (show kitB "int" "int" = some true by decide +kernel)) fun _ => ed_notV (ed_isi (d := .int a) (T := "bool") (b := false) (ed_var rfl (.int _)) (show kitB "int" "bool" = some false by decide +kernel))) q
-- slots of _law_is_lot: 0 _law_thing, 1 _law_many*, 2 _law_tie
abbrev s_law_is_lot : Stmt := top 47
abbrev N_law_is_lot : List Str := ["_law_thing", "_law_many", "_law_tie"]
theorem sc_law_is_lot : FnScope N_law_is_lot ["_law_thing", "_law_many"] (defScope s_law_is_lot) := ⟨rfl, rfl, rfl, by decide +kernel, rfl, by decide +kernel, by decide +kernel⟩
abbrev sp_law_is_lot (K : PySem.W.Frag) : Sp := spD (α := List Nat × Nat) K (fun a => a.1.Pairwise (· < ·) ∧ (∀ t ∈ a.1, t < a.2) ∧ a.1.length ≤ 60) (fun a => [natsT a.1, natD a.2]) (fun _ => .bool true)
theorem c_law_is_lot {f : Addr} {fd : FuncData} (T : Txt mg) (F : Fd K mg "_law_is_lot" s_law_is_lot f fd) (C_law_is_whole : Cal P w K mg base CX0 "_law_is_whole" 1 ["_law_thing"] (sp_law_is_whole K)) : Cal P w K mg base CX0 "_law_is_lot" 2 ["_law_thing", "_law_many"] (sp_law_is_lot K) := by
  refine okD F sc_law_is_lot (F.fn.binds fun _ _ _ _ _ _ us hl => match us, hl with | [_, _], _ => rfl) (fun _ => rfl) fun cdv A outer s H G vs a Q E hr hp hs hv q => ?_
  have nd := sc_law_is_lot.nd
  have hu := hr.units
  have hu1 := hu_of hr
  refine ⟨_, (pss_cons (ps_if (PW.pt (pw_or (pt_not (pt_val (pe_callB call_isi rfl T.isinstance (by decide +kernel) (pa_cons (pv 0) (pa_cons (pe_bltn (v := .ty "tuple") (u := .type "tuple") rfl T.tuple_ (by decide +kernel) rfl) pa_nil))))) (pw_or1 (pt_cmpR (op_neD hu) (pe_lc (own := [("_law_tie", 2)]) (g := gName 2) (tt := tNot (tB (tCall (sp_law_is_whole K) [] E0 (tCons (tVar 2) (tNil))))) (te := tC (.int 1)) rfl nd (pi_tup (pv 0)) (blkOk_by (N := N_law_is_lot) (sc := defScope s_law_is_lot) (by decide +kernel)) (fun _ _ _ _ _ => (pg_name (i := 2) nd rfl (Or.inl rfl))) (fun _ _ _ _ _ => (pts_one (pt_not (pt_val (pe_cal C_law_is_whole (hr.mono (by decide)) rfl (pa_cons (pv 2) pa_nil)))))) (fun _ _ _ _ _ => pe_int)) (pe_lst pa_nil) (nomark _)))))
     (pss_one (ps_ret pe_bl))
     pss_nil)
     (pss_one (ps_ret (pe_and (pe_cmpR (op_eqD hu) (pe_lc (own := [("_law_tie", 2)]) (g := gName 2) (tt := tNot (tTest (tChain (rI0 fun i j => .bl (decide (i ≤ j))) (rI0 fun i j => .bl (decide (i < j))) (tC (.int 0)) (tVar 2) (tVar 1)))) (te := tC (.int 1)) rfl nd (pi_tup (pv 0)) (blkOk_by (N := N_law_is_lot) (sc := defScope s_law_is_lot) (by decide +kernel)) (fun _ _ _ _ _ => (pg_name (i := 2) nd rfl (Or.inl rfl))) (fun _ _ _ _ _ => (pts_one (pt_not (pt_chain op_le op_lt pe_int (pv 2) (pv 1))))) (fun _ _ _ _ _ => pe_int)) (pe_lst pa_nil) (nomark _)) (pe_one (pe_cmpR (op_eqD hu) (pe_callB (cr_sortedSet rfl) rfl T.sorted (by decide +kernel) (pa_cons (pe_callTy (cr_setT rfl) rfl T.set_ (by decide +kernel) (pa_cons (pv 0) pa_nil)) pa_nil)) (pe_callTy call_list_of rfl T.list_ (by decide +kernel) (pa_cons (pv 0) pa_nil)) (nomark _))))))), ?_⟩
  obtain ⟨l, m⟩ := a
  dsimp only at hv q hp
  obtain ⟨v0, v1, rfl, h0, h1⟩ := dpa2 hv
  cases h1
  obtain ⟨hpw, hlt, hl⟩ := hp
  have hes : ∀ {σ : L2.St}, σ[0]? = some (some v0) → ES K (iTup K (tVar 0)) σ G H (l.map natD) := fun h => es_tup (ed_var h h0)
  refine q_if1 (b := false) hs (et_is (et_or (et_not (et_B (K := K) (ed_isi (d := natsT l) (T := "tuple") (b := true) (ed_var rfl h0) (show kitB "tuple" "tuple" = some true by decide +kernel)))) fun _ => et_test (K := K) (ed_someOnes (ed_lc l natD (fun _ => false) (fun _ => .int 1) (hes rfl) (by omega) fun t ht x G' H' g' hx => ?_))) ?_) (fun c => absurd c (by decide)) (fun _ G1 H1 g1 => ?_)
  · cases hx
    exact ⟨_, fun Q q => q, rfl, et_is (et_not (et_B (K := K) (ed_call (t : Int) (ea_cons (ed_var rfl (.int _)) ea_nil) trivial))) rfl, fun _ => ed_int⟩
  · simp
  refine s_ret (K := K) g1.s (ed_is (ed_andV (ed_noOnes (ed_lc l natD (fun _ => false) (fun _ => .int 1) (es_tup (ed_var rfl (dp_mono g1.g _ _ h0))) (by omega) fun t ht x G' H' g' hx => ?_)) fun _ => ed_op (ed_sset (ed_var rfl (dp_mono g1.g _ _ h0)) hpw hl) (ed_cb (ea_cons (ed_var rfl (dp_mono g1.g _ _ h0)) ea_nil) ra_listT) (rd_eqD (nats_shaped l) (nats_shaped l))) ?_) fun v G2 H2 g2 hd => q v _ _ (g1.trans g2) hd
  · cases hx
    have := hlt t ht
    exact ⟨_, fun Q q => q, rfl, et_is (et_not (et_test (K := K) (ed_chain ed_int (ed_var rfl (.int _)) (ed_var rfl (.int _))))) (by simp; omega), fun _ => ed_int⟩
  · have e := SeqAt.eqv_refl (natsL l) (SeqAt.canLay_of_shaped (nats_shaped l))
    rw [e]
    simp
-- slots of _law_is_standing: 0 _law_thing, 1 _law_many, 2 _law_item
abbrev s_law_is_standing : Stmt := top 53
abbrev N_law_is_standing : List Str := ["_law_thing", "_law_many", "_law_item"]
theorem sc_law_is_standing : FnScope N_law_is_standing ["_law_thing", "_law_many"] (defScope s_law_is_standing) := ⟨rfl, rfl, rfl, by decide +kernel, rfl, by decide +kernel, by decide +kernel⟩
abbrev sp_law_is_standing (K : PySem.W.Frag) : Sp := spD (α := List Int × Nat) K (fun a => a.1.length = a.2 ∧ (∀ x ∈ a.1, -(10 ^ 12) ≤ x ∧ x ≤ 10 ^ 12) ∧ a.1.length ≤ 60) (fun a => [intsT a.1, natD a.2]) (fun _ => .bool true)
theorem c_law_is_standing {f : Addr} {fd : FuncData} (T : Txt mg) (F : Fd K mg "_law_is_standing" s_law_is_standing f fd) (C_law_is_whole : Cal P w K mg base CX0 "_law_is_whole" 1 ["_law_thing"] (sp_law_is_whole K)) : Cal P w K mg base CX0 "_law_is_standing" 2 ["_law_thing", "_law_many"] (sp_law_is_standing K) := by
  refine okD F sc_law_is_standing (F.fn.binds fun _ _ _ _ _ _ us hl => match us, hl with | [_, _], _ => rfl) (fun _ => rfl) fun cdv A outer s H G vs a Q E hr hp hs hv q => ?_
  have nd := sc_law_is_standing.nd
  have hu := hr.units
  have hu1 := hu_of hr
  refine ⟨_, (pss_cons (ps_if (PW.pt (pw_or (pt_not (pt_val (pe_callB call_isi rfl T.isinstance (by decide +kernel) (pa_cons (pv 0) (pa_cons (pe_bltn (v := .ty "tuple") (u := .type "tuple") rfl T.tuple_ (by decide +kernel) rfl) pa_nil))))) (pw_or1 (pt_cmpR op_ne (pe_callB call_len_seq rfl T.len (by decide +kernel) (pa_cons (pv 0) pa_nil)) (pv 1) (nomark _)))))
     (pss_one (ps_ret pe_bl))
     pss_nil)
     (pss_one (ps_ret (pe_cmpR (op_eqD hu) (pe_lc (own := [("_law_item", 2)]) (g := gName 2) (tt := tOr (tNot (tB (tCall (sp_law_is_whole K) [] E0 (tCons (tVar 2) (tNil))))) (tTest (tOp (rI0 fun i j => .bl (decide (j < i))) (tCB rAbs (tCons (tVar 2) (tNil))) (tOp (rI CPow fun i j => .int (i ^ j.toNat)) (tC (.int 10)) (tC (.int 12)))))) (te := tC (.int 1)) rfl nd (pi_tup (pv 0)) (blkOk_by (N := N_law_is_standing) (sc := defScope s_law_is_standing) (by decide +kernel)) (fun _ _ _ _ _ => (pg_name (i := 2) nd rfl (Or.inl rfl))) (fun _ _ _ _ _ => (pts_one (PW.pt (pw_or (pt_not (pt_val (pe_cal C_law_is_whole (hr.mono (by decide)) rfl (pa_cons (pv 2) pa_nil)))) (pw_or1 (pt_cmpR op_gt (pe_callB call_abs rfl T.abs (by decide +kernel) (pa_cons (pv 2) pa_nil)) (pe_op op_pow pe_int pe_int) (nomark _))))))) (fun _ _ _ _ _ => pe_int)) (pe_lst pa_nil) (nomark _))))), ?_⟩
  obtain ⟨l, m⟩ := a
  dsimp only at hv q hp
  obtain ⟨v0, v1, rfl, h0, h1⟩ := dpa2 hv
  cases h1
  obtain ⟨hlm, hb, hl⟩ := hp
  refine q_if1 (b := false) hs (et_is (et_or (et_not (et_B (K := K) (ed_isi (d := intsT l) (T := "tuple") (b := true) (ed_var rfl h0) (show kitB "tuple" "tuple" = some true by decide +kernel)))) fun _ => et_test (K := K) (ed_op (ed_cb (ea_cons (ed_var rfl h0) ea_nil) ra_lenT) (ed_var rfl (.int _)) rd_neN)) ?_) (fun c => absurd c (by decide)) (fun _ G1 H1 g1 => ?_)
  · rw [List.length_map, hlm]
    simp
  refine s_ret (K := K) g1.s (ed_is (ed_noOnes (ed_lc l PyData.int (fun _ => false) (fun _ => .int 1) (es_tup (ed_var rfl (dp_mono g1.g _ _ h0))) (by omega) fun t ht x G' H' g' hx => ?_)) (by simp)) fun v G2 H2 g2 hd => q v _ _ (g1.trans g2) hd
  cases hx
  have := hb t ht
  refine ⟨_, fun Q q => q, rfl, et_is (et_or (et_not (et_B (K := K) (ed_call t (ea_cons (ed_var rfl (.int _)) ea_nil) trivial))) fun _ => et_test (K := K) (ed_op (ed_cb (ea_cons (ed_var rfl (.int _)) ea_nil) ra_abs) (ed_op ed_int ed_int (rd_I (C := CPow) ⟨by decide, by decide, by decide⟩)) rd_B0)) ?_, fun _ => ed_int⟩
  have e12 : (10 : Int) ^ Int.toNat 12 = 10 ^ 12 := rfl
  rw [e12, Bool.not_true, Bool.false_or, decide_eq_false_iff_not]
  split <;> omega
-- slots of _law_odd_ones: 0 _law_bundles_here, 1 _law_one*, 2 _law_other*, 3 _law_own, 4 _law_tie
abbrev s_law_odd_ones : Stmt := top 56
abbrev N_law_odd_ones : List Str := ["_law_bundles_here", "_law_one", "_law_other", "_law_own", "_law_tie"]
theorem sc_law_odd_ones : FnScope N_law_odd_ones ["_law_bundles_here", "_law_one", "_law_other"] (defScope s_law_odd_ones) := ⟨rfl, rfl, rfl, by decide +kernel, rfl, by decide +kernel, by decide +kernel⟩
abbrev sp_law_odd_ones (K : PySem.W.Frag) : Sp := spD (α := List (List Nat) × List Int × List Int) K (fun a => (∀ own ∈ a.1, own.length ≤ 1000 ∧ ∀ t ∈ own, t < a.2.1.length ∧ t < a.2.2.length) ∧ a.1.length ≤ 1000) (fun a => [.list (a.1.map natsL), intsT a.2.1, intsT a.2.2]) (fun a => natD (lOddOnes a.1 a.2.1 a.2.2))
theorem c_law_odd_ones {f : Addr} {fd : FuncData} (T : Txt mg) (F : Fd K mg "_law_odd_ones" s_law_odd_ones f fd)  : Cal P w K mg base CX0 "_law_odd_ones" 1 ["_law_bundles_here", "_law_one", "_law_other"] (sp_law_odd_ones K) := by
  refine okD F sc_law_odd_ones (F.fn.binds fun _ _ _ _ _ _ us hl => match us, hl with | [_, _, _], _ => rfl) (fun _ => rfl) fun cdv A outer s H G vs a Q E hr hp hs hv q => ?_
  have nd := sc_law_odd_ones.nd
  have hu := hr.units
  have hu1 := hu_of hr
  refine ⟨_, (pss_one (ps_ret (pe_callB call_len_seq rfl T.len (by decide +kernel) (pa_cons (pe_lc (own := [("_law_own", 3)]) (g := gName 3) (tt := tTest (tOp (rEq) (tOp (rI (fun _ j => 0 < j) fun i j => .int (i % j)) (tCB rInt1 (tCons (tCB (rSum K) (tCons (tLc (iList K (tVar 3)) (gName 4) (tYes) (tOp (rI0 fun i j => .int (i - j)) (tOp (rIxT K) (tVar 2) (tVar 4)) (tOp (rIxT K) (tVar 1) (tVar 4))) [4]) (tNil))) (tNil))) (tC (.int 2))) (tC (.int 1)))) (te := tC (.int 1)) rfl nd (pi_list (pv 0)) (blkOk_by (N := N_law_odd_ones) (sc := defScope s_law_odd_ones) (by decide +kernel)) (fun _ _ _ _ _ => (pg_name (i := 3) nd rfl (Or.inl rfl))) (fun _ _ _ _ _ => (pts_one (pt_cmpR op_eq (pe_op op_mod (pe_callTy call_int1 rfl T.int_ (by decide +kernel) (pa_cons (pe_callB (cr_sum rfl) rfl T.sum (by decide +kernel) (pa_cons (pe_lc (own := [("_law_tie", 4)]) (g := gName 4) (tt := tYes) (te := tOp (rI0 fun i j => .int (i - j)) (tOp (rIxT K) (tVar 2) (tVar 4)) (tOp (rIxT K) (tVar 1) (tVar 4))) rfl nd (pi_list (pv 3)) (blkIn (N := N_law_odd_ones) (so := defScope s_law_odd_ones) (by decide +kernel)) (fun _ _ _ _ _ => (pg_name (i := 4) nd rfl (Or.inl rfl))) (fun _ _ _ _ _ => pts_nil) (fun _ _ _ _ _ => (pe_op op_sub (pe_ix ix_tup (pv 2) (pv 4) (fun _ _ => rfl)) (pe_ix ix_tup (pv 1) (pv 4) (fun _ _ => rfl))))) pa_nil)) pa_nil)) pe_int) pe_int (nomark _)))) (fun _ _ _ _ _ => pe_int)) pa_nil)))), ?_⟩
  obtain ⟨b, one, other⟩ := a
  dsimp only at hv q hp
  obtain ⟨v0, v1, v2, rfl, h0, h1, h2⟩ := dpa3 hv
  obtain ⟨hb, hl⟩ := hp
  refine s_ret (K := K) hs (ed_is (ed_cb (ea_cons (ed_lc b natsL (fun own => decide ((own.map fun t => other.getD t 0 - one.getD t 0).sum % 2 = 1)) (fun _ => .int 1) (es_list (ed_var rfl h0)) (by omega) fun own ho x G' H' g' hx => ?_) ea_nil) ra_lenL) ?_) q
  · obtain ⟨hol, hot⟩ := hb own ho
    refine ⟨_, fun Q q => q, rfl, et_test (K := K) (ed_op (ed_op (ed_cb (ea_cons (ed_cb (ea_cons (ed_is (ed_lcA own natD (fun t => .int (other.getD t 0 - one.getD t 0)) (es_list (ed_var rfl hx)) (by omega) fun t ht y G'' H'' g'' hy => ?_) ?_) ea_nil) ra_sum) ea_nil) ra_intI) ed_int (rd_I (C := fun _ j => 0 < j) (by decide))) ed_int rd_eqI), fun _ => ed_int⟩
    · cases hy
      obtain ⟨ha, hb⟩ := hot t ht
      exact ⟨_, fun Q q => q, rfl, ed_op (ed_op (ed_var rfl (dp_mono (g'.trans g'').g _ _ h2)) (ed_var rfl (.int _)) (rd_ixTn (get_int hb))) (ed_op (ed_var rfl (dp_mono (g'.trans g'').g _ _ h1)) (ed_var rfl (.int _)) (rd_ixTn (get_int ha))) rd_I0⟩
    · rw [show (own.map fun t => PyData.int (other.getD t 0 - one.getD t 0)) = (own.map fun t => other.getD t 0 - one.getD t 0).map PyData.int by rw [List.map_map]; rfl]
  · rw [List.length_map]; rfl
-- slots of _law_gaps: 0 _law_web_here, 1 _law_span_here, 2 _law_found, 3 _law_mask_here, 4 _law_own
abbrev s_law_gaps : Stmt := top 49
abbrev N_law_gaps : List Str := ["_law_web_here", "_law_span_here", "_law_found", "_law_mask_here", "_law_own"]
theorem sc_law_gaps : FnScope N_law_gaps ["_law_web_here"] (defScope s_law_gaps) := ⟨rfl, rfl, rfl, by decide +kernel, rfl, by decide +kernel, by decide +kernel⟩
def sp_law_gaps (K : PySem.W.Frag) : Sp := fun vs H Q _ => ∃ (a : Nat × Ties) (G : Hp), Ok8 a.1 a.2 ∧ Same G H ∧ DpAll K G vs [webD a.1 a.2] ∧ ∀ p kvs G' H', H p = none → Gr G H G' H' → Mu G' H' p (.dK kvs) → KvD K G' natD kvs (lGaps a.1 a.2) → Q (.ref p) H'
theorem ed_sortBits {σ : L2.St} {G H : Hp} {te : TE} {ns : List Nat} {fB : Addr} (h : ED K te σ G H (natsL ns)) (hb : ∀ n ∈ ns, n < 256) : ED K (tCKw (rSortBits K fB) (tCons te tNil) (tCons (tC (.ref fB)) tNil)) σ G H (natsL (sortBits ns)) := fun G0 H0 g0 Q q =>
  h G0 H0 g0 _ fun v G1 H1 g1 hv => by
    cases hv with
    | @lst a xs _ hs ha =>
      rw [natD_ints] at ha
      have e := ha.ints
      subst e
      refine ⟨a, ns, rfl, rfl, g1.s.seq hs, hb, fun p hp => q _ _ _ (g1.trans (Gr.new g1.s hp)) (.lst (.of upd_same) ?_)⟩
      rw [natD_ints]
      exact .ofInts _
theorem c_law_gaps {f fB : Addr} {fd fdB : FuncData} (T : Txt mg) (F : Fd K mg "_law_gaps" s_law_gaps f fd) (FB : Fd K mg "_law_bits" s_law_bits fB fdB) (C_law_bits : Cal P w K mg base CX0 "_law_bits" 1 ["_law_mask_here"] (sp_law_bits K)) (C_law_span : Cal P w K mg base CX0 "_law_span" 4 ["_law_web_here"] (sp_law_span K)) : Cal P w K mg base CX0 "_law_gaps" 5 ["_law_web_here"] (sp_law_gaps K) := by
  refine ⟨f, fd, ?_, F.mg, F.fn.kp, F.fn.binds fun _ _ _ _ _ _ us hl => match us, hl with | [_], _ => rfl⟩
  refine F.fn.ok sc_law_gaps (fun vs H Q E h => ?_) (fun cdv A outer s H vs Q E hr h => ?_)
  · obtain ⟨a, G, _, _, h, _⟩ := h
    rw [h.len]; rfl
  obtain ⟨⟨n, W⟩, G, hp, hs, hv, q⟩ := h
  have nd := sc_law_gaps.nd
  have hu := hr.units
  have hu1 := hu_of hr
  refine ⟨_, (pss_cons (ps_par (i := 1) (j := 2) rfl nd rfl rfl (by decide) rfl rfl (pa_cons (pe_cal C_law_span (hr.mono (by decide)) rfl (pa_cons (pv 0) pa_nil)) (pa_cons pe_dnewK pa_nil)) rfl)
     (pss_cons (ps_for PassesOwn.never rfl (pi_list (pe_callBK (cr_sortedBits FB.fn hr) rfl T.sorted (by decide +kernel) (pa_cons (pe_listRg rfl rfl T.list_ (prg_1 rfl T.range (pe_op op_shl pe_int (pe_callB call_len_seq rfl T.len (by decide +kernel) (pa_cons (pe_ix ix_tup (pv 0) pe_int (fun _ _ => rfl)) pa_nil))))) pa_nil) (pk_cons (pe_glob (v := .ref fB) rfl FB.mg rfl) pk_nil))) (pg_name (i := 3) nd rfl (Or.inl rfl))
     (pss_one (ps_if (pt_cmp (pc_dnotin hu1 (pv 3) (pv 2)) (by rfl))
     (pss_one (ps_for PassesOwn.never rfl (pi_list (pv 1)) (pg_name (i := 4) nd rfl (Or.inl rfl))
     (pss_one (ps_dput hu1 (pv 2) (pe_op op_xor (pv 3) (pv 4)) (pe_cal C_law_bits (hr.mono (by decide)) rfl (pa_cons (pv 3) pa_nil)) rfl))))
     pss_nil)))
     (pss_one (ps_ret (pv 2))))), ?_⟩
  dsimp only at hv q hp
  obtain ⟨v0, rfl, h0⟩ := dpa1 hv
  have h8 := pow8 hp.t8
  have hperm := sortBits_perm (List.range (2 ^ W.length))
  have hmem : ∀ m ∈ sortBits (List.range (2 ^ W.length)), m < 2 ^ W.length := fun m hm => List.mem_range.mp (hperm.mem_iff.mp hm)
  refine q_parK (K := K) (Gi := G) (Hi := H) (Gr.refl hs) (ed_call (n, W) (ea_cons (ed_var rfl h0) ea_nil) hp) fun v1 p G1 H1 h1 hp0 s1 g1 mp => ?_
  refine q_forT (Gi := G) (Hi := H) (sortBits (List.range (2 ^ W.length))) natD (es_list (ed_sortBits (ed_lrg (ed_is (ed_op ed_int (ed_cb (ea_cons (ed_op (ed_var rfl (dp_mono s1 _ _ h0)) ed_int (rd_ixT (j := 1) rfl rfl)) ea_nil) ra_lenT) (rd_shlN (a := 1) (by decide) (by rw [List.length_map]; have := hp.t8; omega))) (by rw [Nat.one_mul, List.length_map])) (by omega)) (fun n hn => Nat.lt_of_lt_of_le (List.mem_range.mp hn) h8))) g1
    (fun pre σ' G' H' => ∃ (kvs : List (Key × V)) (a b : Option V), σ' = [some v0, some v1, some (.ref p), a, b] ∧ Mu G' H' p (.dK kvs) ∧ KvD K G' natD kvs (pre.foldl (lGapStep (lSpan n W)) [])) (fun G' H' g' => ⟨[], _, _, rfl, mp.gr g', .nil⟩) ?_ ?_
  · rintro pre m post x σ' G2 H2 G3 H3 hsp g2 s2 ⟨kvs, a, b, rfl, m1, k1⟩ g3 hx
    cases hx
    have hm := hmem m (by rw [hsp]; simp)
    have hpre : KInv (2 ^ W.length) (pre.foldl (lGapStep (lSpan n W)) []) := lGapRun_inv pre (fun x hx => hmem x (by rw [hsp]; exact List.mem_append_left _ hx)) KInv.nil
    have hnext : (pre ++ [m]).foldl (lGapStep (lSpan n W)) [] = lGapStep (lSpan n W) (pre.foldl (lGapStep (lSpan n W)) []) m := by rw [List.foldl_append]; rfl
    generalize pre.foldl (lGapStep (lSpan n W)) [] = k0 at k1 hpre hnext
    have g13 := s2.trans g3.g
    have m3 := m1.gr g3
    have k3 := k1.mono g3.g
    refine g_nm (s_if g3.s (et_B (K := K) (ed_dnotin (x := m) rfl (.inl m3.h) k3 (ed_var rfl (.int _)))) (fun c1 G4 H4 g4 => ?_) (fun c1 G4 H4 g4 => ?_))
    · have c1' : valN k0 m = none := by simpa using c1
      have hstep : lGapStep (lSpan n W) k0 m = (lSpan n W).foldl (fun k o => putD k (m ^^^ o) (lBits m)) k0 := by
        unfold lGapStep
        rw [if_pos c1']
      refine s_forT (Gi := G) (Hi := H) (lSpan n W) natD (es_list (ed_var rfl (dp_mono (g13.trans g4.g) _ _ h1))) ((g2.trans g3).trans g4) (fun pre2 σ' G' H' => ∃ (kvs : List (Key × V)) (b : Option V), σ' = [some v0, some v1, some (.ref p), some (.int (m : Int)), b] ∧ Mu G' H' p (.dK kvs) ∧
        KvD K G' natD kvs (pre2.foldl (fun k o => putD k (m ^^^ o) (lBits m)) k0)) (fun G' H' g' => ⟨kvs, _, rfl, (m3.gr g4).gr g', (k3.mono g4.g).mono g'.g⟩) ?_ ?_
      · rintro pre2 o post2 x σ' G5 H5 G6 H6 hsp2 g5 s5 ⟨kvs, b, rfl, m5, k5⟩ g6 hx
        cases hx
        have hi2 : KInv (2 ^ W.length) (pre2.foldl (fun k o => putD k (m ^^^ o) (lBits m)) k0) := KInv.puts (f := fun o => m ^^^ o) (g := fun _ => lBits m) pre2 hpre fun y hy => Nat.xor_lt_two_pow hm (lSpan_lt y (by rw [hsp2]; exact List.mem_append_left _ hy))
        have hl2 := hi2.len
        refine g_nm (s_dput (K := K) (enc := natD) (x := m ^^^ o) (a := lBits m) g6.s rfl (m5.gr g6) (k5.mono g6.g) (by omega) (ed_call m (ea_cons (ed_var rfl (.int _)) ea_nil) (by show m < 256; omega)) (ed_op (ed_var rfl (.int _)) (ed_var rfl (.int _)) rd_xorN) fun G7 H7 kvs2 g7 m7 k7 => ?_)
        refine ⟨G7, (g5.trans (g6.trans g7)).mut hp0 m7.n, (g6.trans g7).g, kvs2, _, rfl, m7, ?_⟩
        rw [List.foldl_append]
        exact k7
      · rintro σ' G5 H5 g5 s5 ⟨kvs, b, rfl, m5, k5⟩
        refine ⟨G5, g5, (g3.trans g4).g.trans s5, kvs, _, _, rfl, m5, ?_⟩
        rw [hnext, hstep]
        exact k5
    · have c1' : ¬ valN k0 m = none := by
        intro z
        rw [z] at c1
        exact absurd c1 (by decide)
      refine ⟨G4, (g2.trans g3).trans g4, (g3.trans g4).g, kvs, _, _, rfl, m3.gr g4, ?_⟩
      rw [hnext, lGapStep, if_neg c1']
      exact k3.mono g4.g
  · rintro σ' G' H' g s ⟨kvs, a, b, rfl, m1, k1⟩
    exact ⟨_, rfl, q p kvs G' H' hp0 g m1 k1⟩
end
end Bw
set_option Elab.async false
set_option linter.all false
set_option maxRecDepth 100000
set_option maxHeartbeats 4000000
namespace Bw
open PySem PySem.Spec PyProof.Rows L2 Bo
section
variable {X : Cx} {CX : CXT} {k : Nat} {f C : Addr} {fd : FuncData} {ps ks : List Str} {sp : Sp} {E : L2.St → XK} {x : Str} {p pos : Pos} {kws : List Keyword} {tk : TA} {g : List Value → List Value → List Value} {gV : List V → List V → List V}
/-- f(k = v, ..): nothing by position, may raise -/
theorem run_fnkS {pins : List (Addr × Obj)} {σ : L2.St} {H : Hp} {s : Shared} {Q : VK} {us ws : List Value} {vs zs : List V} (F : FnOk X.prog X.w X.K X.mg X.base CX k f fd ps sp) (hr : Room k X.A) (hb : KBinds X.K fd ps ks g gV) (hx : PassesAt CX X σ (E σ))
    (I : Inv X pins σ H s) (r : Vals vs us) (rz : Vals zs ws) (h : sp (gV vs zs) H Q (E σ)) : wpAny (model X.prog X.w) X.A (call (.ref f) us (ks.zip ws)) (EP X pins σ Q) X.xe s := by
  have r2 := hb.rel r rz
  have hl : (g us ws).length = ps.length := by rw [← r2.length]; exact F.len _ _ _ _ h
  refine wpAny_call (codeAny_mono (F.run X.A X.stack s H ⟨us, ks.zip ws⟩ (g us ws) (gV vs zs) Q (E σ) hr I.env0 (hb.to s us ws I.kIn hl) r2 h) fun r s' hq => ?_)
  cases r with
  | error e => exact hx pins H s e s' I hq
  | ok fl =>
    cases fl with
    | ret u => exact I.after hq
    | next => exact False.elim hq
    | brk => exact False.elim hq
    | cont => exact False.elim hq
def tCallKS (sp : Sp) (gV : List V → List V → List V) (E : L2.St → XK) (tk : TA) : TE := fun σ H Q => tk σ H fun zs H2 => sp (gV [] zs) H2 Q (E σ)
theorem pe_callKS (F : FnOk X.prog X.w X.K X.mg X.base CX k f fd ps sp) (hr : Room k X.A) (hg : Gl X x) (hm : X.mg x = some (.ref f)) (hk : PySem.W.keepIn X.K (.ref f) = true) (hb : KBinds X.K fd ps ks g gV) (hx : ∀ σ, PassesAt CX X σ (E σ))
    (hkw : PK X kws tk) (hall : (backToKw pos (keywordEach kws X.env)).all (·.1.isSome) = true := by rfl) (hks : (backToKw pos (keywordEach kws X.env)).filterMap (·.1) = ks := by rfl)
    (hdb : (x == ("__debug__" : Str)) = false := by decide) (hpl : ((backTo pos (starEach [] X.env)).any (·.1) || (backToKw pos (keywordEach kws X.env)).any (·.1.isNone)) = false := by rfl) :
    PE X (.Call (.Name x p) [] kws pos) (tCallKS sp gV E tk) := by
  refine ⟨fun pins s σ H Q I h => ?_⟩
  refine wpAny_Call_Name_kw (ld_glob I hg hm ?_ hdb)
  refine PySem.W.callWith_KW0 (h₀ := X.base) I.ok.mod.kin hk hall (thn (hkw.run pos pins s σ H _ I h) fun ws s2 ⟨zs, H2, I2, rz, q2⟩ => ⟨I2.kIn, ?_⟩) hpl
  rw [hks]
  exact run_fnkS F hr hb (hx σ) I2 .nil rz q2
end
/-- three keywords in the parameters' order backward -/
def rev3 {α : Type} (us ws : List α) : List α := match us, ws with
  | [], [c, b, a] => [a, b, c]
  | _, _ => []
theorem kb_rev3 {K : PySem.W.Frag} {x qual : Str} {st : Stmt} {f : Addr} {fd : FuncData} {a b c : Str} (F : Fun K x qual st f fd)
    (h : ∀ (kV doc pm : Value) (an : Option Addr) (cdv ct : Value) (u1 u2 u3 : Value), bindArgs (PySem.W.fnOf x qual (defArgs st) (defBody st) (defScope st) .none kV doc pm an cdv ct) ⟨[], [c, b, a].zip [u1, u2, u3]⟩ = pure ([a, b, c].zip [u3, u2, u1])) :
    KBinds K fd [a, b, c] [c, b, a] rev3 rev3 := by
  obtain ⟨oc, od, kV, doc, pm, an, cdv, ct, osl, rfl, lk, hcd⟩ := F.ex
  refine ⟨fun s us ws hk hl => ?_, fun {vs us zs ws} r rz => ?_⟩
  · match us, ws, hl with
    | [], [u1, u2, u3], _ => exact .of_eq (h kV doc pm an cdv ct u1 u2 u3)
  · cases r with
    | cons r1 r => exact .nil
    | nil =>
      cases rz with
      | nil => exact .nil
      | cons z1 rz =>
        cases rz with
        | nil => exact .nil
        | cons z2 rz =>
          cases rz with
          | nil => exact .nil
          | cons z3 rz =>
            cases rz with
            | nil => exact .cons z3 (.cons z2 (.cons z1 .nil))
            | cons z4 rz => exact .nil
/-- a call that may raise Thin -/
theorem ed_callX {α : Type} {K : PySem.W.Frag} {σ : L2.St} {G H : Hp} {TH : Addr} {P : α → Prop} {args : α → List PyData} {cut : α → Option (List Nat)} {res : α → PyData} {E : L2.St → XK} {ta : TA} {d : PyData} (x : α) (h : EA K ta σ G H (args x)) (hp : P x) (hn : cut x = none → res x = d)
    (hE : ∀ l, cut x = some l → ∀ dx v G' H', Gr G H G' H' → Dp K G' v (natsT l) → H' dx = some (.xd [(("lot" : Str), v)]) → E σ (.ref TH) (some dx) H') : ED K (tCallS (spX K TH P args cut res) E ta) σ G H d := fun G0 H0 g0 Q q =>
  h G0 H0 g0 _ fun vs G1 H1 g1 hv => ⟨x, G1, hp, g1.s, hv, fun hc v G2 H2 g2 hd => q v G2 H2 (g1.trans g2) (hn hc ▸ hd), fun l hc dx v G2 H2 g2 hd hx => hE l hc dx v G2 H2 ((g0.trans g1).trans g2) hd hx⟩
theorem ed_callXK {α : Type} {K : PySem.W.Frag} {σ : L2.St} {G H : Hp} {TH : Addr} {P : α → Prop} {args : α → List PyData} {cut : α → Option (List Nat)} {res : α → PyData} {E : L2.St → XK} {ta : TA} {d d1 d2 d3 : PyData} (x : α) (h : EA K ta σ G H [d3, d2, d1]) (ha : args x = [d1, d2, d3]) (hp : P x) (hn : cut x = none → res x = d)
    (hE : ∀ l, cut x = some l → ∀ dx v G' H', Gr G H G' H' → Dp K G' v (natsT l) → H' dx = some (.xd [(("lot" : Str), v)]) → E σ (.ref TH) (some dx) H') : ED K (tCallKS (spX K TH P args cut res) rev3 E ta) σ G H d := fun G0 H0 g0 Q q =>
  h G0 H0 g0 _ fun vs G1 H1 g1 hv => by
    obtain ⟨v3, v2, v1, rfl, h3, h2, h1⟩ := dpa3 hv
    exact ⟨x, G1, hp, g1.s, by rw [ha]; exact .cons h1 (.cons h2 (.cons h3 .nil)), fun hc v G2 H2 g2 hd => q v G2 H2 (g1.trans g2) (hn hc ▸ hd), fun l hc dx v G2 H2 g2 hd hx => hE l hc dx v G2 H2 ((g0.trans g1).trans g2) hd hx⟩
/-- what never comes back -/
def Dead (te : TE) (σ : L2.St) (G H : Hp) : Prop := ∀ G1 H1, Gr G H G1 H1 → ∀ Q : VK, te σ H1 Q
theorem dead_callX {α : Type} {K : PySem.W.Frag} {σ : L2.St} {G H : Hp} {TH : Addr} {P : α → Prop} {args : α → List PyData} {cut : α → Option (List Nat)} {res : α → PyData} {E : L2.St → XK} {ta : TA} {l : List Nat} (x : α) (h : EA K ta σ G H (args x)) (hp : P x) (hc : cut x = some l)
    (hE : ∀ l, cut x = some l → ∀ dx v G' H', Gr G H G' H' → Dp K G' v (natsT l) → H' dx = some (.xd [(("lot" : Str), v)]) → E σ (.ref TH) (some dx) H') : Dead (tCallS (spX K TH P args cut res) E ta) σ G H := fun G0 H0 g0 Q =>
  h G0 H0 g0 _ fun vs G1 H1 g1 hv => ⟨x, G1, hp, g1.s, hv, fun hn => by rw [hn] at hc; (cases hc), fun l hc dx v G2 H2 g2 hd hx => hE l hc dx v G2 H2 ((g0.trans g1).trans g2) hd hx⟩
theorem dead_callXK {α : Type} {K : PySem.W.Frag} {σ : L2.St} {G H : Hp} {TH : Addr} {P : α → Prop} {args : α → List PyData} {cut : α → Option (List Nat)} {res : α → PyData} {E : L2.St → XK} {ta : TA} {l : List Nat} {d1 d2 d3 : PyData} (x : α) (h : EA K ta σ G H [d3, d2, d1]) (ha : args x = [d1, d2, d3]) (hp : P x) (hc : cut x = some l)
    (hE : ∀ l, cut x = some l → ∀ dx v G' H', Gr G H G' H' → Dp K G' v (natsT l) → H' dx = some (.xd [(("lot" : Str), v)]) → E σ (.ref TH) (some dx) H') : Dead (tCallKS (spX K TH P args cut res) rev3 E ta) σ G H := fun G0 H0 g0 Q =>
  h G0 H0 g0 _ fun vs G1 H1 g1 hv => by
    obtain ⟨v3, v2, v1, rfl, h3, h2, h1⟩ := dpa3 hv
    exact ⟨x, G1, hp, g1.s, by rw [ha]; exact .cons h1 (.cons h2 (.cons h3 .nil)), fun hn => by rw [hn] at hc; (cases hc), fun l hc dx v G2 H2 g2 hd hx => hE l hc dx v G2 H2 ((g0.trans g1).trans g2) hd hx⟩
theorem dead_if {σ : L2.St} {G H : Hp} {t : TT} {ta tb : TE} {b : Bool} (h : ET t σ G H b) (h1 : Dead ta σ G H) (h2 : Dead tb σ G H) : Dead (tIf t ta tb) σ G H := fun G0 H0 g0 Q => h G0 H0 g0 _ fun G1 H1 g => by
  cases b with
  | true => rw [if_pos rfl]; exact h1 G1 H1 (g0.trans g) Q
  | false => rw [if_neg Bool.false_ne_true]; exact h2 G1 H1 (g0.trans g) Q
/-- the caught exception's field -/
theorem ed_xf {K : PySem.W.Frag} {σ : L2.St} {G H : Hp} {a dd C : Addr} {v : V} {f : Str} {d : PyData} {i : Nat} (h : σ[i]? = some (some (.ref a))) (hx : H dd = some (.xd [(f, v)])) (hv : Dp K G v d) : ED K (tXf a (.ref C) (some dd) C f (tVar i)) σ G H d := fun G0 H0 g0 Q q =>
  ⟨_, h, rfl, rfl, dd, _, v, rfl, g0.h _ _ hx, by simp, q v G0 H0 (Gr.refl g0.s) (dp_mono g0.g _ _ hv)⟩
variable {P : Program} {w : World} {K : PySem.W.Frag} {mg : Str → Option Value} {base : Heap} {BE TH fI : Addr} {fdI : FuncData}
-- slots of _law_told: 0 _law_web_here, 1 _law_one, 2 _law_other, 3 _law_is_named, 4 refusal
abbrev s_law_told : Stmt := top 51
abbrev N_law_told : List Str := ["_law_web_here", "_law_one", "_law_other", "_law_is_named", "refusal"]
theorem sc_law_told : FnScope N_law_told ["_law_web_here", "_law_one", "_law_other", "_law_is_named"] (defScope s_law_told) := ⟨rfl, rfl, rfl, by decide +kernel, rfl, by decide +kernel, by decide +kernel⟩
def toldD (n : Nat) (W : Ties) (one other : List Int) : PyData := match thinCut n W with
  | none => .list [.str "told", intsT (mended n W one other)]
  | some l => .list [.str "Thin", natsT l]
abbrev sp_law_told (K : PySem.W.Frag) : Sp := spD (α := (Nat × Ties) × (List Int × List Int) × Bool) K (fun a => (Ok a.1.1 a.1.2 ∧ TreeOk a.1.1 a.1.2) ∧ a.2.1.1.length = a.1.2.length ∧ a.2.1.2.length = a.1.2.length) (fun a => [webD a.1.1 a.1.2, intsT a.2.1.1, intsT a.2.1.2, .bool a.2.2]) (fun a => toldD a.1.1 a.1.2 a.2.1.1 a.2.1.2)
theorem c_law_told {f : Addr} {fd : FuncData} {fm : Addr} {fdm : FuncData} (T : Txt mg) (Th : ThK K mg BE TH fI fdI) (F : Fd K mg "_law_told" s_law_told f fd) (FM : Fd K mg "mended" s_mended fm fdm) (C_mended : FnOk P w K mg base (L2.CX P w) 7 fm fdm ["web", "standing", "other"] (sp_mended K TH)) :
    Cal P w K mg base CX0 "_law_told" 8 ["_law_web_here", "_law_one", "_law_other", "_law_is_named"] (sp_law_told K) := by
  refine okD F sc_law_told (F.fn.binds fun _ _ _ _ _ _ us hl => match us, hl with | [_, _, _, _], _ => rfl) (fun _ => rfl) (fun cdv A outer s H G vs a Q E hr hp hs hv q => ?_)
  have nd := sc_law_told.nd
  have hr7 : Room 7 _ := hr.mono (by decide)
  have bM : Binds K fdm ["web", "standing", "other"] [] := FM.fn.binds fun _ _ _ _ _ _ us hl => match us, hl with | [_, _, _], _ => rfl
  have bK := kb_rev3 (a := "web") (b := "standing") (c := "other") FM.fn fun _ _ _ _ _ _ _ _ _ => rfl
  refine ⟨_, (pss_one (ps_try_as (i := 4) (Wout := fun _ _ _ _ => False) (tb := fun W => tRet (tLst (tCons (tC (.str "told")) (tCons (tIf (tB (tVar 3)) (tCallKS (sp_mended K TH) rev3 (WE W) (tCons (tVar 2) (tCons (tVar 1) (tCons (tVar 0) tNil)))) (tCallS (sp_mended K TH) (WE W) (tCons (tVar 0) (tCons (tVar 1) (tCons (tVar 2) tNil))))) tNil))))
    (ts := fun a cls d => tRet (tLst (tCons (tC (.str "Thin")) (tCons (tXf a cls d TH "lot" (tVar 4)) tNil)))) rfl rfl nd rfl rfl ⟨rfl, by decide, Or.inl Th.mTH⟩ takes0
    (fun W pn xe tk _ => pss_one (ps_ret (pe_lst (pa_cons pe_str (pa_cons (pe_ifExp (pt_val (pv 3)) (pe_callKS C_mended hr7 rfl FM.mg FM.fn.kp bK (fun σ => passAt tk σ) (by exact (pk_cons (pv 2) (pk_cons (pv 1) (pk_cons (pv 0) pk_nil))))) (pe_callS C_mended hr7 rfl FM.mg FM.fn.kp bM (fun σ => passAt tk σ) (by exact (pa_cons (pv 0) (pa_cons (pv 1) (pa_cons (pv 2) pa_nil)))))) pa_nil)))))
    (fun a oe cls d pn hz hf => pss_one (ps_ret (pe_lst (pa_cons pe_str (pa_cons (pe_xf Th.xf Th.noLot hz hf (pv 4)) pa_nil))))))), ?_⟩
  obtain ⟨⟨n, W⟩, ⟨one, other⟩, nm⟩ := a
  dsimp only at hv q hp
  obtain ⟨v0, v1, v2, v3, rfl, h0, h1, h2, h3⟩ := dpa4 hv
  have hE : ∀ l, thinCut n W = some l → ∀ dx v G' H', Gr G H G' H' → Dp K G' v (natsT l) → H' dx = some (.xd [(("lot" : Str), v)]) → WE (wAs K (.ref TH) 4 (fun a cls d => tRet (tLst (tCons (tC (.str "Thin")) (tCons (tXf a cls d TH "lot" (tVar 4)) tNil)))) (fun _ _ _ _ => False) { nx := fun _ H' => Q .non H', rt := Q })
      [some v0, some v1, some v2, some v3, none] (.ref TH) (some dx) H' := by
    intro l hl dx v G' H' g hd hx
    refine ⟨true, Th.te, fun _ a ha => ?_, fun q => nomatch q⟩
    refine s_ret (K := K) g.s (ed_lst (ea_cons ed_str (ea_cons (ed_xf rfl hx hd) ea_nil)) (by show 2 ≤ 100000; omega)) fun v G2 H2 g2 hd => q v G2 H2 (g.trans g2) ?_
    rw [toldD, hl]
    exact hd
  cases hc : thinCut n W with
  | none =>
    refine s_ret (K := K) (d := toldD n W one other) hs (ed_is (ed_lst (ea_cons ed_str (ea_cons (ed_if (et_B (K := K) (ed_var rfl h3)) (fun _ => ed_callXK (K := K) (d := intsT (mended n W one other)) ((n, W), one, other) (ea_cons (ed_var rfl h2) (ea_cons (ed_var rfl h1) (ea_cons (ed_var rfl h0) ea_nil))) rfl hp (fun _ => rfl) hE) (fun _ => ed_callX (K := K) ((n, W), one, other) (ea_cons (ed_var rfl h0) (ea_cons (ed_var rfl h1) (ea_cons (ed_var rfl h2) ea_nil))) hp (fun _ => rfl) hE)) ea_nil)) (by show 2 ≤ 100000; omega)) (by rw [toldD, hc])) fun v G2 H2 g2 hd => q v G2 H2 g2 hd
  | some l =>
    have dd : Dead (tIf (tB (tVar 3)) (tCallKS (sp_mended K TH) rev3 (WE (wAs K (.ref TH) 4 (fun a cls d => tRet (tLst (tCons (tC (.str "Thin")) (tCons (tXf a cls d TH "lot" (tVar 4)) tNil)))) (fun _ _ _ _ => False) { nx := fun _ H' => Q .non H', rt := Q })) (tCons (tVar 2) (tCons (tVar 1) (tCons (tVar 0) tNil))))
      (tCallS (sp_mended K TH) (WE (wAs K (.ref TH) 4 (fun a cls d => tRet (tLst (tCons (tC (.str "Thin")) (tCons (tXf a cls d TH "lot" (tVar 4)) tNil)))) (fun _ _ _ _ => False) { nx := fun _ H' => Q .non H', rt := Q })) (tCons (tVar 0) (tCons (tVar 1) (tCons (tVar 2) tNil))))) [some v0, some v1, some v2, some v3, none] G H :=
      dead_if (et_B (K := K) (ed_var rfl h3)) (dead_callXK (K := K) ((n, W), one, other) (ea_cons (ed_var rfl h2) (ea_cons (ed_var rfl h1) (ea_cons (ed_var rfl h0) ea_nil))) rfl hp hc hE) (dead_callX (K := K) ((n, W), one, other) (ea_cons (ed_var rfl h0) (ea_cons (ed_var rfl h1) (ea_cons (ed_var rfl h2) ea_nil))) hp hc hE)
    exact dd G H (Gr.refl hs) _
end Bw
set_option Elab.async false
set_option linter.all false
set_option maxRecDepth 100000
set_option maxHeartbeats 4000000
namespace Bw
open PySem PySem.Spec PyProof.Rows L2 Bo
open RZ (pi_zipA iZipA ItzT)
section
variable {K : PySem.W.Frag} {σ : L2.St} {G H : Hp} {ta : TA} {ds es : List PyData}
theorem es_zipT (hl : ds.length = es.length) (h : EA K ta σ G H [.tuple ds, .tuple es]) : ES K (iZipA K ta) σ G H ((ds.zip es).map fun p => .tuple [p.1, p.2]) := fun G1 H1 g R q => h G1 H1 g _ fun vs G2 H2 g2 hv => by
  obtain ⟨v, u, rfl, h1, h2⟩ := dpa2 hv
  cases h1 with
  | @tup a xs _ hs ha =>
    cases h2 with
    | @tup b ys _ hs' hb =>
      refine ⟨a, b, xs, ys, rfl, .inr ⟨sqT_mono g2.s hs, sqT_mono g2.s hs', q _ G2 H2 g2 fun i G3 H3 gg gs => ?_⟩⟩
      have h3 : SqT K H3 a xs := sqT_mono gs (sqT_mono gg hs)
      have h4 : SqT K H3 b ys := sqT_mono gs (sqT_mono gg hs')
      refine ⟨fun d hd => ?_, fun hl2 => ⟨xs, ys, h3, h4, ?_⟩⟩
      · rw [List.getElem?_map] at hd
        cases e : (ds.zip es)[i]? with
        | none => rw [e] at hd; cases hd
        | some z =>
          rw [e] at hd
          have hd : d = .tuple [z.1, z.2] := by simpa using hd.symm
          subst hd
          obtain ⟨e1, e2⟩ := List.getElem?_zip_eq_some.mp e
          obtain ⟨v, hv, hz⟩ := ha.get e1
          obtain ⟨u, hu, hz'⟩ := hb.get e2
          refine ⟨⟨xs, ys, v, u, h3, h4, hv, hu⟩, fun x H' y => ?_⟩
          obtain ⟨T, v', u', rfl, hT, rfl, y1, y2⟩ := y
          have f1 := y1 xs h3
          have f2 := y2 ys h4
          rw [hv] at f1
          rw [hu] at f2
          cases f1; cases f2
          have g1 := Gr.new (o := .tup [v, u]) gs hT
          exact ⟨_, g1, .tup (.of upd_same) (.cons (dp_mono (gg.trans g1.g) _ _ hz) (.cons (dp_mono (gg.trans g1.g) _ _ hz') .nil))⟩
      · rw [ha.len, ← hl2]
        left
        simp [hl]
end
def diffN (a b : List Int) : Nat := ((a.zip b).filter fun p => !decide (p.1 = p.2)).length
def oddTs (one other : List Int) (many : Nat) : List Nat := (List.range many).filter fun t => decide ((one.getD t 0 - other.getD t 0) % 2 = 1)
structure RightP (n : Nat) (T : Ties) (one other M : List Int) : Prop where
  ok : Ok8 n T
  l1 : one.length = T.length
  l2 : other.length = T.length
  l3 : M.length = T.length
  bd : ∀ x ∈ M, -(10 ^ 12) ≤ x ∧ x ≤ 10 ^ 12
  ev : ∀ m ∈ lBoth n T, ((lLot m T.length).map fun t => M.getD t 0 - other.getD t 0).sum % 2 ≠ 1
  gap : valN (lGaps n T) (lMask (oddTs one other T.length)) = some (diffN one M)
section
variable {P : Program} {w : World} {K : PySem.W.Frag} {mg : Str → Option Value} {base : Heap}
theorem zip_map2 (a b : List Int) : ((a.map PyData.int).zip (b.map PyData.int)).map (fun p => PyData.tuple [p.1, p.2]) = (a.zip b).map fun p => .tuple [.int p.1, .int p.2] := by
  rw [List.zip_map, List.map_map]; rfl
-- slots of _law_is_right: 0 _law_web_here, 1 _law_one*, 2 _law_other*, 3 _law_told_here*, 4 _law_many, 5 _law_mask_here, 6 _law_tie, 7 _law_odd, 8 _law_own, 9 _law_more
abbrev s_law_is_right : Stmt := top 54
abbrev N_law_is_right : List Str := ["_law_web_here", "_law_one", "_law_other", "_law_told_here", "_law_many", "_law_mask_here", "_law_tie", "_law_odd", "_law_own", "_law_more"]
theorem sc_law_is_right : FnScope N_law_is_right ["_law_web_here", "_law_one", "_law_other", "_law_told_here"] (defScope s_law_is_right) := ⟨rfl, rfl, rfl, by decide +kernel, rfl, by decide +kernel, by decide +kernel⟩
abbrev sp_law_is_right (K : PySem.W.Frag) : Sp := spD (α := (Nat × Ties) × List Int × List Int × List Int) K (fun a => RightP a.1.1 a.1.2 a.2.1 a.2.2.1 a.2.2.2) (fun a => [webD a.1.1 a.1.2, intsT a.2.1, intsT a.2.2.1, .list [.str "told", intsT a.2.2.2]]) (fun _ => .bool true)
theorem c_law_is_right {f : Addr} {fd : FuncData} (T : Txt mg) (F : Fd K mg "_law_is_right" s_law_is_right f fd) (C_law_mask : Cal P w K mg base CX0 "_law_mask" 1 ["_law_lot_here"] (sp_law_mask K)) (C_law_lot : Cal P w K mg base CX0 "_law_lot" 1 ["_law_mask_here", "_law_many"] (sp_law_lot K)) (C_law_both : Cal P w K mg base CX0 "_law_both" 4 ["_law_web_here"] (sp_law_both K)) (C_law_gaps : Cal P w K mg base CX0 "_law_gaps" 5 ["_law_web_here"] (sp_law_gaps K)) (C_law_is_standing : Cal P w K mg base CX0 "_law_is_standing" 2 ["_law_thing", "_law_many"] (sp_law_is_standing K)) : Cal P w K mg base CX0 "_law_is_right" 6 ["_law_web_here", "_law_one", "_law_other", "_law_told_here"] (sp_law_is_right K) := by
  refine okD F sc_law_is_right (F.fn.binds fun _ _ _ _ _ _ us hl => match us, hl with | [_, _, _, _], _ => rfl) (fun _ => rfl) fun cdv A outer s H G vs a Q E hr hp hs hv q => ?_
  have nd := sc_law_is_right.nd
  have hu := hr.units
  have hu1 := hu_of hr
  refine ⟨_, (pss_cons (ps_set (i := 4) nd rfl (Or.inl rfl) (pe_callB call_len_seq rfl T.len (by decide +kernel) (pa_cons (pe_ix ix_tup (pv 0) pe_int (fun _ _ => rfl)) pa_nil)))
     (pss_cons (ps_if (PW.pt (pw_or (pt_cmpR op_ne (pe_ix ix_list (pv 3) pe_int (fun _ _ => rfl)) pe_str (nomark _)) (pw_or1 (pt_not (pt_val (pe_cal C_law_is_standing (hr.mono (by decide)) rfl (pa_cons (pe_ix ix_list (pv 3) pe_int (fun _ _ => rfl)) (pa_cons (pv 4) pa_nil))))))))
     (pss_one (ps_ret pe_bl))
     pss_nil)
     (pss_cons (ps_for PassesOwn.never rfl (pi_list (pe_cal C_law_both (hr.mono (by decide)) rfl (pa_cons (pv 0) pa_nil))) (pg_name (i := 5) nd rfl (Or.inl rfl))
     (pss_one (ps_if (pt_cmpR op_eq (pe_op op_mod (pe_callTy call_int1 rfl T.int_ (by decide +kernel) (pa_cons (pe_callB (cr_sum rfl) rfl T.sum (by decide +kernel) (pa_cons (pe_lc (own := [("_law_tie", 6)]) (g := gName 6) (tt := tYes) (te := tOp (rI0 fun i j => .int (i - j)) (tOp (rIxT K) (tOp (rIxL K) (tVar 3) (tC (.int 1))) (tVar 6)) (tOp (rIxT K) (tVar 2) (tVar 6))) rfl nd (pi_tup (pe_cal C_law_lot (hr.mono (by decide)) rfl (pa_cons (pv 5) (pa_cons (pv 4) pa_nil)))) (blkOk_by (N := N_law_is_right) (sc := defScope s_law_is_right) (by decide +kernel)) (fun _ _ _ _ _ => (pg_name (i := 6) nd rfl (Or.inl rfl))) (fun _ _ _ _ _ => pts_nil) (fun _ _ _ _ _ => (pe_op op_sub (pe_ix ix_tup (pe_ix ix_list (pv 3) pe_int (fun _ _ => rfl)) (pv 6) (fun _ _ => rfl)) (pe_ix ix_tup (pv 2) (pv 6) (fun _ _ => rfl))))) pa_nil)) pa_nil)) pe_int) pe_int (nomark _))
     (pss_one (ps_ret pe_bl))
     pss_nil)))
     (pss_cons (ps_set (i := 7) nd rfl (Or.inl rfl) (pe_cal C_law_mask (hr.mono (by decide)) rfl (pa_cons (pe_lc (own := [("_law_tie", 6)]) (g := gName 6) (tt := tTest (tOp (rEq) (tOp (rI (fun _ j => 0 < j) fun i j => .int (i % j)) (tCB rInt1 (tCons (tOp (rI0 fun i j => .int (i - j)) (tOp (rIxT K) (tVar 1) (tVar 6)) (tOp (rIxT K) (tVar 2) (tVar 6))) (tNil))) (tC (.int 2))) (tC (.int 1)))) (te := tVar 6) rfl nd (pi_range1 rfl T.range (pa_cons (pv 4) pa_nil)) (blkOk_by (N := N_law_is_right) (sc := defScope s_law_is_right) (by decide +kernel)) (fun _ _ _ _ _ => (pg_name (i := 6) nd rfl (Or.inl rfl))) (fun _ _ _ _ _ => (pts_one (pt_cmpR op_eq (pe_op op_mod (pe_callTy call_int1 rfl T.int_ (by decide +kernel) (pa_cons (pe_op op_sub (pe_ix ix_tup (pv 1) (pv 6) (fun _ _ => rfl)) (pe_ix ix_tup (pv 2) (pv 6) (fun _ _ => rfl))) pa_nil)) pe_int) pe_int (nomark _)))) (fun _ _ _ _ _ => (pv 6))) pa_nil)))
     (pss_one (ps_ret (pe_cmpR op_eq (pe_callB call_len_seq rfl T.len (by decide +kernel) (pa_cons (pe_lc (own := [("_law_own", 8), ("_law_more", 9)]) (g := gTup K 2 (gCons (gName 8) (gCons (gName 9) gNil))) (tt := tTest (tOp (rNe) (tVar 8) (tVar 9))) (te := tC (.int 1)) rfl nd (pi_zipA rfl T.zip (pa_cons (pv 1) (pa_cons (pe_ix ix_list (pv 3) pe_int (fun _ _ => rfl)) pa_nil))) (blkOk_by (N := N_law_is_right) (sc := defScope s_law_is_right) (by decide +kernel)) (fun _ _ _ _ _ => (pg_tup rfl (pgs_cons (pg_name (i := 8) nd rfl (Or.inl rfl)) (pgs_cons (pg_name (i := 9) nd rfl (Or.inl rfl)) pgs_nil)))) (fun _ _ _ _ _ => (pts_one (pt_cmpR op_ne (pv 8) (pv 9) (nomark _)))) (fun _ _ _ _ _ => pe_int)) pa_nil)) (pe_dget hu1 (pe_cal C_law_gaps (hr.mono (by decide)) rfl (pa_cons (pv 0) pa_nil)) (pv 7) (fun _ _ => rfl)) (nomark _)))))))), ?_⟩
  obtain ⟨⟨n, W⟩, one, other, M⟩ := a
  dsimp only at hv q hp
  obtain ⟨v0, v1, v2, v3, rfl, h0, h1, h2, h3⟩ := dpa4 hv
  have h8 := hp.ok.t8
  have hl1 := hp.l1
  have hl2 := hp.l2
  have hl3 := hp.l3
  refine q_set (K := K) (d := natD W.length) hs (ed_is (ed_cb (ea_cons (ed_op (ed_var rfl h0) ed_int (rd_ixT (j := 1) rfl rfl)) ea_nil) ra_lenT) (by rw [List.length_map])) fun v4 G1 H1 g1 h4 => ?_
  cases h4
  refine q_if1 (b := false) g1.s (et_is (et_or (et_test (K := K) (ed_op (ed_op (ed_var rfl (dp_mono g1.g _ _ h3)) ed_int (rd_ixL (j := 0) (z := .str "told") rfl rfl)) ed_str rd_neS)) fun _ => et_not (et_B (K := K) (b := true) (ed_call (M, W.length) (ea_cons (ed_op (ed_var rfl (dp_mono g1.g _ _ h3)) ed_int (rd_ixL (j := 1) rfl rfl)) (ea_cons (ed_var rfl (.int _)) ea_nil)) (by exact ⟨hl3, hp.bd, by show M.length ≤ 60; omega⟩)))) (by rw [decide_eq_true rfl]; rfl)) (fun z => by cases z) fun _ G2 H2 g2 => ?_
  have g12 := g1.trans g2
  refine q_forT (Gi := G) (Hi := H) (lBoth n W) natD (es_list (ed_call (n, W) (ea_cons (ed_var rfl (dp_mono g12.g _ _ h0)) ea_nil) hp.ok)) g12 (fun pre σ' G' H' => ∃ (a : Option V), σ' = [some v0, some v1, some v2, some v3, some (.int (W.length : Int)), a, none, none, none, none]) (fun G' H' g' => ⟨_, rfl⟩) ?_ ?_
  · rintro pre m post x σ' G3 H3 G4 H4 hsp g3 s3 ⟨a, rfl⟩ g4 hx
    cases hx
    have gg := g3.g.trans g4.g
    have hmem : m ∈ lBoth n W := by rw [hsp]; simp
    have hev := hp.ev m hmem
    refine g_nm (s_if g4.s (et_test (K := K) (b := false) (ed_is (ed_op (ed_op (ed_cb (ea_cons (ed_cb (ea_cons (ed_is (ed_lcA (lLot m W.length) natD (fun t => .int (M.getD t 0 - other.getD t 0)) (es_tup (ed_call (m, W.length) (ea_cons (ed_var rfl (.int _)) (ea_cons (ed_var rfl (.int _)) ea_nil)) (by show W.length ≤ 1000; omega))) ?_ ?_) ?_) ea_nil) (ra_sum (ns := (lLot m W.length).map fun t => M.getD t 0 - other.getD t 0))) ea_nil) ra_intI) ed_int (rd_I (C := fun _ j => 0 < j) (by decide))) ed_int rd_eqI) ?_)) (fun z => by cases z) fun _ G5 H5 g5 => ⟨G5, g3.trans (g4.trans g5), (g4.trans g5).g, _, rfl⟩)
    · have := List.length_filter_le (fun t => decide (m / 2 ^ t &&& 1 = 1)) (List.range W.length)
      unfold lLot
      rw [List.length_range] at this
      omega
    · intro t ht y G'' H'' g'' hy
      cases hy
      have htl : t < W.length := by
        unfold lLot at ht
        exact List.mem_range.mp (List.mem_filter.mp ht).1
      exact ⟨_, fun Q q => q, rfl, ed_op (ed_op (ed_op (ed_var rfl (dp_mono (gg.trans g''.g) _ _ h3)) ed_int (rd_ixL (j := 1) rfl rfl)) (ed_var rfl (.int _)) (rd_ixTn (get_int (by omega)))) (ed_op (ed_var rfl (dp_mono (gg.trans g''.g) _ _ h2)) (ed_var rfl (.int _)) (rd_ixTn (get_int (by omega)))) rd_I0⟩
    · rw [show ((lLot m W.length).map fun t => PyData.int (M.getD t 0 - other.getD t 0)) = ((lLot m W.length).map fun t => M.getD t 0 - other.getD t 0).map PyData.int by rw [List.map_map]; rfl]
    · rw [decide_eq_false hev]
  · rintro σ' G3 H3 g3 s3 ⟨a, rfl⟩
    have e3 := g3.g
    refine q_set (K := K) (d := natD (lMask (oddTs one other W.length))) g3.s (ed_mask (.inl (ea_cons (ed_lc (List.range W.length) natD (fun t => decide ((one.getD t 0 - other.getD t 0) % 2 = 1)) natD (es_rngN (ed_var rfl (.int _)) (by omega)) (by rw [List.length_range]; omega) fun t ht y G'' H'' g'' hy => ?_) ea_nil)) ⟨?_, ?_⟩) fun v7 G4 H4 g4 h7 => ?_
    · cases hy
      have htl := List.mem_range.mp ht
      exact ⟨_, fun Q q => q, rfl, et_test (K := K) (ed_op (ed_op (ed_cb (ea_cons (ed_op (ed_op (ed_var rfl (dp_mono (e3.trans g''.g) _ _ h1)) (ed_var rfl (.int _)) (rd_ixTn (get_int (by omega)))) (ed_op (ed_var rfl (dp_mono (e3.trans g''.g) _ _ h2)) (ed_var rfl (.int _)) (rd_ixTn (get_int (by omega)))) rd_I0) ea_nil) ra_intI) ed_int (rd_I (C := fun _ j => 0 < j) (by decide))) ed_int rd_eqI), fun _ => ed_var rfl (.int _)⟩
    · have := List.length_filter_le (fun t => decide ((one.getD t 0 - other.getD t 0) % 2 = 1)) (List.range W.length)
      unfold oddTs
      rw [List.length_range] at this
      omega
    · intro t ht
      unfold oddTs at ht
      have := List.mem_range.mp (List.mem_filter.mp ht).1
      omega
    · cases h7
      have g34 := g3.trans g4
      have hd : ED K (tCB (rLenS K) (tCons (tLc (iZipA K (tCons (tVar 1) (tCons (tOp (rIxL K) (tVar 3) (tC (.int 1))) tNil))) (gTup K 2 (gCons (gName 8) (gCons (gName 9) gNil))) (tTest (tOp (rNe) (tVar 8) (tVar 9))) (tC (.int 1)) [8, 9]) tNil)) [some v0, some v1, some v2, some v3, some (.int (W.length : Int)), a, none, some (.int ((lMask (oddTs one other W.length) : Nat) : Int)), none, none] G4 H4 (natD (diffN one M)) := by
        refine ed_is (ed_cb (ea_cons (ed_lc (one.zip M) (fun p => .tuple [.int p.1, .int p.2]) (fun p => !decide (p.1 = p.2)) (fun _ => .int 1) ?_ ?_ ?_) ea_nil) ra_lenL) ?_
        · rw [← zip_map2]
          exact es_zipT (by rw [List.length_map, List.length_map]; omega) (ea_cons (ed_var rfl (dp_mono g34.g _ _ h1)) (ea_cons (ed_op (ed_var rfl (dp_mono g34.g _ _ h3)) ed_int (rd_ixL (j := 1) rfl rfl)) ea_nil))
        · rw [List.length_zip]; omega
        · rintro ⟨x, y⟩ hm xv G' H' g' hx
          obtain ⟨u1, u2, e1, e2, gk⟩ := g_pair hx
          cases e1; cases e2
          exact ⟨_, fun Q q => gk _ _ _ _ _ g'.s q, rfl, et_test (K := K) (ed_op (ed_var rfl (.int _)) (ed_var rfl (.int _)) rd_neI), fun _ => ed_int⟩
        · rw [List.length_map]; rfl
      refine s_ret (K := K) (d := .bool true) g4.s (fun G0 H0 g0 Q' q' => hd G0 H0 g0 _ fun y G5 H5 g5 hy => ?_) fun v G8 H8 g8 hv => q v G8 H8 (g34.trans g8) hv
      cases hy
      have g05 := g0.trans g5
      unfold tDGet tCall
      refine (ea_cons (K := K) (σ := [some v0, some v1, some v2, some v3, some (.int (W.length : Int)), a, none, some (.int ((lMask (oddTs one other W.length) : Nat) : Int)), none, none]) (ed_var (i := 0) rfl (dp_mono (g34.trans g05).g _ _ h0)) ea_nil).now g5.s fun vs G6 H6 g6 hvs => ?_
      refine ⟨(n, W), G6, hp.ok, g6.s, by rw [List.append_nil]; exact hvs, fun p kvs G7 H7 hp7 g7 m7 k7 => ?_⟩
      obtain ⟨u8, e8, d8⟩ := k7.is_some hp.gap
      cases d8
      refine ⟨_, rfl, p, _, rfl, dget_of (.inl m7.h) e8, ?_⟩
      exact rd_eqI (K := K) (i := ((diffN one M : Nat) : Int)) (j := ((diffN one M : Nat) : Int)) _ _ G7 H7 g7.s (.int _) (.int _) _ fun v G8 H8 g8 hv => q' v G8 H8 (((g5.trans g6).trans g7).trans g8) (by rw [decide_eq_true rfl] at hv; exact hv)
end
end Bw
set_option Elab.async false
set_option linter.all false
set_option maxRecDepth 100000
set_option maxHeartbeats 4000000
/-! The deck: two lists that change behind a known shape. -/
namespace Bw
open PySem PySem.Spec PyProof.Rows L2 Bo
def LstAt (h : Heap) (a : Addr) (xs : List V) : Prop := ∃ (its : List Value) (n : Nat), Vals xs its ∧ h.get? a = some { cls := .type "list", data := .seq its.toArray n }
def DeckO (p pc : Addr) (h : Heap) : Prop := ∃ (t b : Int), 0 ≤ b ∧ b < 2 ^ 64 ∧ LstAt h p [.ref pc, .int t, .int b]
def CellsO (pc : Addr) (h : Heap) : Prop := ∃ (cells : List Int), cells ≠ [] ∧ cells.length ≤ 64 ∧ LstAt h pc (cells.map V.int)
def DeckAt (H : Hp) (p pc : Addr) : Prop := pc ≠ p ∧ H p = some (.ext (DeckO p pc)) ∧ H pc = some (.ext (CellsO pc))
def Deck (H : Hp) (p : Addr) : Prop := ∃ pc, DeckAt H p pc
theorem Deck.same {H H' : Hp} {p : Addr} (d : Deck H p) (s : Same H H') : Deck H' p := let ⟨pc, n, h1, h2⟩ := d; ⟨pc, n, s _ _ h1, s _ _ h2⟩
theorem LstAt.keep {h h' : Heap} {a : Addr} {xs : List V} (l : LstAt h a xs) (k : ∀ o, h.get? a = some o → h'.get? a = some o) : LstAt h' a xs := let ⟨its, n, v, e⟩ := l; ⟨its, n, v, k _ e⟩
structure DeckL (H : Hp) (p pc : Addr) (t b : Int) (cells : List Int) : Prop where
  ne : pc ≠ p
  hp : H p = some (.lst [.ref pc, .int t, .int b])
  hc : H pc = some (.lst (cells.map V.int))
  b0 : 0 ≤ b
  b1 : b < 2 ^ 64
  c0 : cells ≠ []
  c1 : cells.length ≤ 64
section
variable {X : Cx} {pins : List (Addr × Obj)} {σ : L2.St} {H : Hp} {s : Shared} {p pc : Addr} {t b : Int} {cells : List Int}
theorem inv_cast {x : Addr} {o : HO} (I : Inv X pins σ H s) (mu : Mut (H x)) (heo : ∃ u, s.heap.get? x = some u) (new : ObjOk X.prog X.w (upd H x o) s.heap x o) : Inv X pins σ (upd H x o) s :=
  I.write (t' := s.toks) (h' := s.heap) mu (.inl rfl) (fun _ _ _ q => q) heo new
/-- the deck as two lists -/
def unD (H : Hp) (p pc : Addr) (t b : Int) (cells : List Int) : Hp := upd (upd H p (.lst [.ref pc, .int t, .int b])) pc (.lst (cells.map V.int))
def reD (H : Hp) (p pc : Addr) : Hp := upd (upd H p (.ext (DeckO p pc))) pc (.ext (CellsO pc))
theorem unD_ok (ne : pc ≠ p) (h0 : 0 ≤ b) (h1 : b < 2 ^ 64) (h2 : cells ≠ []) (h3 : cells.length ≤ 64) : DeckL (unD H p pc t b cells) p pc t b cells := by
  refine ⟨ne, ?_, ?_, h0, h1, h2, h3⟩
  · unfold unD; rw [upd_ne (Ne.symm ne), upd_same]
  · unfold unD; rw [upd_same]
theorem reD_ok (ne : pc ≠ p) : Deck (reD H p pc) p := ⟨pc, ne, by unfold reD; rw [upd_ne (Ne.symm ne), upd_same], by unfold reD; rw [upd_same]⟩
theorem inv_opens (I : Inv X pins σ H s) (d : DeckAt H p pc) : ∃ t b cells, 0 ≤ b ∧ b < 2 ^ 64 ∧ cells ≠ [] ∧ cells.length ≤ 64 ∧ Inv X pins σ (unD H p pc t b cells) s := by
  obtain ⟨ne, h1, h2⟩ := d
  obtain ⟨⟨t, b, b0, b1, l1⟩, e1, _⟩ := I.hok p _ h1
  obtain ⟨⟨cells, c0, c1, l2⟩, e2, _⟩ := I.hok pc _ h2
  obtain ⟨i1, n1, v1, g1⟩ := l1
  obtain ⟨i2, n2, v2, g2⟩ := l2
  refine ⟨t, b, cells, b0, b1, c0, c1, ?_⟩
  have I1 := inv_cast (o := .lst [.ref pc, .int t, .int b]) I (by rw [h1]; exact True.intro) e1 ⟨by show 3 ≤ sizeLine; decide, i1, n1, v1, g1⟩
  exact inv_cast (o := .lst (cells.map V.int)) I1 (by rw [upd_ne ne, h2]; exact True.intro) e2 ⟨by rw [List.length_map]; exact Nat.le_trans c1 (by decide), i2, n2, v2, g2⟩
theorem inv_closes (I : Inv X pins σ H s) (d : DeckL H p pc t b cells) : Inv X pins σ (reD H p pc) s := by
  obtain ⟨ne, h1, h2, b0, b1, c0, c1⟩ := d
  obtain ⟨_, i1, n1, v1, g1⟩ := I.hok p _ h1
  obtain ⟨_, i2, n2, v2, g2⟩ := I.hok pc _ h2
  have I1 := inv_cast (o := .ext (DeckO p pc)) I (by rw [h1]; exact True.intro) ⟨_, g1⟩ ⟨⟨t, b, b0, b1, i1, n1, v1, g1⟩, ⟨_, g1⟩, fun h1 h2 φ k => let ⟨t, b, b0, b1, l⟩ := φ; ⟨t, b, b0, b1, l.keep k⟩⟩
  exact inv_cast (o := .ext (CellsO pc)) I1 (by rw [upd_ne ne, h2]; exact True.intro) ⟨_, g2⟩ ⟨⟨cells, c0, c1, i2, n2, v2, g2⟩, ⟨_, g2⟩, fun h1 h2 φ k => let ⟨cells, c0, c1, l⟩ := φ; ⟨cells, c0, c1, l.keep k⟩⟩
/-- a body begins by opening the deck at the place i -/
def tOpenD (i : Nat) (tt : TS) : TS := fun D σ H => ∃ p pc, σ[i]? = some (some (.ref p)) ∧ DeckAt H p pc ∧ ∀ t b cells, DeckL (unD H p pc t b cells) p pc t b cells → tt D σ (unD H p pc t b cells)
theorem pss_openD {st : List Stmt} {tt : TS} {i : Nat} (h : PSs X st tt) : PSs X st (tOpenD i tt) := by
  refine ⟨fun pins s σ H D I hh => ?_⟩
  obtain ⟨p, pc, _, d, q⟩ := hh
  obtain ⟨t, b, cells, b0, b1, c0, c1, I'⟩ := inv_opens I d
  exact h.run pins s σ _ D I' (q t b cells (unD_ok d.1 b0 b1 c0 c1))
def tCloseD (te : TE) : TE := fun σ H Q => te σ H fun v H1 => ∃ p pc t b cells, DeckL H1 p pc t b cells ∧ Q v (reD H1 p pc)
theorem pe_closeD {e : Expr} {te : TE} (h : PE X e te) : PE X e (tCloseD te) := by
  refine ⟨fun pins s σ H Q I hh => thn (h.run pins s σ H _ I hh) fun u s1 hu => ?_⟩
  obtain ⟨v, H1, I1, rv, p, pc, t, b, cells, d, q⟩ := hu
  exact ⟨v, _, inv_closes I1 d, rv, q⟩
end
section
variable {K : PySem.W.Frag} {σ : L2.St} {G H Gi Hi : Hp} {D : Ends} {te ti tb ta : TE} {rest : TS} {i j : Nat} {p pc : Addr} {xs ys : List V} {d : PyData} {v : V}
theorem at0 {x : V} {xs : List V} : atI (x :: xs) 0 = some x := by
  unfold atI
  rw [show ixN (x :: xs).length 0 = some 0 from ixN_nat (j := 0) (by simp)]
  rfl
/-- p[0][e], p[0] another list of one's own -/
theorem ed_ix0 (hv : σ[i]? = some (some (.ref p))) (hm : H p = some (.lst (.ref pc :: xs))) (hc : H pc = some (.lst ys)) (hx : ys[j]? = some v) (hd : Dp K G v d) (hi : ED K te σ G H (natD j)) : ED K (tOp (rIxL K) (tOp (rIxL K) (tVar i) (tC (.int 0))) te) σ G H d := fun G0 H0 g0 Q q =>
  ⟨_, hv, p, _, 0, .ref pc, rfl, rfl, .inl (.of (g0.h _ _ hm)), at0, hi G0 H0 g0 _ fun y G1 H1 g1 hy => by
    cases hy
    have g := g0.trans g1
    refine ⟨pc, ys, _, v, rfl, rfl, .inl (.of (g.h _ _ hc)), ?_, q v G1 H1 g1 (dp_mono g.g _ _ hd)⟩
    unfold atI
    rw [ixN_nat (List.getElem?_eq_some_iff.mp hx).1]
    exact hx⟩
theorem ed_len0 (hv : σ[i]? = some (some (.ref p))) (hm : H p = some (.lst (.ref pc :: xs))) (hc : H pc = some (.lst ys)) : ED K (tCB (rLenS K) (tCons (tOp (rIxL K) (tVar i) (tC (.int 0))) tNil)) σ G H (natD ys.length) := fun G0 H0 g0 Q q =>
  ⟨_, hv, p, _, 0, .ref pc, rfl, rfl, .inl (.of (g0.h _ _ hm)), at0, pc, ys, rfl, .inl (.inl (.of (g0.h _ _ hc))), q _ G0 H0 (Gr.refl g0.s) (.int _)⟩
theorem q_put (s : Same G H) (hv : σ[i]? = some (some (.ref p))) (m : Mu G H p (.lst xs)) (h : ED K te σ G H d) (hi : ED K tb σ G H (.int (j : Int))) (hj : j < xs.length)
    (k : ∀ v G' H', Gr G H G' H' → Dp K G' v d → Mu G' (upd H' p (.lst (xs.set j v))) p (.lst (xs.set j v)) → Same G' (upd H' p (.lst (xs.set j v))) → rest D σ (upd H' p (.lst (xs.set j v)))) :
    tSeq (tAsg te (gSub (tVar i) tb rSetL)) rest D σ H := s_put (D := { D with nx := rest D }) s hv m h hi hj k
theorem q_put0 (s : Same G H) (hv : σ[i]? = some (some (.ref p))) (hm : H p = some (.lst (.ref pc :: xs))) (m : Mu G H pc (.lst ys)) (h : ED K te σ G H d) (hi : ED K tb σ G H (.int (j : Int))) (hj : j < ys.length)
    (k : ∀ v G' H', Gr G H G' H' → Dp K G' v d → Mu G' (upd H' pc (.lst (ys.set j v))) pc (.lst (ys.set j v)) → Same G' (upd H' pc (.lst (ys.set j v))) → rest D σ (upd H' pc (.lst (ys.set j v)))) :
    tSeq (tAsg te (gSub (tOp (rIxL K) (tVar i) (tC (.int 0))) tb rSetL)) rest D σ H := h.now s fun v G1 H1 g1 hd => ⟨_, hv, p, _, 0, .ref pc, rfl, rfl, .inl (.of (g1.h _ _ hm)), at0, (hi.mono g1).now g1.s fun y G2 H2 g2 hy => by
  cases hy
  have g := g1.trans g2
  have m' := m.gr g
  exact ⟨pc, ys, (j : Int), j, rfl, rfl, m'.h, ixN_nat hj, k v G2 H2 g (dp_mono g2.g _ _ hd) m'.put (same_mut g.s m'.n)⟩⟩
end
/-! ### values not known but of a kind -/
def EK (K : PySem.W.Frag) (te : TE) (σ : L2.St) (G H : Hp) (S : PyData → Prop) : Prop := ∀ G1 H1, Gr G H G1 H1 → ∀ Q : VK, (∀ d v G' H', S d → Gr G1 H1 G' H' → Dp K G' v d → Q v H') → te σ H1 Q
def KT (tt : TT) (σ : L2.St) (G H : Hp) : Prop := ∀ G1 H1, Gr G H G1 H1 → ∀ Q : Bool → Hp → Prop, (∀ b G' H', Gr G1 H1 G' H' → Q b H') → tt σ H1 Q
def EAK (K : PySem.W.Frag) (ta : TA) (σ : L2.St) (G H : Hp) (S : List PyData → Prop) : Prop := ∀ G1 H1, Gr G H G1 H1 → ∀ Q : List V → Hp → Prop, (∀ ds vs G' H', S ds → Gr G1 H1 G' H' → DpAll K G' vs ds → Q vs H') → ta σ H1 Q
/-- the promise of a def that draws: the deck first -/
def spK {α : Type} (K : PySem.W.Frag) (P : α → Prop) (args : α → List PyData) (S : α → PyData → Prop) : Sp := fun vs H Q _ =>
  ∃ (x : α) (G : Hp) (p : Addr) (us : List V), vs = .ref p :: us ∧ P x ∧ Deck H p ∧ Same G H ∧ DpAll K G us (args x) ∧ ∀ d v G' H', S x d → Gr G H G' H' → Dp K G' v d → Q v H'
section
variable {K : PySem.W.Frag} {σ : L2.St} {G H Gi Hi G' H' : Hp} {D : Ends} {te ta tb : TE} {t : TA} {tt : TT} {tu tw rest : TS} {g : TG} {i j : Nat} {p : Addr} {S S1 S2 : PyData → Prop} {d : PyData} {r : R2}
theorem EK.now (s : Same G H) (h : EK K te σ G H S) {Q : VK} (q : ∀ d v G' H', S d → Gr G H G' H' → Dp K G' v d → Q v H') : te σ H Q := h G H (Gr.refl s) Q q
theorem EK.imp (h : EK K te σ G H S) (f : ∀ d, S d → S1 d) : EK K te σ G H S1 := fun G1 H1 g Q q => h G1 H1 g Q fun d v G' H' hs => q d v G' H' (f d hs)
theorem EK.mono (h : EK K te σ G H S) (g : Gr G H G' H') : EK K te σ G' H' S := fun G1 H1 g1 => h G1 H1 (g.trans g1)
theorem ek_ed (h : ED K te σ G H d) (hs : S d) : EK K te σ G H S := fun G1 H1 g Q q => h G1 H1 g Q fun v G' H' => q d v G' H' hs
theorem ek_op (ha : EK K ta σ G H S1) (hb : EK K tb σ G H S2) (hr : ∀ d e, S1 d → S2 e → ∃ z, S z ∧ RD K r d e z) : EK K (tOp r ta tb) σ G H S := fun G0 H0 g0 Q q =>
  ha G0 H0 g0 _ fun d x G1 H1 s1 g1 hx => hb G1 H1 (g0.trans g1) _ fun e y G2 H2 s2 g2 hy => by
    obtain ⟨z, hz, hr⟩ := hr d e s1 s2
    exact hr x y G2 H2 g2.s (dp_mono g2.g _ _ hx) hy Q fun v G3 H3 g3 hv => q z v G3 H3 hz ((g1.trans g2).trans g3) hv
theorem eak_nil : EAK K tNil σ G H (· = []) := fun G1 H1 g _ q => q [] [] G1 H1 rfl (Gr.refl g.s) .nil
theorem eak_cons {Z : List PyData → Prop} (ha : EK K te σ G H S) (hb : EAK K t σ G H Z) : EAK K (tCons te t) σ G H (fun ds => ∃ d es, ds = d :: es ∧ S d ∧ Z es) := fun G0 H0 g0 _ q =>
  ha G0 H0 g0 _ fun d x G1 H1 s1 g1 hx => hb G1 H1 (g0.trans g1) _ fun es ys G2 H2 s2 g2 hy => q (d :: es) _ G2 H2 ⟨d, es, rfl, s1, s2⟩ (g1.trans g2) (.cons (dp_mono g2.g _ _ hx) hy)
theorem ek_cb {Z : List PyData → Prop} {r : List V → Hp → VK → Prop} (h : EAK K t σ G H Z) (hr : ∀ ds, Z ds → ∃ z, S z ∧ RA K r ds z) : EK K (tCB r t) σ G H S := fun G0 H0 g0 Q q =>
  h G0 H0 g0 _ fun ds xs G1 H1 s1 g1 hx => by
    obtain ⟨z, hz, hr⟩ := hr ds s1
    exact hr xs G1 H1 g1.s hx Q fun v G2 H2 g2 hv => q z v G2 H2 hz (g1.trans g2) hv
theorem ek_lst {Z : List PyData → Prop} (h : EAK K t σ G H Z) (hl : ∀ ds, Z ds → ds.length ≤ 100000 ∧ S (.list ds)) : EK K (tLst t) σ G H S := fun G0 H0 g0 _ q =>
  h G0 H0 g0 _ fun ds xs G1 H1 s1 g1 hx => ⟨line_of (by rw [DpAll.len hx]; exact (hl ds s1).1), fun p hp => q _ _ (upd G1 p (.lst xs)) _ (hl ds s1).2 (g1.trans (Gr.new g1.s hp)) (.lst (.of upd_same) (dpa_mono (same_new (g1.s.free hp)) _ _ hx))⟩
theorem ek_if (h : KT tt σ G H) (h1 : EK K ta σ G H S) (h2 : EK K tb σ G H S) : EK K (tIf tt ta tb) σ G H S := fun G0 H0 g0 Q q => h G0 H0 g0 _ fun b G1 H1 g => by
  cases b with
  | true => rw [if_pos rfl]; exact h1 G1 H1 (g0.trans g) Q fun d v G2 H2 s g2 hv => q d v G2 H2 s (g.trans g2) hv
  | false => rw [if_neg Bool.false_ne_true]; exact h2 G1 H1 (g0.trans g) Q fun d v G2 H2 s g2 hv => q d v G2 H2 s (g.trans g2) hv
theorem kt_test (h : EK K te σ G H fun d => ∃ b, d = .bool b) : KT (tTest te) σ G H := fun G0 H0 g0 _ q => h G0 H0 g0 _ fun d v G1 H1 s g hv => by
  obtain ⟨b, rfl⟩ := s
  cases hv
  exact ⟨_, rfl, q b G1 H1 g⟩
theorem q_setK (s : Same G H) (h : EK K te σ G H S) (n : ∀ d v G' H', S d → Gr G H G' H' → Dp K G' v d → rest D (σ.set i (some v)) H') : tSeq (tAsg te (gName i)) rest D σ H := h.now s n
theorem s_setK (s : Same G H) (h : EK K te σ G H S) (n : ∀ d v G' H', S d → Gr G H G' H' → Dp K G' v d → D.nx (σ.set i (some v)) H') : tAsg te (gName i) D σ H := h.now s n
theorem s_retK (s : Same G H) (h : EK K te σ G H S) (k : ∀ d v G' H', S d → Gr G H G' H' → Dp K G' v d → D.rt v H') : tRet te D σ H := h.now s k
theorem s_ifK (s : Same G H) (h : KT tt σ G H) (h1 : ∀ G' H', Gr G H G' H' → tu D σ H') (h2 : ∀ G' H', Gr G H G' H' → tw D σ H') : tIfS tt tu tw D σ H := h G H (Gr.refl s) _ fun b G' H' g => by
  cases b with
  | true => rw [if_pos rfl]; exact h1 G' H' g
  | false => rw [if_neg Bool.false_ne_true]; exact h2 G' H' g
theorem q_ifK (s : Same G H) (h : KT tt σ G H) (h1 : ∀ G' H', Gr G H G' H' → tu { D with nx := rest D } σ H') (h2 : ∀ G' H', Gr G H G' H' → tw { D with nx := rest D } σ H') : tSeq (tIfS tt tu tw) rest D σ H := s_ifK s h h1 h2
/-- a call that draws -/
theorem ek_call {α : Type} {P : α → Prop} {args : α → List PyData} {S : α → PyData → Prop} {E : XK} (x : α) (hv : σ[i]? = some (some (.ref p))) (hd : Deck H p) (h : EA K t σ G H (args x)) (hp : P x) : EK K (tCall (spK K P args S) [] E (tCons (tVar i) t)) σ G H (S x) := fun G0 H0 g0 Q q =>
  ⟨_, hv, h G0 H0 g0 _ fun vs G1 H1 g1 hx => ⟨x, G1, p, vs, by rw [List.append_nil], hp, hd.same (g0.trans g1).h, g1.s, hx, fun d v G2 H2 hs g2 hd => q d v G2 H2 hs (g1.trans g2) hd⟩⟩
end
end Bw
set_option Elab.async false
set_option linter.all false
set_option maxRecDepth 100000
set_option maxHeartbeats 4000000
namespace Bw
open PySem PySem.Spec PyProof.Rows L2 Bo
section
variable {P : Program} {w : World} {K : PySem.W.Frag} {mg : Str → Option Value} {base : Heap}
theorem DeckL.keep {H H' : Hp} {p pc : Addr} {t b : Int} {cells : List Int} (d : DeckL H p pc t b cells) (s : Same H H') : DeckL H' p pc t b cells := ⟨d.ne, s _ _ d.hp, s _ _ d.hc, d.b0, d.b1, d.c0, d.c1⟩
theorem DeckL.putP {H : Hp} {p pc : Addr} {t b t' b' : Int} {cells : List Int} (d : DeckL H p pc t b cells) (h0 : 0 ≤ b') (h1 : b' < 2 ^ 64) : DeckL (upd H p (.lst [.ref pc, .int t', .int b'])) p pc t' b' cells :=
  ⟨d.ne, upd_same, by rw [upd_ne d.ne]; exact d.hc, h0, h1, d.c0, d.c1⟩
theorem DeckL.putC {H : Hp} {p pc : Addr} {t b : Int} {cells cells' : List Int} (d : DeckL H p pc t b cells) (hl : cells'.length = cells.length) : DeckL (upd H pc (.lst (cells'.map V.int))) p pc t b cells' :=
  ⟨d.ne, by rw [upd_ne (Ne.symm d.ne)]; exact d.hp, upd_same, d.b0, d.b1, fun z => d.c0 (List.length_eq_zero_iff.mp (by rw [← hl, z]; rfl)), hl ▸ d.c1⟩
structure DN (G H : Hp) (p pc : Addr) (t b : Int) (cells : List Int) : Prop extends DeckL H p pc t b cells where
  np : G p = none
  nc : G pc = none
theorem DN.gr {G H G' H' : Hp} {p pc : Addr} {t b : Int} {cells : List Int} (d : DN G H p pc t b cells) (g : Gr G H G' H') : DN G' H' p pc t b cells :=
  ⟨d.toDeckL.keep g.h, g.n p d.np (by rw [d.hp]; exact fun z => nomatch z), g.n pc d.nc (by rw [d.hc]; exact fun z => nomatch z)⟩
/-- all but the deck's two lists stands -/
def Out (p pc : Addr) (H H' : Hp) : Prop := ∀ a o, a ≠ p → a ≠ pc → H a = some o → H' a = some o
theorem Out.same {p pc : Addr} {H H1 H2 : Hp} (o : Out p pc H H1) (s : Same H1 H2) : Out p pc H H2 := fun a u n1 n2 e => s a u (o a u n1 n2 e)
theorem Out.put {p pc x : Addr} {u : HO} {H H1 : Hp} (o : Out p pc H H1) (hx : x = p ∨ x = pc) : Out p pc H (upd H1 x u) := fun a v n1 n2 e => by
  have : a ≠ x := by rcases hx with rfl | rfl <;> assumption
  rw [upd_ne this]; exact o a v n1 n2 e
theorem Out.re {p pc : Addr} {H H1 : Hp} (d : DeckAt H p pc) (o : Out p pc H H1) : Same H (reD H1 p pc) := fun a u e => by
  by_cases h2 : a = pc
  · subst h2
    rw [d.2.2] at e; cases e
    exact (reD_ok (H := H1) d.1).elim fun pc' _ => by unfold reD; rw [upd_same]
  · by_cases h1 : a = p
    · subst h1
      rw [d.2.1] at e; cases e
      unfold reD
      rw [upd_ne h2, upd_same]
    · unfold reD
      rw [upd_ne h2, upd_ne h1]
      exact o a u h1 h2 e
abbrev hp0 : Hp := fun _ => none
theorem same0 {H : Hp} : Same hp0 H := fun _ _ e => nomatch e
-- slots of _law_draw: 0 _law_deck_here, 1 _law_many, 2 _law_turn, 3 _law_at, 4 _law_cell, 5 _law_blend
abbrev s_law_draw : Stmt := top 34
abbrev N_law_draw : List Str := ["_law_deck_here", "_law_many", "_law_turn", "_law_at", "_law_cell", "_law_blend"]
theorem sc_law_draw : FnScope N_law_draw ["_law_deck_here", "_law_many"] (defScope s_law_draw) := ⟨rfl, rfl, rfl, by decide +kernel, rfl, by decide +kernel, by decide +kernel⟩
abbrev sp_law_draw (K : PySem.W.Frag) : Sp := spK (α := Nat) K (fun a => 1 ≤ a ∧ a < 1073741824) (fun a => [natD a]) (fun a d => ∃ r, r < a ∧ d = natD r)
theorem c_law_draw {f : Addr} {fd : FuncData} (T : Txt mg) (F : Fd K mg "_law_draw" s_law_draw f fd) : Cal P w K mg base CX0 "_law_draw" 1 ["_law_deck_here", "_law_many"] (sp_law_draw K) := by
  refine ⟨f, fd, ?_, F.mg, F.fn.kp, F.fn.binds fun _ _ _ _ _ _ us hl => match us, hl with | [_, _], _ => rfl⟩
  refine F.fn.ok sc_law_draw (fun vs H Q E h => ?_) (fun cdv A outer s H vs Q E hr h => ?_)
  · obtain ⟨a, G, p, us, rfl, _, _, _, h, _⟩ := h
    rw [List.length_cons, h.len]; rfl
  obtain ⟨m, G, p, us, rfl, ⟨hm, hm2⟩, ⟨pc, hdk⟩, hs, hv, q⟩ := h
  have nd := sc_law_draw.nd
  have hu := hr.units
  have hu1 := hu_of hr
  refine ⟨_, pss_openD (i := 0) ((pss_cons (ps_asg (pe_op op_add (pe_ix ix_list (pv 0) pe_int (fun _ _ => rfl)) pe_int) (pg_sub (pv 0) pe_int set_list))
     (pss_cons (ps_set (i := 2) nd rfl (Or.inl rfl) (pe_ix ix_list (pv 0) pe_int (fun _ _ => rfl)))
     (pss_cons (ps_set (i := 3) nd rfl (Or.inl rfl) (pe_op op_mod (pe_callTy call_int1 rfl T.int_ (by decide +kernel) (pa_cons (pv 2) pa_nil)) (pe_callB call_len_seq rfl T.len (by decide +kernel) (pa_cons (pe_ix ix_list (pv 0) pe_int (fun _ _ => rfl)) pa_nil))))
     (pss_cons (ps_set (i := 4) nd rfl (Or.inl rfl) (pe_ix ix_list (pe_ix ix_list (pv 0) pe_int (fun _ _ => rfl)) (pv 3) (fun _ _ => rfl)))
     (pss_cons (ps_if (pt_cmpR op_ge (pv 4) (pe_op op_pow pe_int pe_int) (nomark _))
     (pss_cons (ps_asg (pe_op op_fdiv (pv 4) (pv 1)) (pg_sub (pe_ix ix_list (pv 0) pe_int (fun _ _ => rfl)) (pv 3) set_list))
     (pss_one (ps_ret (pe_closeD (pe_op op_mod (pe_callTy call_int1 rfl T.int_ (by decide +kernel) (pa_cons (pv 4) pa_nil)) (pv 1))))))
     pss_nil)
     (pss_cons (ps_set (i := 5) nd rfl (Or.inl rfl) (pe_op op_mod (pe_callTy call_int1 rfl T.int_ (by decide +kernel) (pa_cons (pe_op op_add (pe_op op_add (pe_op op_mul (pe_ix ix_list (pv 0) pe_int (fun _ _ => rfl)) pe_int) (pv 4)) (pe_op op_mul (pv 2) pe_int)) pa_nil)) pe_int))
     (pss_cons (ps_asg (pv 5) (pg_sub (pv 0) pe_int set_list))
     (pss_one (ps_ret (pe_closeD (pe_op op_mod (pe_op op_fdiv (pe_op op_mod (pe_callTy call_int1 rfl T.int_ (by decide +kernel) (pa_cons (pe_op op_fdiv (pe_op op_mul (pv 5) (pe_op op_add (pe_op op_fdivW (pv 5) pe_int) pe_int)) pe_int) pa_nil)) pe_int) pe_int) (pv 1))))))))))))), ?_⟩
  obtain ⟨v1, rfl, h1⟩ := dpa1 hv
  cases h1
  refine ⟨p, pc, rfl, hdk, fun t b cells d0 => ?_⟩
  have o0 : Out p pc H (unD H p pc t b cells) := fun a o n1 n2 e => by unfold unD; rw [upd_ne n2, upd_ne n1]; exact e
  have d0 : DN hp0 (unD H p pc t b cells) p pc t b cells := ⟨d0, rfl, rfl⟩
  generalize unD H p pc t b cells = H0 at d0 o0
  have fin : ∀ (H1 : Hp) (r : Nat), r < m → Out p pc H H1 → Q (.int (r : Int)) (reD H1 p pc) := fun H1 r hr o => by
    have sm := Out.re hdk o
    exact q (natD r) _ G _ ⟨r, hr, rfl⟩ ⟨Same.refl _, sm, hs.trans sm, fun _ e _ => e⟩ (.int _)
  refine q_put (K := K) (j := 1) same0 rfl ⟨d0.np, d0.hp⟩ (ed_op (ed_ixM (j := 1) rfl d0.hp rfl (.int _) ed_int) ed_int rd_I0) ed_int (by simp) fun v G1 H1 g1 hd _ s1 => ?_
  cases hd
  have d1 : DN G1 _ p pc (t + 1) b cells := ⟨(d0.gr g1).putP (t' := t + 1) d0.b0 d0.b1, (d0.gr g1).np, (d0.gr g1).nc⟩
  have o1 := (o0.same g1.h).put (u := .lst [.ref pc, .int (t + 1), .int b]) (.inl rfl)
  have e1 : ([.ref pc, .int t, .int b] : List V).set 1 (.int (t + 1)) = [.ref pc, .int (t + 1), .int b] := rfl
  rw [e1] at s1 ⊢
  generalize upd H1 p (.lst [.ref pc, .int (t + 1), .int b]) = H2 at s1 d1 o1
  generalize t + 1 = t1 at d1
  clear g1 d0 o0
  have hcl : 0 < cells.length := List.length_pos_iff.mpr d1.c0
  refine q_set (K := K) (d := .int t1) s1 (ed_ixM (j := 1) rfl d1.hp rfl (.int _) ed_int) fun v G3 H3 g3 hd => ?_
  cases hd
  have d3 := d1.gr g3
  have o3 := o1.same g3.h
  obtain ⟨j, hj, hjl⟩ : ∃ j : Nat, (t1 % (cells.length : Int)) = (j : Int) ∧ j < cells.length := by
    have h1 := Int.emod_nonneg t1 (b := (cells.length : Int)) (by omega)
    have h2 := Int.emod_lt_of_pos t1 (b := (cells.length : Int)) (by omega)
    exact ⟨(t1 % (cells.length : Int)).toNat, by omega, by omega⟩
  refine q_set (K := K) (d := natD j) g3.s (ed_is (ed_op (ed_cb (ea_cons (ed_var rfl (.int _)) ea_nil) ra_intI) (ed_is (ed_len0 rfl d3.hp d3.hc) (by rw [List.length_map])) (rd_I (C := fun _ j => 0 < j) (by omega))) (by rw [hj])) fun v G4 H4 g4 hd => ?_
  cases hd
  have d4 := d3.gr g4
  have o4 := o3.same g4.h
  have hget : (cells.map V.int)[j]? = some (.int (cells.getD j 0)) := by
    rw [List.getElem?_map, List.getD_eq_getElem?_getD, List.getElem?_eq_getElem hjl]; rfl
  refine q_set (K := K) (d := .int (cells.getD j 0)) g4.s (ed_ix0 (j := j) rfl d4.hp d4.hc hget (.int _) (ed_var rfl (.int _))) fun v G5 H5 g5 hd => ?_
  cases hd
  have d5 := d4.gr g5
  have o5 := o4.same g5.h
  generalize cells.getD j 0 = cell
  refine q_if g5.s (et_test (K := K) (ed_op (ed_var (i := 4) rfl (.int cell)) (ed_op (d := .int 10) (e := .int 15) ed_int ed_int (rd_I (C := CPow) ⟨by decide, by decide, by decide⟩)) rd_B0)) (fun _ G6 H6 g6 => ?_) (fun _ G6 H6 g6 => ?_)
  · have d6 := d5.gr g6
    have o6 := o5.same g6.h
    refine q_put0 (K := K) (j := j) g6.s rfl d6.hp ⟨d6.nc, d6.hc⟩ (ed_op (ed_var rfl (.int _)) (ed_var rfl (.int _)) (rd_I (C := CDiv) (by constructor <;> omega))) (ed_var rfl (.int _)) (by rw [List.length_map]; exact hjl) fun v G7 H7 g7 hd _ s7 => ?_
    cases hd
    have e7 : (cells.map V.int).set j (.int (cell / (m : Int))) = (cells.set j (cell / (m : Int))).map V.int := List.map_set.symm
    rw [e7] at s7 ⊢
    have d7 := (d6.gr g7).putC (cells' := cells.set j (cell / (m : Int))) (List.length_set ..)
    have o7 := (o6.same g7.h).put (u := .lst ((cells.set j (cell / (m : Int))).map V.int)) (.inr rfl)
    generalize upd H7 pc (.lst ((cells.set j (cell / (m : Int))).map V.int)) = H8 at s7 d7 o7
    obtain ⟨r, hr1, hr2⟩ : ∃ r : Nat, cell % (m : Int) = (r : Int) ∧ r < m := by
      have h1 := Int.emod_nonneg cell (b := (m : Int)) (by omega)
      have h2 := Int.emod_lt_of_pos cell (b := (m : Int)) (by omega)
      exact ⟨(cell % (m : Int)).toNat, by omega, by omega⟩
    refine (ed_op (K := K) (d := .int cell) (z := .int (cell % (m : Int))) (ed_cb (ea_cons (ed_var (i := 4) rfl (.int _)) ea_nil) ra_intI) (ed_var (i := 1) rfl (.int _)) (rd_I (C := fun _ j => 0 < j) (by omega))).now s7 fun v G9 H9 g9 hd => ?_
    cases hd
    rw [hr1]
    exact ⟨p, pc, _, _, _, d7.keep g9.h, fin H9 r hr2 (o7.same g9.h)⟩
  · have d6 := d5.gr g6
    have o6 := o5.same g6.h
    have hb : ∀ x : Int, 0 ≤ x % 18446744073709551533 ∧ x % 18446744073709551533 < 2 ^ 64 := fun x => by omega
    refine q_set (K := K) (d := .int ((b * 6364136223846793005 + cell + t1 * 2549297995355413924) % 18446744073709551533)) g6.s (ed_op (ed_cb (ea_cons (ed_op (ed_op (ed_op (ed_ixM (j := 2) rfl d6.hp rfl (.int _) ed_int) ed_int (rd_I (C := CMul) (.inr (by decide)))) (ed_var rfl (.int _)) rd_I0) (ed_op (ed_var rfl (.int _)) ed_int (rd_I (C := CMul) (.inr (by decide)))) rd_I0) ea_nil) ra_intI) ed_int (rd_I (C := fun _ j => 0 < j) (by decide))) fun v G7 H7 g7 hd => ?_
    cases hd
    obtain ⟨hb0, hb1⟩ := hb (b * 6364136223846793005 + cell + t1 * 2549297995355413924)
    generalize (b * 6364136223846793005 + cell + t1 * 2549297995355413924) % 18446744073709551533 = b2 at hb0 hb1
    have d7 := d6.gr g7
    have o7 := o6.same g7.h
    refine q_put (K := K) (j := 2) g7.s rfl ⟨d7.np, d7.hp⟩ (ed_var rfl (.int _)) ed_int (by simp) fun v G8 H8 g8 hd _ s8 => ?_
    cases hd
    have e8 : ([.ref pc, .int t1, .int b] : List V).set 2 (.int b2) = [.ref pc, .int t1, .int b2] := rfl
    rw [e8] at s8 ⊢
    have d8 := (d7.gr g8).putP (t' := t1) hb0 hb1
    have o8 := (o7.same g8.h).put (u := .lst [.ref pc, .int t1, .int b2]) (.inl rfl)
    generalize upd H8 p (.lst [.ref pc, .int t1, .int b2]) = H9 at s8 d8 o8
    refine (ed_op (K := K) (ed_op (ed_op (ed_cb (ea_cons (ed_op (ed_op (ed_var (i := 5) rfl (.int b2)) (ed_op (ed_op (ed_var (i := 5) rfl (.int b2)) ed_int (rd_I (C := CDivW) ?_)) ed_int rd_I0) (rd_I (C := CMul) (.inl ?_))) ed_int (rd_I (C := CDiv) ⟨by decide, by decide⟩)) ea_nil) ra_intI) ed_int (rd_I (C := fun _ j => 0 < j) (by decide))) ed_int (rd_I (C := CDiv) ⟨by decide, by decide⟩)) (ed_var (i := 1) rfl (.int (m : Int))) (rd_I (C := fun _ j => 0 < j) (by omega))).now s8 fun v G10 H10 g10 hd => ?_
    · refine ⟨by decide, ?_⟩
      decide
    · omega
    · cases hd
      obtain ⟨r, hr1, hr2⟩ : ∃ r : Nat, b2 * (b2 / 4294967296 + 7) / 65536 % 2305843009213693951 / 1048576 % (m : Int) = (r : Int) ∧ r < m := by
        have h1 := Int.emod_nonneg (b2 * (b2 / 4294967296 + 7) / 65536 % 2305843009213693951 / 1048576) (b := (m : Int)) (by omega)
        have h2 := Int.emod_lt_of_pos (b2 * (b2 / 4294967296 + 7) / 65536 % 2305843009213693951 / 1048576) (b := (m : Int)) (by omega)
        generalize b2 * (b2 / 4294967296 + 7) / 65536 % 2305843009213693951 / 1048576 % (m : Int) = z at h1 h2
        exact ⟨z.toNat, by omega, by omega⟩
      rw [hr1]
      exact ⟨p, pc, _, _, _, d8.keep g10.h, fin H10 r hr2 (o8.same g10.h)⟩
end
end Bw
set_option Elab.async false
set_option linter.all false
set_option maxRecDepth 100000
set_option maxHeartbeats 4000000
namespace Bw
open PySem PySem.Spec PyProof.Rows L2 Bo
theorem ties_lay (T : Ties) : PyData.canLayAll0 (T.map tieD) = true := by
  induction T with
  | nil => rfl
  | cons e r ih => rw [List.map_cons]; simp [PyData.canLayAll0, PyData.canLay0, tieD, natD, ih]
theorem ties_depth (T : Ties) : PyData.depthAll (T.map tieD) ≤ 1 := by
  induction T with
  | nil => simp [PyData.depthAll]
  | cons e r ih => rw [List.map_cons]; simp [PyData.depthAll, PyData.depth, tieD, natD] at ih ⊢; omega
theorem ties_shaped (T : Ties) : SeqAt.shaped (.list (T.map tieD)) = true := by
  unfold SeqAt.shaped
  rw [Bool.and_eq_true]
  refine ⟨by simp [PyData.canLay0, ties_lay], decide_eq_true ?_⟩
  have := ties_depth T
  simp [PyData.depth]
  omega
section
variable {K : PySem.W.Frag} {σ : L2.St} {G H Gi Hi : Hp} {D : Ends} {te ti tb ta : TE} {rest : TS} {i j : Nat} {p pc : Addr} {xs ys : List V} {d : PyData} {v : V} {ds : List PyData}
theorem ed_lenS {a : Addr} (hv : σ[i]? = some (some (.ref a))) (hm : SqL K H a xs) : ED K (tCB (rLenS K) (tCons (tVar i) tNil)) σ G H (natD xs.length) := fun G0 H0 g0 Q q =>
  ⟨_, hv, a, xs, rfl, .inl (g0.h.seq hm), q _ G0 H0 (Gr.refl g0.s) (.int _)⟩
/-- p != [], p a list of one's own, of ties -/
theorem et_neNil {T : Ties} (hv : σ[i]? = some (some (.ref p))) (m : Mu G H p (.lst xs)) (d : DpAll K G xs (T.map tieD)) (s : Same G H) : ET (tTest (tOp (rNeD K) (tVar i) (tLst tNil))) σ G H (decide (T ≠ [])) := fun G0 H0 g0 Q q => by
  refine ⟨_, hv, line_of (by simp), fun b hb => ?_⟩
  have g1 := Gr.new (o := .lst []) g0.s hb
  have g := g0.trans g1
  have hp : upd H0 b (.lst []) p = some (.lst xs) := g.h _ _ m.h
  refine ⟨.list (T.map tieD), .list [], .lst (.of hp) (dpa_mono (g.s) _ _ (dpa_mono g.g _ _ d)), .lst (.of upd_same) .nil, ties_shaped T, ties_shaped [], ?_⟩
  have e : (!PyData.eqv (.list (T.map tieD)) (.list [])) = decide (T ≠ []) := by
    cases T with
    | nil => rfl
    | cons e r => rfl
  rw [e]
  exact ⟨_, rfl, q _ _ g1⟩
/-- pf.append(pl.pop(e)) -/
theorem s_appPop {k : Nat} {pl pf : Addr} {xl xf : List V} (s : Same G H) (hf : σ[k]? = some (some (.ref pf))) (hl : σ[i]? = some (some (.ref pl))) (ml : Mu G H pl (.lst xl)) (mf : Mu G H pf (.lst xf)) (ne : pl ≠ pf) (hz : xf.length < 100000) (hz2 : xl.length < 100000)
    (h : EK K te σ G H fun d => ∃ r, r < xl.length ∧ d = natD r)
    (n : ∀ r y G' H', xl[r]? = some y → Gr G H G' H' → Mu G' (upd (upd H' pl (.lst (xl.eraseIdx r))) pf (.lst (xf ++ [y]))) pl (.lst (xl.eraseIdx r)) → Mu G' (upd (upd H' pl (.lst (xl.eraseIdx r))) pf (.lst (xf ++ [y]))) pf (.lst (xf ++ [y])) →
      Same G' (upd (upd H' pl (.lst (xl.eraseIdx r))) pf (.lst (xf ++ [y]))) → D.nx σ (upd (upd H' pl (.lst (xl.eraseIdx r))) pf (.lst (xf ++ [y])))) :
    tDrop (tBM K "list" rAppend (tVar k) (tCons (tBM K "list" rPopAt (tVar i) (tCons te tNil)) tNil)) D σ H := by
  refine ⟨_, hf, .inl ⟨rfl, xf, .of mf.h⟩, _, hl, .inl ⟨rfl, xl, .of ml.h⟩, h.now s fun d v G' H' hr g hd => ?_⟩
  obtain ⟨r, hrl, rfl⟩ := hr
  cases hd
  have ml' := ml.gr g
  have mf' := mf.gr g
  obtain ⟨y, hy⟩ : ∃ y, xl[r]? = some y := ⟨xl[r], List.getElem?_eq_getElem hrl⟩
  refine ⟨pl, xl, (r : Int), r, y, rfl, rfl, ml'.h, by omega, by omega, ?_, hy, ?_⟩
  · have h1 : ¬ ((r : Int) < 0) := by omega
    simp [seqIndex?, h1, hrl]
  · have m2 := mf'.ne (o' := .lst (xl.eraseIdx r)) (Ne.symm ne)
    refine ⟨pf, xf, y, rfl, rfl, m2.h, line_lt hz, ?_⟩
    exact n r y G' H' hy g (ml'.put.ne ne) m2.put (same_mut (same_mut g.s ml'.n) m2.n)
end
theorem DpAll.erase {K : PySem.W.Frag} {G : Hp} : ∀ {ds : List PyData} {vs : List V} (r : Nat), DpAll K G vs ds → DpAll K G (vs.eraseIdx r) (ds.eraseIdx r)
  | [], _, _, .nil => by simp; exact .nil
  | _ :: _, _, 0, .cons _ h => h
  | _ :: _, _, r + 1, .cons h1 h2 => .cons h1 (DpAll.erase r h2)
theorem map_erase {α β : Type} (f : α → β) : ∀ (l : List α) (r : Nat), (l.map f).eraseIdx r = (l.eraseIdx r).map f
  | [], _ => by simp
  | _ :: _, 0 => by simp
  | a :: l, r + 1 => by simp [map_erase f l r]
theorem perm_move {α : Type} {L F T : List α} {r : Nat} {e : α} (h : L[r]? = some e) (p : (L ++ F).Perm T) : (L.eraseIdx r ++ (F ++ [e])).Perm T := by
  have h1 : L.Perm (e :: L.eraseIdx r) := by
    obtain ⟨hr, he⟩ := List.getElem?_eq_some_iff.mp h
    have e1 : L = L.take r ++ e :: L.drop (r + 1) := by rw [← he, List.getElem_cons_drop]; exact (List.take_append_drop r L).symm
    have e2 : L.eraseIdx r = L.take r ++ L.drop (r + 1) := List.eraseIdx_eq_take_drop_succ ..
    rw [e2]
    conv => lhs; rw [e1]
    exact List.perm_middle
  have h2 : (L.eraseIdx r ++ (F ++ [e])).Perm (e :: (L.eraseIdx r ++ F)) := by
    rw [← List.append_assoc]
    exact List.perm_append_comm
  exact h2.trans (((h1.append_right F).symm).trans p)
section
variable {P : Program} {w : World} {K : PySem.W.Frag} {mg : Str → Option Value} {base : Heap}
-- slots of _law_pick: 0 _law_deck_here, 1 _law_row
abbrev s_law_pick : Stmt := top 35
abbrev N_law_pick : List Str := ["_law_deck_here", "_law_row"]
theorem sc_law_pick : FnScope N_law_pick ["_law_deck_here", "_law_row"] (defScope s_law_pick) := ⟨rfl, rfl, rfl, by decide +kernel, rfl, by decide +kernel, by decide +kernel⟩
def sp_law_pick (K : PySem.W.Frag) : Sp := fun vs H Q _ => ∃ (p a : Addr) (xs : List V) (ds : List PyData) (G : Hp), vs = [.ref p, .ref a] ∧ Deck H p ∧ Same G H ∧ SqL K H a xs ∧ DpAll K G xs ds ∧ ds ≠ [] ∧ ds.length < 1073741824 ∧ ∀ d v G' H', d ∈ ds → Gr G H G' H' → Dp K G' v d → Q v H'
theorem c_law_pick {f : Addr} {fd : FuncData} (T : Txt mg) (F : Fd K mg "_law_pick" s_law_pick f fd) (C_law_draw : Cal P w K mg base CX0 "_law_draw" 1 ["_law_deck_here", "_law_many"] (sp_law_draw K)) : Cal P w K mg base CX0 "_law_pick" 2 ["_law_deck_here", "_law_row"] (sp_law_pick K) := by
  refine ⟨f, fd, ?_, F.mg, F.fn.kp, F.fn.binds fun _ _ _ _ _ _ us hl => match us, hl with | [_, _], _ => rfl⟩
  refine F.fn.ok sc_law_pick (fun vs H Q E h => ?_) (fun cdv A outer s H vs Q E hr h => ?_)
  · obtain ⟨p, a, xs, ds, G, rfl, _⟩ := h
    rfl
  obtain ⟨p, a, xs, ds, G, rfl, hdk, hs, hq, hv, hne, hl, q⟩ := h
  have nd := sc_law_pick.nd
  have hu := hr.units
  have hu1 := hu_of hr
  refine ⟨_, (pss_one (ps_ret (pe_ix ix_list (pv 1) (pe_cal C_law_draw (hr.mono (by decide)) rfl (pa_cons (pv 0) (pa_cons (pe_callB call_len_seq rfl T.len (by decide +kernel) (pa_cons (pv 1) pa_nil)) pa_nil))) (fun _ _ => rfl)))), ?_⟩
  have hlen := hv.len
  have h0 : 0 < ds.length := List.length_pos_iff.mpr hne
  refine ⟨_, rfl, (ek_call (K := K) xs.length (i := 0) rfl hdk (ea_cons (ed_lenS rfl hq) ea_nil) (by omega)).now hs fun d v G1 H1 hd g1 hv1 => ?_⟩
  obtain ⟨r, hr1, rfl⟩ := hd
  cases hv1
  have hr2 : r < ds.length := by omega
  obtain ⟨v, e1, e2⟩ := hv.get (List.getElem?_eq_getElem hr2)
  refine ⟨a, xs, (r : Int), v, rfl, rfl, g1.h.seq hq, ?_, q _ v G1 H1 (List.getElem_mem hr2) g1 (dp_mono g1.g _ _ e2)⟩
  unfold atI
  rw [ixN_nat hr1]
  exact e1
-- slots of _law_mixed: 0 _law_deck_here, 1 _law_row, 2 _law_left, 3 _law_found
abbrev s_law_mixed : Stmt := top 36
abbrev N_law_mixed : List Str := ["_law_deck_here", "_law_row", "_law_left", "_law_found"]
theorem sc_law_mixed : FnScope N_law_mixed ["_law_deck_here", "_law_row"] (defScope s_law_mixed) := ⟨rfl, rfl, rfl, by decide +kernel, rfl, by decide +kernel, by decide +kernel⟩
def sp_law_mixed (K : PySem.W.Frag) : Sp := fun vs H Q _ => ∃ (p a : Addr) (xs : List V) (T : Ties) (G : Hp), vs = [.ref p, .ref a] ∧ Deck H p ∧ Same G H ∧ SqL K H a xs ∧ DpAll K G xs (T.map tieD) ∧ T.length ≤ 1000 ∧ ∀ (T' : Ties) v G' H', List.Perm T' T → Gr G H G' H' → Dp K G' v (.list (T'.map tieD)) → Q v H'
theorem c_law_mixed {f : Addr} {fd : FuncData} (T : Txt mg) (F : Fd K mg "_law_mixed" s_law_mixed f fd) (C_law_draw : Cal P w K mg base CX0 "_law_draw" 1 ["_law_deck_here", "_law_many"] (sp_law_draw K)) : Cal P w K mg base CX0 "_law_mixed" 2 ["_law_deck_here", "_law_row"] (sp_law_mixed K) := by
  refine ⟨f, fd, ?_, F.mg, F.fn.kp, F.fn.binds fun _ _ _ _ _ _ us hl => match us, hl with | [_, _], _ => rfl⟩
  refine F.fn.ok sc_law_mixed (fun vs H Q E h => ?_) (fun cdv A outer s H vs Q E hr h => ?_)
  · obtain ⟨p, a, xs, ds, G, rfl, _⟩ := h
    rfl
  obtain ⟨p, a, xs, W, G, rfl, hdk, hs, hq, hv, hl, q⟩ := h
  have nd := sc_law_mixed.nd
  have hu := hr.units
  have hu1 := hu_of hr
  refine ⟨_, (pss_cons (ps_par (i := 2) (j := 3) rfl nd rfl rfl (by decide) rfl rfl (pa_cons (pe_callTy call_list_of rfl T.list_ (by decide +kernel) (pa_cons (pv 1) pa_nil)) (pa_cons (pe_lst pa_nil) pa_nil)) rfl)
     (pss_cons (ps_while PassesOwn.never (pt_cmpR (op_neD hu) (pv 2) (pe_lst pa_nil) (nomark _))
     (pss_one (ps_expr (pe_bm PySem.F.plainAttrs_list PySem.F.slot_list_append PySem.F.type_list_append mt_append (pv 3) (pa_cons (pe_bm PySem.F.plainAttrs_list PySem.F.slot_list_pop PySem.F.type_list_pop mt_popAt (pv 2) (pa_cons (pe_cal C_law_draw (hr.mono (by decide)) rfl (pa_cons (pv 0) (pa_cons (pe_callB call_len_seq rfl T.len (by decide +kernel) (pa_cons (pv 2) pa_nil)) pa_nil))) pa_nil)) pa_nil)))))
     (pss_one (ps_ret (pv 3))))), ?_⟩
  have hlen := hv.len
  rw [List.length_map] at hlen
  refine ⟨_, rfl, a, xs, rfl, .inl hq, fun pl hpl => ?_⟩
  have g1 := Gr.lay (o := .lst xs) hs hpl
  have m1 := Mu.lay (o := .lst xs) hs hpl
  refine ⟨line_of (by simp), fun pf hpf => ?_⟩
  have g2 := Gr.lay (o := .lst []) g1.s hpf
  have m2 := Mu.lay (o := .lst []) g1.s hpf
  have ne : pl ≠ pf := fun z => by rw [← z, upd_same] at hpf; cases hpf
  have hpf0 : H pf = none := by rw [upd_ne (Ne.symm ne)] at hpf; exact hpf
  have g12 := g1.trans g2
  refine ⟨_, _, rfl, ?_⟩
  dsimp only
  refine q_while (Gi := G) (Hi := H) g12 (fun m σ' G' H' => ∃ (xl xf : List V) (L R : Ties), σ' = [some (.ref p), some (.ref a), some (.ref pl), some (.ref pf)] ∧ Mu G' H' pl (.lst xl) ∧ Mu G' H' pf (.lst xf) ∧ DpAll K G' xl (L.map tieD) ∧ DpAll K G' xf (R.map tieD) ∧ (L ++ R).Perm W ∧ L.length = m) W.length ⟨xs, [], W, [], rfl, m1.gr g2, m2, hv, .nil, by rw [List.append_nil], rfl⟩ ?_
  rintro m σ' G3 H3 g3 s3 ⟨xl, xf, L, R, rfl, ml, mf, dl, df, hp, rfl⟩
  have hpl2 := hp.length_eq
  rw [List.length_append] at hpl2
  have hxl := dl.len
  rw [List.length_map] at hxl
  have hxf := df.len
  rw [List.length_map] at hxf
  refine ⟨_, et_neNil (K := K) rfl ml dl g3.s, fun c G4 H4 g4 => ?_, fun c G4 H4 g4 => ?_⟩
  · have hL := of_decide_eq_true c
    have hL0 : 0 < L.length := List.length_pos_iff.mpr hL
    have ml4 := ml.gr g4
    have mf4 := mf.gr g4
    refine s_appPop (K := K) (k := 3) (i := 2) g4.s rfl rfl ml4 mf4 ne (by omega) (by omega) (ek_call (K := K) xl.length (i := 0) rfl (hdk.same (g3.trans g4).h) (ea_cons (ed_lenM rfl ml4.h) ea_nil) (by omega)) fun r y G5 H5 hy g5 m5l m5f s5 => ?_
    have hr : r < L.length := by rw [← hxl]; exact (List.getElem?_eq_some_iff.mp hy).1
    obtain ⟨e, he⟩ : ∃ e, L[r]? = some e := ⟨L[r], List.getElem?_eq_getElem hr⟩
    have g45 := g4.trans g5
    have dl5 := dpa_mono g45.g _ _ dl
    have df5 := dpa_mono g45.g _ _ df
    obtain ⟨y', hy', hd'⟩ := dl5.get (i := r) (d := tieD e) (by rw [List.getElem?_map, he]; rfl)
    rw [hy] at hy'; cases hy'
    refine ⟨G5, ((g3.trans g45).mut hpl (ml.gr g45).n).mut hpf0 m5f.n, g45.g, (L.eraseIdx r).length, ?_, _, _, L.eraseIdx r, R ++ [e], rfl, m5l, m5f, ?_, ?_, perm_move he hp, rfl⟩
    · rw [List.length_eraseIdx_of_lt hr]; omega
    · have := DpAll.erase r dl5
      rw [map_erase] at this
      exact this
    · rw [List.map_append]
      exact df5.app (.cons hd' .nil)
  · have hL : L = [] := by simpa using c
    subst hL
    have mf4 := mf.gr g4
    have g5 := (g3.trans g4).freeze hpf0 mf4
    have hd : Dp K (upd G4 pf (.lst xf)) (.ref pf) (.list (R.map tieD)) := .lst (.of upd_same) (dpa_mono (g4.g.trans (same_new mf4.n)) _ _ df)
    exact ⟨_, rfl, q R _ _ _ (by simpa using hp) g5 hd⟩
end
end Bw
set_option Elab.async false
set_option linter.all false
set_option maxRecDepth 100000
set_option maxHeartbeats 4000000
namespace Bw
open PySem PySem.Spec PyProof.Rows L2 Bo
section
variable {K : PySem.W.Frag} {σ : L2.St} {G H Gi Hi : Hp} {D : Ends} {te ti tb ta : TE} {rest : TS} {i j : Nat} {p pc : Addr} {xs ys : List V} {d : PyData} {v : V} {ds es : List PyData}
theorem cut_to {xs : List V} {k : Nat} (h : xs.length ≤ k) : cutV xs none (some (k : Int)) = xs := by
  unfold cutV
  have h1 : HT.sIx xs.length 0 none = 0 := rfl
  have h2 : HT.sIx xs.length xs.length (some (k : Int)) = xs.length := by
    rw [HT.sIx_nat]
    omega
  rw [h1, h2]
  simp
theorem ed_slTo {k : Nat} (h : ED K te σ G H (.list ds)) (hl : ds.length ≤ k) : ED K (tSl (rSlL K) te tNoPart (tPart (tC (.int (k : Int))))) σ G H (.list ds) := fun G0 H0 g0 Q q =>
  h G0 H0 g0 _ fun v G1 H1 g1 hv => by
    cases hv with
    | @lst a xs _ hs ha =>
      refine ⟨_, rfl, a, xs, rfl, g1.s.seq hs, fun p hp => ?_⟩
      rw [cut_to (by rw [ha.len]; exact hl)]
      exact q _ _ _ (g1.trans (Gr.new g1.s hp)) (.lst (.of upd_same) (dpa_mono (same_new (g1.s.free hp)) _ _ ha))
theorem el_lcA {g : TG} {α : Type} (xs : List α) (enc : α → PyData) (v : α → PyData) {wi : TI} {vs : List Nat} (h : ES K wi σ G H (xs.map enc)) (hn : xs.length ≤ 99999)
    (hs : ∀ a ∈ xs, ∀ x G' H', Gr G H G' H' → Dp K G' x (enc a) → ∃ σ2, (∀ Q : L2.St → Hp → Prop, Q σ2 H' → g x (wipe σ vs) H' Q) ∧ wipe σ2 vs = wipe σ vs ∧ ED K te σ2 G' H' (v a)) :
    EL K (tLc wi g tYes te vs) σ G H (xs.map v) := by
  have k := el_lc (tt := tYes) xs enc (fun _ => true) v h hn fun a ha x G' H' g hx => by
    obtain ⟨σ2, k1, k2, k3⟩ := hs a ha x G' H' g hx
    exact ⟨σ2, k1, k2, et_yes, fun _ => k3⟩
  rw [List.filter_eq_self.mpr (fun _ _ => rfl)] at k
  exact k
/-- p, v = [..] + [..], e: p a list of one's own -/
theorem q_parCatM (gr : Gr Gi Hi G H) (h1 : EL K ta σ G H ds) (h2 : EL K tb σ G H es) (hl : ds.length + es.length ≤ 100000) (h3 : ED K te σ G H d)
    (n : ∀ p zs v G' H', Hi p = none → Gr Gi Hi G' H' → Same G G' → Mu G' H' p (.lst zs) → DpAll K G' zs (ds ++ es) → Dp K G' v d → rest D ((σ.set i (some (.ref p))).set j (some v)) H') :
    tSeq (tPar i j (tCons (tOp rCat ta tb) (tCons te tNil))) rest D σ H :=
  h1 G H (Gr.refl gr.s) _ fun a xs G1 H1 g1 e1 d1 => h2 G1 H1 g1 _ fun b ys G2 H2 g2 e2 d2 => by
    refine ⟨a, b, xs, ys, rfl, rfl, g2.s _ _ (g2.g _ _ e1), g2.s _ _ e2, line_of (by rw [d1.len, d2.len]; exact hl), fun p hp => ?_⟩
    have g3 := Gr.lay (o := .lst (xs ++ ys)) g2.s hp
    have m3 := Mu.lay (o := .lst (xs ++ ys)) g2.s hp
    have g13 := (g1.trans g2).trans g3
    refine (h3.mono g13).now g3.s fun v G4 H4 g4 hv => ⟨_, _, rfl, ?_⟩
    exact n p _ v G4 H4 ((gr.trans (g1.trans g2)).fresh hp) (gr.trans (g13.trans g4)) (g13.trans g4).g (m3.gr g4) (dpa_mono g4.g _ _ ((dpa_mono g2.g _ _ d1).app d2)) hv
end
section
variable {P : Program} {w : World} {K : PySem.W.Frag} {mg : Str → Option Value} {base : Heap}
-- slots of _law_deck: 0 _law_script, 1 _law_cells, 2 _law_blend, 3 _law_cell
abbrev s_law_deck : Stmt := top 33
abbrev N_law_deck : List Str := ["_law_script", "_law_cells", "_law_blend", "_law_cell"]
theorem sc_law_deck : FnScope N_law_deck ["_law_script"] (defScope s_law_deck) := ⟨rfl, rfl, rfl, by decide +kernel, rfl, by decide +kernel, by decide +kernel⟩
def sp_law_deck (K : PySem.W.Frag) : Sp := fun vs H Q _ => ∃ (ns : List Int) (G : Hp), Same G H ∧ DpAll K G vs [.list (ns.map PyData.int)] ∧ ns.length ≤ 63 ∧ ∀ p G' H', Deck H' p → Gr G H G' H' → Q (.ref p) H'
theorem c_law_deck {f : Addr} {fd : FuncData} (T : Txt mg) (F : Fd K mg "_law_deck" s_law_deck f fd) : Cal P w K mg base CX0 "_law_deck" 1 ["_law_script"] (sp_law_deck K) := by
  refine ⟨f, fd, ?_, F.mg, F.fn.kp, F.fn.binds fun _ _ _ _ _ _ us hl => match us, hl with | [_], _ => rfl⟩
  refine F.fn.ok sc_law_deck (fun vs H Q E h => ?_) (fun cdv A outer s H vs Q E hr h => ?_)
  · obtain ⟨ns, G, _, h, _⟩ := h
    rw [h.len]; rfl
  obtain ⟨ns, G, hs, hv, hl, q⟩ := h
  have nd := sc_law_deck.nd
  have hu := hr.units
  have hu1 := hu_of hr
  refine ⟨_, (pss_cons (ps_par (i := 1) (j := 2) rfl nd rfl rfl (by decide) rfl rfl (pa_cons (pe_op op_cat (pe_lc (own := [("_law_cell", 3)]) (g := gName 3) (tt := tYes) (te := tCB rAbs (tCons (tVar 3) (tNil))) rfl nd (pi_list (pe_slice sl_list (pv 0) po_none (po_some pe_int))) (blkOk_by (N := N_law_deck) (sc := defScope s_law_deck) (by decide +kernel)) (fun _ _ _ _ _ => (pg_name (i := 3) nd rfl (Or.inl rfl))) (fun _ _ _ _ _ => pts_nil) (fun _ _ _ _ _ => (pe_callB call_abs rfl T.abs (by decide +kernel) (pa_cons (pv 3) pa_nil)))) (pe_lst (pa_cons (pe_op op_add pe_int (pe_callB call_len_seq rfl T.len (by decide +kernel) (pa_cons (pv 0) pa_nil))) pa_nil))) (pa_cons pe_int pa_nil)) rfl)
     (pss_cons (ps_for PassesOwn.never rfl (pi_list (pe_slice sl_list (pv 0) po_none (po_some pe_int))) (pg_name (i := 3) nd rfl (Or.inl rfl))
     (pss_one (ps_set (i := 2) nd rfl (Or.inl rfl) (pe_op op_mod (pe_callTy call_int1 rfl T.int_ (by decide +kernel) (pa_cons (pe_op op_add (pe_op op_add (pe_op op_add (pe_op op_mul (pv 2) pe_int) (pe_op op_mul pe_int (pe_callB call_abs rfl T.abs (by decide +kernel) (pa_cons (pv 3) pa_nil)))) (pe_callTy call_int1 rfl T.int_ (by decide +kernel) (pa_cons (pe_cmpR op_lt (pv 3) pe_int (nomark _)) pa_nil))) pe_int) pa_nil)) pe_int))))
     (pss_one (ps_ret (pe_closeD (pe_lst (pa_cons (pv 1) (pa_cons pe_int (pa_cons (pv 2) pa_nil))))))))), ?_⟩
  obtain ⟨v0, rfl, h0⟩ := dpa1 hv
  have hsl : ∀ {σ : L2.St} {G1 H1 : Hp}, σ[0]? = some (some v0) → Same G G1 → ED K (tSl (rSlL K) (tVar 0) tNoPart (tPart (tC (.int ((63 : Nat) : Int))))) σ G1 H1 (.list (ns.map PyData.int)) := fun h s => ed_slTo (ed_var h (dp_mono s _ _ h0)) (by rw [List.length_map]; exact hl)
  refine q_parCatM (K := K) (Gi := G) (Hi := H) (ds := (ns.map fun x => if x < 0 then -x else x).map PyData.int) (es := [(7436 + (ns.length : Int))].map PyData.int) (d := .int 7436) (Gr.refl hs) (EL.is (el_lcA ns PyData.int (fun x => .int (if x < 0 then -x else x)) (es_list (hsl rfl (Same.refl _))) (by omega) fun x hx y G' H' g' hy => ?_) ?_)
    (el_lst (ea_cons (ed_op ed_int (ed_cb (ea_cons (ed_var rfl h0) ea_nil) ra_lenL) (by rw [List.length_map]; exact rd_I0)) ea_nil) (by simp)) (by simp; omega) ed_int fun pc zs vb G1 H1 hpc g1 s1 m1 dz hb => ?_
  · cases hy
    exact ⟨_, fun Q q => q, rfl, ed_cb (ea_cons (ed_var rfl (.int _)) ea_nil) ra_abs⟩
  · rw [List.map_map]; rfl
  cases hb
  rw [← List.map_append] at dz
  have ez := dz.ints
  subst ez
  refine q_forT (Gi := G) (Hi := H) ns PyData.int (es_list (hsl rfl s1)) g1 (fun pre σ' G' H' => ∃ (b : Int) (c : Option V), σ' = [some v0, some (.ref pc), some (.int b), c] ∧ (0 ≤ b ∧ b < 18446744073709551616) ∧ H' pc = some (.lst ((ns.map fun x => if x < 0 then -x else x) ++ [7436 + (ns.length : Int)] |>.map V.int))) (fun G' H' g' => ⟨_, _, rfl, ⟨by decide, by decide⟩, (m1.gr g').h⟩) ?_ ?_
  · rintro pre x post xv σ' G2 H2 G3 H3 hsp g2 s2 ⟨b, c, rfl, ⟨b0, b1⟩, m2⟩ g3 hx
    cases hx
    refine g_nm (s_set (K := K) (d := .int ((b * 2862933555777941757 + 2 * (if x < 0 then -x else x) + (if decide (x < 0) then 1 else 0) + 1) % 18446744073709551533)) g3.s (ed_op (ed_cb (ea_cons (ed_op (ed_op (ed_op (ed_op (ed_var rfl (.int _)) ed_int (rd_I (C := CMul) (.inr (by decide)))) (ed_op ed_int (ed_cb (ea_cons (ed_var rfl (.int _)) ea_nil) ra_abs) (rd_I (C := CMul) (.inl (by decide)))) rd_I0) (ed_cb (ea_cons (ed_op (ed_var rfl (.int _)) ed_int rd_B0) ea_nil) ra_intB) rd_I0) ed_int rd_I0) ea_nil) ra_intI) ed_int (rd_I (C := fun _ j => 0 < j) (by decide))) fun v G4 H4 g4 hd => ?_)
    cases hd
    refine ⟨G4, g2.trans (g3.trans g4), (g3.trans g4).g, _, _, rfl, ⟨?_, ?_⟩, (g3.trans g4).h _ _ m2⟩
    · exact Int.emod_nonneg _ (by decide)
    · have := Int.emod_lt_of_pos (b * 2862933555777941757 + 2 * (if x < 0 then -x else x) + (if decide (x < 0) then 1 else 0) + 1) (b := 18446744073709551533) (by decide)
      omega
  · rintro σ' G2 H2 g2 s2 ⟨b, c, rfl, ⟨b0, b1⟩, m2⟩
    refine ⟨_, rfl, _, rfl, line_of (by simp), fun p hp => ?_⟩
    have ne : pc ≠ p := fun z => by rw [← z, m2] at hp; cases hp
    have hp0 : H p = none := g2.fresh hp
    have lt : ∀ (l : List Int) (k : Int), l ++ [k] ≠ [] := fun l k => by simp
    refine ⟨p, pc, 0, b, _, ⟨ne, upd_same, (by rw [upd_ne ne]; exact m2), b0, b1, lt _ _, by rw [List.length_append, List.length_map]; simp; omega⟩, q p G _ (reD_ok ne) ?_⟩
    have sm : Same H (reD (upd H2 p (.lst [.ref pc, .int 0, .int b])) p pc) := fun a o e => by
      have n1 : a ≠ p := ne_of_none e hp0
      have n2 : a ≠ pc := ne_of_none e hpc
      unfold reD
      rw [upd_ne n2, upd_ne n1, upd_ne n1]
      exact g2.h a o e
    exact ⟨Same.refl _, sm, hs.trans sm, fun _ e _ => e⟩
end
end Bw
set_option Elab.async false
set_option linter.all false
set_option maxRecDepth 100000
set_option maxHeartbeats 4000000
/-! Loops, comprehensions and calls over values of a kind. -/
namespace Bw
open PySem PySem.Spec PyProof.Rows L2 Bo
def ESK (K : PySem.W.Frag) (wi : TI) (σ : L2.St) (G H : Hp) (S : List PyData → Prop) : Prop := ∀ G1 H1, Gr G H G1 H1 → ∀ R : It → Hp → Prop, (∀ ds J G' H', S ds → Gr G1 H1 G' H' → Yl K J G' ds → R J H') → wi σ H1 R
/-- a list that is there -/
def EQ (K : PySem.W.Frag) (te : TE) (σ : L2.St) (G H : Hp) (ds : List PyData) : Prop := ∀ G1 H1, Gr G H G1 H1 → ∀ Q : VK, (∀ a xs G' H', Gr G1 H1 G' H' → SqL K H' a xs → DpAll K G' xs ds → Q (.ref a) H') → te σ H1 Q
section
variable {K : PySem.W.Frag} {σ : L2.St} {G H Gi Hi G' H' : Hp} {D : Ends} {te ta tb : TE} {t : TA} {tt : TT} {tu tw rest : TS} {g : TG} {wi : TI} {i j : Nat} {p : Addr} {S S1 S2 : PyData → Prop} {d : PyData} {r : R2} {ds : List PyData} {xs : List V}
theorem EQ.mono (h : EQ K te σ G H ds) (g : Gr G H G' H') : EQ K te σ G' H' ds := fun G1 H1 g1 => h G1 H1 (g.trans g1)
theorem EQ.ofL (h : EL K te σ G H ds) : EQ K te σ G H ds := fun G1 H1 g Q q => h G1 H1 g Q fun a xs G' H' g' e d => q a xs G' H' g' (.inl (.of (g'.s _ _ e))) d
theorem EQ.var {a : Addr} (hv : σ[i]? = some (some (.ref a))) (e : SqL K H a xs) (d : DpAll K G xs ds) : EQ K (tVar i) σ G H ds := fun G1 H1 g _ q => ⟨_, hv, q a xs G1 H1 (Gr.refl g.s) (g.h.seq e) (dpa_mono g.g _ _ d)⟩
theorem EQ.muv {a : Addr} (hv : σ[i]? = some (some (.ref a))) (e : Mu G H a (.lst xs)) (d : DpAll K G xs ds) : EQ K (tVar i) σ G H ds := EQ.var hv (.inl (.of e.h)) d
theorem EQ.dat {v : V} (hv : σ[i]? = some (some v)) (d : Dp K G v (.list ds)) (s : Same G H) : EQ K (tVar i) σ G H ds := by
  cases d with
  | @lst a xs _ hs ha => exact EQ.var hv (s.seq hs) ha
theorem ek_pick {E : XK} (hv : σ[i]? = some (some (.ref p))) (hd : Deck H p) (h : EQ K tb σ G H ds) (hne : ds ≠ []) (hl : ds.length < 1073741824) (hS : ∀ d ∈ ds, S d) : EK K (tCall (sp_law_pick K) [] E (tCons (tVar i) (tCons tb tNil))) σ G H S := fun G0 H0 g0 Q q =>
  ⟨_, hv, h G0 H0 g0 _ fun a xs G1 H1 g1 hq hx => ⟨p, a, xs, ds, G1, rfl, hd.same (g0.trans g1).h, g1.s, hq, hx, hne, hl, fun d v G2 H2 hm g2 hd => q d v G2 H2 (hS d hm) (g1.trans g2) hd⟩⟩
theorem ek_mixed {E : XK} {T : Ties} (hv : σ[i]? = some (some (.ref p))) (hd : Deck H p) (h : EQ K tb σ G H (T.map tieD)) (hl : T.length ≤ 1000) : EK K (tCall (sp_law_mixed K) [] E (tCons (tVar i) (tCons tb tNil))) σ G H fun d => ∃ T' : Ties, List.Perm T' T ∧ d = .list (T'.map tieD) := fun G0 H0 g0 Q q =>
  ⟨_, hv, h G0 H0 g0 _ fun a xs G1 H1 g1 hq hx => ⟨p, a, xs, T, G1, rfl, hd.same (g0.trans g1).h, g1.s, hq, hx, hl, fun T' v G2 H2 hm g2 hd => q _ v G2 H2 ⟨T', hm, rfl⟩ (g1.trans g2) hd⟩⟩
theorem ek_tup {Z : List PyData → Prop} (h : EAK K t σ G H Z) (hl : ∀ ds, Z ds → ds.length ≤ 100000 ∧ S (.tuple ds)) : EK K (tTup t) σ G H S := fun G0 H0 g0 _ q =>
  h G0 H0 g0 _ fun ds xs G1 H1 s1 g1 hx => ⟨line_of (by rw [DpAll.len hx]; exact (hl ds s1).1), fun p hp => q _ _ (upd G1 p (.tup xs)) _ (hl ds s1).2 (g1.trans (Gr.new g1.s hp)) (.tup (.of upd_same) (dpa_mono (same_new (g1.s.free hp)) _ _ hx))⟩
theorem q_par10K (gr : Gr Gi Hi G H) (h : EK K te σ G H S) (n : ∀ d v p G' H', S d → Dp K G' v d → Hi p = none → Same G G' → Gr Gi Hi G' H' → Mu G' H' p (.lst []) → rest D ((σ.set i (some v)).set j (some (.ref p))) H') :
    tSeq (tPar i j (tCons te (tCons (tLst tNil) tNil))) rest D σ H :=
  h.now gr.s fun d v G1 H1 hs g1 hv => ⟨Nat.zero_le _, fun p hp => ⟨_, _, rfl, by
    have g2 := Gr.lay (o := .lst []) g1.s hp
    exact n d v p G1 _ hs hv ((gr.trans g1).fresh hp) g1.g ((gr.trans g1).trans g2) (Mu.lay g1.s hp)⟩⟩
theorem s_appK (s : Same G H) (hv : σ[i]? = some (some (.ref p))) (m : Mu G H p (.lst xs)) (hz : xs.length < 100000) (h : EK K te σ G H S)
    (k : ∀ d v G' H', S d → Gr G H G' H' → Dp K G' v d → Mu G' (upd H' p (.lst (xs ++ [v]))) p (.lst (xs ++ [v])) → Same G' (upd H' p (.lst (xs ++ [v]))) → D.nx σ (upd H' p (.lst (xs ++ [v])))) :
    tDrop (tBM K "list" rAppend (tVar i) (tCons te tNil)) D σ H := by
  refine ⟨_, hv, .inl ⟨rfl, xs, .of m.h⟩, h.now s fun d v G' H' hs g hd => ?_⟩
  have m' := m.gr g
  exact ⟨p, xs, v, rfl, rfl, m'.h, line_lt hz, k d v G' H' hs g hd m'.put (same_mut g.s m'.n)⟩
/-- a walker that is made -/
theorem Yl.mono {J : It} (y : Yl K J G ds) (s : Same G G') : Yl K J G' ds := fun i G1 H1 g1 s1 => y i G1 H1 (s.trans g1) s1
theorem s_forK {Z : List PyData → Prop} (s : Same G H) (h : ESK K wi σ G H Z) (n : ∀ ds wi' G' H', Z ds → Gr G H G' H' → ES K wi' σ G' H' ds → tFor wi' g tu D σ H') : tFor wi g tu D σ H :=
  h G H (Gr.refl s) _ fun ds J G' H' hz g' y => n ds (fun _ H R => R J H) G' H' hz g' fun G1 H1 g1 R q => q J G1 H1 (Gr.refl g1.s) (y.mono g1.g)
theorem q_forK {Z : List PyData → Prop} (s : Same G H) (h : ESK K wi σ G H Z) (n : ∀ ds wi' G' H', Z ds → Gr G H G' H' → ES K wi' σ G' H' ds → tSeq (tFor wi' g tu) rest D σ H') : tSeq (tFor wi g tu) rest D σ H := s_forK (D := { D with nx := rest D }) s h n
theorem esk_rng {m : Nat} (h : EK K te σ G H fun d => ∃ r, r < m ∧ d = natD r) (hm : m ≤ 1000000) : ESK K (iRng1 (tCons te tNil)) σ G H fun ds => ∃ r, r < m ∧ ds = (List.range r).map natD := fun G0 H0 g0 R q =>
  h G0 H0 g0 _ fun d v G1 H1 hs g1 hv => by
    obtain ⟨r, hr, rfl⟩ := hs
    cases hv
    refine ⟨(r : Int), rfl, by omega, by omega, q _ _ G1 H1 ⟨r, hr, rfl⟩ g1 ?_⟩
    rw [Int.toNat_natCast, ← intsD_zero]
    exact yl_rng
/-- a comprehension whose items are of a kind -/
theorem ek_lc {α : Type} (xs : List α) (enc : α → PyData) (Z : α → PyData → Prop) {vs : List Nat} (h : ES K wi σ G H (xs.map enc)) (hn : xs.length ≤ 99999)
    (hs : ∀ a ∈ xs, ∀ x G' H', Gr G H G' H' → Dp K G' x (enc a) → ∃ σ2, (∀ Q : L2.St → Hp → Prop, Q σ2 H' → g x (wipe σ vs) H' Q) ∧ wipe σ2 vs = wipe σ vs ∧ EK K te σ2 G' H' (Z a)) :
    EK K (tLc wi g tYes te vs) σ G H fun d => ∃ ds, d = .list ds ∧ ds.length = xs.length ∧ ∀ (i : Nat) a d, xs[i]? = some a → ds[i]? = some d → Z a d := fun G0 H0 g0 Q q => h G0 H0 g0 _ fun J G1 H1 g1 y Dl hDl => by
  refine ⟨fun i m H' => m = xs.length - i ∧ i ≤ xs.length ∧ ∃ G' acc ds, Gr G1 H1 G' H' ∧ Mu G' H' Dl (.lst acc) ∧ DpAll K G' acc ds ∧ ds.length = i ∧ ∀ (k : Nat) a d, xs[k]? = some a → ds[k]? = some d → Z a d,
    ⟨xs.length, by simp, Nat.zero_le _, G1, [], [], Gr.lay g1.s hDl, Mu.lay g1.s hDl, .nil, rfl, fun k a d _ e => by simp at e⟩, ?_⟩
  rintro i m H' ⟨rfl, hi, G2, acc, ds, g2, mu, da, hl, hz⟩
  have yy := y i G2 H' g2.g g2.s
  by_cases hlt : i < xs.length
  · have hx0 : (xs.map enc)[i]? = some (enc xs[i]) := by simp [hlt]
    refine .inr ⟨(yy.1 _ hx0).1, fun H3 => ∃ G3 acc ds, Gr G1 H1 G3 H3 ∧ Mu G3 H3 Dl (.lst acc) ∧ DpAll K G3 acc ds ∧ ds.length = i + 1 ∧ ∀ (k : Nat) a d, xs[k]? = some a → ds[k]? = some d → Z a d,
      fun H3 ⟨G3, ac, dd, a, b, c, e, f⟩ => ⟨xs.length - (i + 1), by omega, rfl, hlt, G3, ac, dd, a, b, c, e, f⟩, fun x H3 yl => ?_⟩
    obtain ⟨G3, g3, hx⟩ := (yy.1 _ hx0).2 x H3 yl
    obtain ⟨σ2, k1, k2, k3⟩ := hs xs[i] (List.getElem_mem hlt) x G3 H3 (((g0.trans g1).trans g2).trans g3) hx
    refine k1 _ ⟨k2, ?_⟩
    refine et_yes (G := G3) (H := H3) G3 H3 (Gr.refl g3.s) _ fun G4 H4 g4 => ?_
    rw [if_pos rfl]
    refine k3 G4 H4 g4 _ fun d u G5 H5 hd g5 hu => ?_
    have g35 := (g3.trans g4).trans g5
    have mu5 := mu.gr g35
    refine ⟨acc, mu5.h, line_lt (by rw [da.len]; omega), G5, acc ++ [u], ds ++ [d], (g2.trans g35).mut hDl mu5.n, mu5.put, (dpa_mono g35.g _ _ da).app (.cons hu .nil), by rw [List.length_append, hl]; rfl, fun k a e hk he => ?_⟩
    by_cases hki : k < i
    · rw [List.getElem?_append_left (by omega)] at he
      exact hz k a e hk he
    · have hke : k = i := by
        have := (List.getElem?_eq_some_iff.mp he).1
        rw [List.length_append] at this
        simp at this
        omega
      subst hke
      rw [List.getElem?_append_right (by omega), hl, Nat.sub_self] at he
      rw [List.getElem?_eq_getElem hlt] at hk
      cases hk
      have : d = e := by simpa using he
      subst this
      exact hd
  · have e : i = xs.length := by omega
    subst e
    refine .inl ⟨yy.2 (by simp), ?_⟩
    exact q _ _ _ H' ⟨ds, rfl, hl, hz⟩ (g1.trans (g2.freeze hDl mu)) (.lst (.of upd_same) (dpa_mono (same_new mu.n) _ _ da))
end
end Bw
set_option Elab.async false
set_option linter.all false
set_option maxRecDepth 100000
set_option maxHeartbeats 4000000
namespace Bw
open PySem PySem.Spec PyProof.Rows L2 Bo
def WebS (d : PyData) : Prop := ∃ (n : Nat) (T : Ties), d = webD n T ∧ Ok8 n T ∧ 2 ≤ n
def TieS (n : Nat) (d : PyData) : Prop := ∃ e : Nat × Nat, d = tieD e ∧ e.1 < e.2 ∧ e.2 < n
theorem web_app {n : Nat} {T : Ties} {e : Nat × Nat} (h : Web n T) (he : e.1 < e.2 ∧ e.2 < n) : Web n (T ++ [e]) := fun x hx => by
  rcases List.mem_append.mp hx with hx | hx
  · exact h x hx
  · rw [List.mem_singleton.mp hx]; exact he
section
variable {P : Program} {w : World} {K : PySem.W.Frag} {mg : Str → Option Value} {base : Heap}
theorem mod_ne {a r n : Nat} (ha : a < n) (hr : r < n - 1) : (a + 1 + r) % n ≠ a ∧ (a + 1 + r) % n < n := by
  refine ⟨?_, Nat.mod_lt _ (by omega)⟩
  by_cases h : a + 1 + r < n
  · rw [Nat.mod_eq_of_lt h]; omega
  · rw [Nat.mod_eq_sub_mod (by omega), Nat.mod_eq_of_lt (by omega)]; omega
-- slots of _law_web: 0 _law_deck_here, 1 _law_most, 2 _law_many, 3 _law_places, 4 _law_ties, 5 _law_place, 6 _law_turn, 7 _law_one, 8 _law_two
abbrev s_law_web : Stmt := top 37
abbrev N_law_web : List Str := ["_law_deck_here", "_law_most", "_law_many", "_law_places", "_law_ties", "_law_place", "_law_turn", "_law_one", "_law_two"]
theorem sc_law_web : FnScope N_law_web ["_law_deck_here", "_law_most", "_law_many"] (defScope s_law_web) := ⟨rfl, rfl, rfl, by decide +kernel, rfl, by decide +kernel, by decide +kernel⟩
abbrev sp_law_web (K : PySem.W.Frag) : Sp := spK (α := Unit) K (fun _ => True) (fun _ => [natD 4, natD 8]) (fun _ => WebS)
theorem c_law_web {f : Addr} {fd : FuncData} (T : Txt mg) (F : Fd K mg "_law_web" s_law_web f fd) (C_law_draw : Cal P w K mg base CX0 "_law_draw" 1 ["_law_deck_here", "_law_many"] (sp_law_draw K)) (C_law_pick : Cal P w K mg base CX0 "_law_pick" 2 ["_law_deck_here", "_law_row"] (sp_law_pick K)) (C_law_mixed : Cal P w K mg base CX0 "_law_mixed" 2 ["_law_deck_here", "_law_row"] (sp_law_mixed K)) :
    Cal P w K mg base CX0 "_law_web" 3 ["_law_deck_here", "_law_most", "_law_many"] (sp_law_web K) := by
  refine ⟨f, fd, ?_, F.mg, F.fn.kp, F.fn.binds fun _ _ _ _ _ _ us hl => match us, hl with | [_, _, _], _ => rfl⟩
  refine F.fn.ok sc_law_web (fun vs H Q E h => ?_) (fun cdv A outer s H vs Q E hr h => ?_)
  · obtain ⟨a, G, p, us, rfl, _, _, _, h, _⟩ := h
    rw [List.length_cons, h.len]; rfl
  obtain ⟨_, G, p, us, rfl, _, hdk, hs, hv, q⟩ := h
  have nd := sc_law_web.nd
  have hu := hr.units
  have hu1 := hu_of hr
  refine ⟨_, (pss_cons (ps_par (i := 3) (j := 4) rfl nd rfl rfl (by decide) rfl rfl (pa_cons (pe_op op_add pe_int (pe_cal C_law_draw (hr.mono (by decide)) rfl (pa_cons (pv 0) (pa_cons (pe_op op_sub (pv 1) pe_int) pa_nil)))) (pa_cons (pe_lst pa_nil) pa_nil)) rfl)
     (pss_cons (ps_for PassesOwn.never rfl (pi_range2 rfl T.range (pa_cons pe_int (pa_cons (pv 3) pa_nil))) (pg_name (i := 5) nd rfl (Or.inl rfl))
     (pss_one (ps_expr (pe_bm PySem.F.plainAttrs_list PySem.F.slot_list_append PySem.F.type_list_append mt_append (pv 4) (pa_cons (pe_tup (pa_cons (pe_cal C_law_draw (hr.mono (by decide)) rfl (pa_cons (pv 0) (pa_cons (pv 5) pa_nil))) (pa_cons (pv 5) pa_nil))) pa_nil)))))
     (pss_cons (ps_for PassesOwn.never rfl (pi_range1 rfl T.range (pa_cons (pe_cal C_law_draw (hr.mono (by decide)) rfl (pa_cons (pv 0) (pa_cons (pe_op op_add (pe_op op_sub (pv 2) (pe_callB call_len_seq rfl T.len (by decide +kernel) (pa_cons (pv 4) pa_nil))) pe_int) pa_nil))) pa_nil)) (pg_name (i := 6) nd rfl (Or.inl rfl))
     (pss_cons (ps_set (i := 7) nd rfl (Or.inl rfl) (pe_cal C_law_draw (hr.mono (by decide)) rfl (pa_cons (pv 0) (pa_cons (pv 3) pa_nil))))
     (pss_cons (ps_set (i := 8) nd rfl (Or.inl rfl) (pe_op op_mod (pe_callTy call_int1 rfl T.int_ (by decide +kernel) (pa_cons (pe_op op_add (pe_op op_add (pv 7) pe_int) (pe_cal C_law_draw (hr.mono (by decide)) rfl (pa_cons (pv 0) (pa_cons (pe_op op_sub (pv 3) pe_int) pa_nil)))) pa_nil)) (pv 3)))
     (pss_one (ps_expr (pe_bm PySem.F.plainAttrs_list PySem.F.slot_list_append PySem.F.type_list_append mt_append (pv 4) (pa_cons (pe_ifExp (pt_cmpR op_eq (pe_cal C_law_draw (hr.mono (by decide)) rfl (pa_cons (pv 0) (pa_cons pe_int pa_nil))) pe_int (nomark _)) (pe_cal C_law_pick (hr.mono (by decide)) rfl (pa_cons (pv 0) (pa_cons (pv 4) pa_nil))) (pe_tup (pa_cons (pe_callB (call_min2 rfl) rfl T.min (by decide +kernel) (pa_cons (pv 7) (pa_cons (pv 8) pa_nil))) (pa_cons (pe_callB (call_max2 rfl) rfl T.max (by decide +kernel) (pa_cons (pv 7) (pa_cons (pv 8) pa_nil))) pa_nil)))) pa_nil)))))))
     (pss_one (ps_ret (pe_tup (pa_cons (pv 3) (pa_cons (pe_callTy call_tuple_of rfl T.tuple_ (by decide +kernel) (pa_cons (pe_cal C_law_mixed (hr.mono (by decide)) rfl (pa_cons (pv 0) (pa_cons (pv 4) pa_nil))) pa_nil)) pa_nil)))))))), ?_⟩
  obtain ⟨v1, v2, rfl, h1, h2⟩ := dpa2 hv
  cases h1; cases h2
  refine q_par10K (K := K) (Gi := G) (Hi := H) (S := fun d => ∃ n : Nat, 2 ≤ n ∧ n ≤ 4 ∧ d = natD n) (Gr.refl hs) (ek_op (S1 := (· = natD 2)) (ek_ed ed_int rfl) (ek_call 3 rfl hdk (ea_cons (ed_is (ed_op (d := natD 4) (ed_var rfl (.int _)) ed_int rd_I0) rfl) ea_nil) (by decide)) ?_) fun d v pt G1 H1 hS hd hpt s1 g1 m1 => ?_
  · rintro _ _ rfl ⟨r, hr, rfl⟩
    exact ⟨_, ⟨2 + r, by omega, by omega, rfl⟩, rd_addN⟩
  obtain ⟨n, hn2, hn4, rfl⟩ := hS
  cases hd
  refine q_forT (K := K) (Gi := G) (Hi := H) (List.range (n - 1)) (fun i => natD (i + 1)) (es_is (es_rng2 (lo := 1) (n := (n : Int)) (ea_cons ed_int (ea_cons (ed_var rfl (.int _)) ea_nil)) (by omega)) ?_) g1 (fun pre σ' G' H' => ∃ (xs : List V) (W : Ties) (a : Option V), σ' = [some (.ref p), some (.int 4), some (.int 8), some (.int (n : Int)), some (.ref pt), a, none, none, none] ∧ Mu G' H' pt (.lst xs) ∧ DpAll K G' xs (W.map tieD) ∧ Web n W ∧ W.length = pre.length)
    (fun G' H' g' => ⟨[], [], _, rfl, m1.gr g', .nil, fun e he => by simp at he, rfl⟩) ?_ ?_
  · unfold intsD
    rw [show ((n : Int) - 1).toNat = n - 1 by omega]
    refine List.map_congr_left fun i hi => ?_
    show PyData.int _ = PyData.int _
    congr 1
    omega
  · rintro pre i post x σ' G2 H2 G3 H3 hsp g2 s2 ⟨xs, W, a, rfl, m2, d2, hw, hl⟩ g3 hx
    cases hx
    have hi : i < n - 1 := List.mem_range.mp (by rw [hsp]; simp)
    have hpre : pre.length < n - 1 := by
      have := congrArg List.length hsp
      rw [List.length_range, List.length_append, List.length_cons] at this
      omega
    have hxl := d2.len
    rw [List.length_map] at hxl
    refine g_nm (s_appK (K := K) (S := TieS n) g3.s rfl (m2.gr g3) (by omega) (ek_tup (eak_cons (ek_call (i + 1) rfl (hdk.same (g2.trans g3).h) (ea_cons (ed_var rfl (.int _)) ea_nil) (by omega)) (eak_cons (S := (· = natD (i + 1))) (ek_ed (ed_var rfl (.int _)) rfl) eak_nil)) ?_) fun d v G4 H4 hS g4 hd m4 s4 => ?_)
    · rintro _ ⟨_, _, rfl, ⟨r, hr, rfl⟩, _, _, rfl, rfl, rfl⟩
      exact ⟨by simp, (r, i + 1), rfl, hr, by show i + 1 < n; omega⟩
    · obtain ⟨e, rfl, he⟩ := hS
      refine ⟨G4, (g2.trans (g3.trans g4)).mut hpt m4.n, (g3.trans g4).g, _, W ++ [e], _, rfl, m4, ?_, web_app hw he, ?_⟩
      · rw [List.map_append]
        exact (dpa_mono (g3.trans g4).g _ _ d2).app (.cons hd .nil)
      · rw [List.length_append, List.length_append, hl]; rfl
  · rintro σ' G2 H2 g2 s2 ⟨xs, W, a, rfl, m2, d2, hw, hl⟩
    rw [List.length_range] at hl
    have hxl := d2.len
    rw [List.length_map] at hxl
    refine q_forK (K := K) g2.s (esk_rng (m := 10 - n) (ek_call (10 - n) rfl (hdk.same g2.h) (ea_cons (ed_is (ed_op (ed_op (d := natD 8) (ed_var rfl (.int _)) (ed_lenM rfl m2.h) rd_I0) ed_int rd_I0) ?_) ea_nil) (by omega)) (by omega)) fun ds wi G3 H3 hZ g3 hes => ?_
    · show PyData.int _ = PyData.int _
      congr 1
      omega
    obtain ⟨r, hr, rfl⟩ := hZ
    have m3 := m2.gr g3
    have d3 := dpa_mono g3.g _ _ d2
    refine q_forT (K := K) (Gi := G) (Hi := H) (List.range r) natD hes (g2.trans g3) (fun pre σ' G' H' => ∃ (xs : List V) (W : Ties) (a b c o : Option V), σ' = [some (.ref p), some (.int 4), some (.int 8), some (.int (n : Int)), some (.ref pt), a, b, c, o] ∧ Mu G' H' pt (.lst xs) ∧ DpAll K G' xs (W.map tieD) ∧ Web n W ∧ W.length = n - 1 + pre.length)
      (fun G' H' g' => ⟨xs, W, _, _, _, _, rfl, m3.gr g', dpa_mono g'.g _ _ d3, hw, hl⟩) ?_ ?_
    · rintro pre i post x σ' G4 H4 G5 H5 hsp g4 s4 ⟨xs, W, a, b, c, o, rfl, m4, d4, hw, hl⟩ g5 hx
      cases hx
      have hpre : pre.length < r := by
        have := congrArg List.length hsp
        rw [List.length_range, List.length_append, List.length_cons] at this
        omega
      have hxl := d4.len
      rw [List.length_map] at hxl
      refine g_nm ?_
      refine q_setK (K := K) g5.s (ek_call n rfl (hdk.same (g4.trans g5).h) (ea_cons (ed_var rfl (.int _)) ea_nil) (by omega)) fun d v G6 H6 hS g6 hd => ?_
      obtain ⟨r1, hr1, rfl⟩ := hS
      cases hd
      refine q_setK (K := K) (S := fun d => ∃ k, k ≠ r1 ∧ k < n ∧ d = natD k) g6.s (ek_op (S1 := fun d => ∃ k, k < n - 1 ∧ d = natD (r1 + 1 + k)) (S2 := (· = natD n)) (ek_cb (eak_cons (S := fun d => ∃ k, k < n - 1 ∧ d = natD (r1 + 1 + k)) (ek_op (S1 := (· = natD (r1 + 1))) (ek_ed (ed_op (d := natD r1) (e := natD 1) (ed_var rfl (.int _)) ed_int rd_addN) rfl) (ek_call (n - 1) rfl (hdk.same ((g4.trans g5).trans g6).h) (ea_cons (ed_is (ed_op (d := natD n) (e := natD 1) (ed_var rfl (.int _)) ed_int (rd_subN (by omega))) rfl) ea_nil) (by omega)) ?_) eak_nil) ?_) (ek_ed (ed_var rfl (.int _)) rfl) ?_) fun d v G7 H7 hS g7 hd => ?_
      · rintro _ _ rfl ⟨k, hk, rfl⟩
        exact ⟨_, ⟨k, hk, rfl⟩, rd_addN⟩
      · rintro _ ⟨_, _, rfl, ⟨k, hk, rfl⟩, rfl⟩
        exact ⟨_, ⟨k, hk, rfl⟩, ra_intI⟩
      · rintro _ _ ⟨k, hk, rfl⟩ rfl
        obtain ⟨h1, h2⟩ := mod_ne hr1 hk
        exact ⟨_, ⟨_, h1, h2, rfl⟩, rd_modN (by omega)⟩
      obtain ⟨r2, hr2, hr2n, rfl⟩ := hS
      cases hd
      have g47 := (g5.trans g6).trans g7
      have m7 := m4.gr g47
      have d7 := dpa_mono g47.g _ _ d4
      have hdk7 := hdk.same (g4.trans g47).h
      refine s_appK (K := K) (S := TieS n) g7.s rfl m7 (by omega) (ek_if (kt_test (ek_op (S1 := fun d => ∃ k, k < 3 ∧ d = natD k) (S2 := (· = natD 0)) (ek_call 3 rfl hdk7 (ea_cons ed_int ea_nil) (by decide)) (ek_ed ed_int rfl) ?_)) (ek_pick rfl hdk7 (EQ.muv rfl m7 d7) ?_ ?_ ?_) (ek_ed (d := tieD (min r1 r2, max r1 r2)) (ed_is (ed_tup (ea_cons (ed_cb (ea_cons (ed_var rfl (.int _)) (ea_cons (ed_var rfl (.int _)) ea_nil)) ra_min2) (ea_cons (ed_cb (ea_cons (ed_var rfl (.int _)) (ea_cons (ed_var rfl (.int _)) ea_nil)) ra_max2) ea_nil)) (by simp)) ?_) ⟨(min r1 r2, max r1 r2), rfl, by dsimp only; omega, by dsimp only; omega⟩)) fun d v G8 H8 hS g8 hd m8 s8 => ?_
      · rintro _ _ ⟨k, hk, rfl⟩ rfl
        exact ⟨_, ⟨_, rfl⟩, rd_eqN⟩
      · intro z
        have := congrArg List.length z
        rw [List.length_map] at this
        simp at this
        rw [this] at hl
        simp at hl
        omega
      · rw [List.length_map]; omega
      · intro d hd
        obtain ⟨e, he, rfl⟩ := List.mem_map.mp hd
        exact ⟨e, rfl, hw e he⟩
      · show PyData.tuple [.int _, .int _] = PyData.tuple [.int _, .int _]
        congr 2
        · congr 1; dsimp only; split <;> omega
        · congr 2; dsimp only; split <;> omega
      · obtain ⟨e, rfl, he⟩ := hS
        refine ⟨G8, (g4.trans (g47.trans g8)).mut hpt m8.n, (g47.trans g8).g, _, W ++ [e], _, _, _, _, rfl, m8, ?_, web_app hw he, ?_⟩
        · rw [List.map_append]
          exact (dpa_mono g8.g _ _ d7).app (.cons hd .nil)
        · rw [List.length_append, List.length_append, hl]; simp; omega
    · rintro σ' G4 H4 g4 s4 ⟨xs, W, a, b, c, o, rfl, m4, d4, hw, hl⟩
      rw [List.length_range] at hl
      refine s_retK (K := K) (S := WebS) g4.s (ek_tup (eak_cons (S := (· = natD n)) (ek_ed (ed_var rfl (.int _)) rfl) (eak_cons (S := fun d => ∃ T', List.Perm T' W ∧ d = .tuple (T'.map tieD)) (ek_cb (eak_cons (ek_mixed rfl (hdk.same g4.h) (EQ.muv rfl m4 d4) (by omega)) eak_nil) ?_) eak_nil)) ?_) fun d v G5 H5 hS g5 hd => q d v G5 H5 hS (g4.trans g5) hd
      · rintro _ ⟨_, _, rfl, ⟨T', hp, rfl⟩, rfl⟩
        exact ⟨_, ⟨T', hp, rfl⟩, ra_tupL⟩
      · rintro _ ⟨_, _, rfl, rfl, _, _, rfl, ⟨T', hp, rfl⟩, rfl⟩
        have hlen := hp.length_eq
        exact ⟨by simp, n, T', rfl, ⟨⟨fun e he => hw e (hp.mem_iff.mp he), by omega, by omega, by omega⟩, hn4, by omega⟩, hn2⟩
end
end Bw
set_option Elab.async false
set_option linter.all false
set_option maxRecDepth 100000
set_option maxHeartbeats 4000000
namespace Bw
open PySem PySem.Spec PyProof.Rows L2 Bo
section
variable {K : PySem.W.Frag} {σ : L2.St} {G H Gi Hi : Hp} {D : Ends} {te ti tb ta : TE} {rest : TS} {i j : Nat} {p pc : Addr} {xs ys : List V} {d : PyData} {v : V} {ds es : List PyData}
theorem ed_tie (x y : Nat) {a b : Int} (ha : a = (x : Int)) (hb : b = (y : Int)) : ED K (tTup (tCons (tC (.int a)) (tCons (tC (.int b)) tNil))) σ G H (tieD (x, y)) := by
  subst ha; subst hb
  exact ed_tup (ea_cons ed_int (ea_cons ed_int ea_nil)) (by simp)
theorem rd_repT {k : Nat} (h1 : 2 ≤ k) (h2 : k ≤ 1000) (h3 : ds ≠ []) (h4 : ds.length ≤ 1000) : RD K (rRepT K) (.tuple ds) (natD k) (.tuple (List.replicate k ds).flatten) := fun x y G H s hx hy Q q => by
  cases hy
  cases hx with
  | @tup a xs _ hs ha =>
    refine ⟨a, (k : Int), xs, rfl, rfl, sqT_mono s hs, fun z => h3 (by have := ha.len; rw [z] at this; exact List.length_eq_zero_iff.mp this.symm), by omega, by omega, by rw [ha.len]; exact h4, fun p hp => ?_⟩
    rw [Int.toNat_natCast]
    exact q _ _ _ (Gr.new s hp) (.tup (.of upd_same) (dpa_mono (same_new (s.free hp)) _ _ (dpa_rep ha k)))
theorem q_parLL (gr : Gr Gi Hi G H) (h1 : EL K ta σ G H ds) (h2 : EL K tb σ G H es)
    (n : ∀ a xs b ys G' H', Gr Gi Hi G' H' → Same G G' → G' a = some (.lst xs) → DpAll K G' xs ds → G' b = some (.lst ys) → DpAll K G' ys es → rest D ((σ.set i (some (.ref a))).set j (some (.ref b))) H') :
    tSeq (tPar i j (tCons ta (tCons tb tNil))) rest D σ H :=
  h1 G H (Gr.refl gr.s) _ fun a xs G1 H1 g1 e1 d1 => h2 G1 H1 g1 _ fun b ys G2 H2 g2 e2 d2 => ⟨_, _, rfl, n a xs b ys G2 H2 (gr.trans (g1.trans g2)) (g1.trans g2).g (g2.g _ _ e1) (dpa_mono g2.g _ _ d1) e2 d2⟩
theorem s_setL (s : Same G H) (h : EL K te σ G H ds) (n : ∀ a xs G' H', Gr G H G' H' → G' a = some (.lst xs) → DpAll K G' xs ds → D.nx (σ.set i (some (.ref a))) H') : tAsg te (gName i) D σ H := h G H (Gr.refl s) _ n
theorem ek_max {S : PyData → Prop} {ns : List Nat} (h : ED K te σ G H (natsL ns)) (hne : ns ≠ []) (hS : ∀ m ∈ ns, (∀ y ∈ ns, y ≤ m) → S (natD m)) : EK K (tCB (rMax K) (tCons te tNil)) σ G H S := fun G0 H0 g0 Q q =>
  h G0 H0 g0 _ fun v G1 H1 g1 hv => by
    rw [natsL, natD_ints] at hv
    cases hv with
    | @lst a xs _ hs ha =>
      have e := ha.ints
      subst e
      refine ⟨a, _, rfl, g1.s.seq hs, by rw [List.length_map]; exact List.length_pos_iff.mpr hne, fun m hm hy => ?_⟩
      obtain ⟨k, hk, rfl⟩ := List.mem_map.mp hm
      exact q (natD k) _ G1 H1 (hS k hk fun y hy' => by have := hy (y : Int) (List.mem_map.mpr ⟨y, hy', rfl⟩); omega) g1 (.int _)
/-- what stands behind a statement, told once -/
theorem seq_via {t : TS} {σ : L2.St} {H : Hp} (Pc : (L2.St → Hp → Prop) → Prop) (h1 : ∀ R, Pc R → t { D with nx := R } σ H) (h2 : Pc (rest D)) : tSeq t rest D σ H := h1 _ h2
/-- a list with drawn items joined to one that is there -/
theorem elk_cat {Z : List PyData → Prop} {tk : TA} {Q : VK} (s : Same G H) (h1 : EL K ta σ G H ds) (h2 : EAK K tk σ G H Z) (hl : ∀ es, Z es → ds.length + es.length ≤ 100000)
    (q : ∀ es a xs G' H', Z es → Gr G H G' H' → G' a = some (.lst xs) → DpAll K G' xs (ds ++ es) → Q (.ref a) H') : tOp rCat ta (tLst tk) σ H Q :=
  h1 G H (Gr.refl s) _ fun a xs G1 H1 g1 e1 d1 => h2 G1 H1 g1 _ fun es ys G2 H2 hz g2 d2 => by
    have hl := hl es hz
    refine ⟨line_of (by rw [d2.len]; omega), fun b hb => ?_⟩
    have g3 := Gr.new (o := .lst ys) g2.s hb
    have g23 := g2.trans g3
    refine ⟨a, b, xs, ys, rfl, rfl, g23.s _ _ (g23.g _ _ e1), upd_same, line_of (by rw [d1.len, d2.len]; exact hl), fun p hp => ?_⟩
    exact q es p _ _ _ hz ((g1.trans g23).trans (Gr.new g3.s hp)) upd_same (dpa_mono (same_new (g3.s.free hp)) _ _ ((dpa_mono g23.g _ _ d1).app (dpa_mono g3.g _ _ d2)))
end
section
variable {P : Program} {w : World} {K : PySem.W.Frag} {mg : Str → Option Value} {base : Heap}
abbrev three : Ties := [(0, 1), (0, 2), (1, 2)]
abbrev four : Ties := [(0, 1), (0, 2), (0, 3), (1, 2), (1, 3), (2, 3)]
-- slots of _law_thick: 0 _law_deck_here, 1 _law_three, 2 _law_four, 3 _law_way, 4 _law_ties, 5 _law_tie
abbrev s_law_thick : Stmt := top 50
abbrev N_law_thick : List Str := ["_law_deck_here", "_law_three", "_law_four", "_law_way", "_law_ties", "_law_tie"]
theorem sc_law_thick : FnScope N_law_thick ["_law_deck_here"] (defScope s_law_thick) := ⟨rfl, rfl, rfl, by decide +kernel, rfl, by decide +kernel, by decide +kernel⟩
abbrev sp_law_thick (K : PySem.W.Frag) : Sp := spK (α := Unit) K (fun _ => True) (fun _ => []) (fun _ => WebS)
theorem c_law_thick {f : Addr} {fd : FuncData} (T : Txt mg) (F : Fd K mg "_law_thick" s_law_thick f fd) (C_law_draw : Cal P w K mg base CX0 "_law_draw" 1 ["_law_deck_here", "_law_many"] (sp_law_draw K)) (C_law_pick : Cal P w K mg base CX0 "_law_pick" 2 ["_law_deck_here", "_law_row"] (sp_law_pick K)) (C_law_mixed : Cal P w K mg base CX0 "_law_mixed" 2 ["_law_deck_here", "_law_row"] (sp_law_mixed K)) (C_law_web : Cal P w K mg base CX0 "_law_web" 3 ["_law_deck_here", "_law_most", "_law_many"] (sp_law_web K)) :
    Cal P w K mg base CX0 "_law_thick" 4 ["_law_deck_here"] (sp_law_thick K) := by
  refine ⟨f, fd, ?_, F.mg, F.fn.kp, F.fn.binds fun _ _ _ _ _ _ us hl => match us, hl with | [_], _ => rfl⟩
  refine F.fn.ok sc_law_thick (fun vs H Q E h => ?_) (fun cdv A outer s H vs Q E hr h => ?_)
  · obtain ⟨a, G, p, us, rfl, _, _, _, h, _⟩ := h
    rw [List.length_cons, h.len]; rfl
  obtain ⟨_, G, p, us, rfl, _, hdk, hs, hv, q⟩ := h
  have nd := sc_law_thick.nd
  have hu := hr.units
  have hu1 := hu_of hr
  refine ⟨_, (pss_cons (ps_par (i := 1) (j := 2) rfl nd rfl rfl (by decide) rfl rfl (pa_cons (pe_lst (pa_cons (pe_tup (pa_cons pe_int (pa_cons pe_int pa_nil))) (pa_cons (pe_tup (pa_cons pe_int (pa_cons pe_int pa_nil))) (pa_cons (pe_tup (pa_cons pe_int (pa_cons pe_int pa_nil))) pa_nil)))) (pa_cons (pe_lst (pa_cons (pe_tup (pa_cons pe_int (pa_cons pe_int pa_nil))) (pa_cons (pe_tup (pa_cons pe_int (pa_cons pe_int pa_nil))) (pa_cons (pe_tup (pa_cons pe_int (pa_cons pe_int pa_nil))) (pa_cons (pe_tup (pa_cons pe_int (pa_cons pe_int pa_nil))) (pa_cons (pe_tup (pa_cons pe_int (pa_cons pe_int pa_nil))) (pa_cons (pe_tup (pa_cons pe_int (pa_cons pe_int pa_nil))) pa_nil))))))) pa_nil)) rfl)
     (pss_cons (ps_set (i := 3) nd rfl (Or.inl rfl) (pe_cal C_law_draw (hr.mono (by decide)) rfl (pa_cons (pv 0) (pa_cons pe_int pa_nil))))
     (pss_cons (ps_if (pt_cmpR op_eq (pv 3) pe_int (nomark _))
     (pss_one (ps_ret (pe_tup (pa_cons pe_int (pa_cons (pe_op op_repT (pe_tup (pa_cons (pe_tup (pa_cons pe_int (pa_cons pe_int pa_nil))) pa_nil)) (pe_op op_add pe_int (pe_cal C_law_draw (hr.mono (by decide)) rfl (pa_cons (pv 0) (pa_cons pe_int pa_nil))))) pa_nil)))))
     pss_nil)
     (pss_cons (ps_if (pt_cmpR op_eq (pv 3) pe_int (nomark _))
     (pss_one (ps_set (i := 4) nd rfl (Or.inl rfl) (pe_op op_rep (pv 1) pe_int)))
     (pss_one (ps_if (pt_cmpR op_eq (pv 3) pe_int (nomark _))
     (pss_one (ps_set (i := 4) nd rfl (Or.inl rfl) (pe_op op_cat (pv 1) (pe_lst (pa_cons (pe_tup (pa_cons pe_int (pa_cons pe_int pa_nil))) (pa_cons (pe_tup (pa_cons pe_int (pa_cons pe_int pa_nil))) (pa_cons (pe_tup (pa_cons pe_int (pa_cons pe_int pa_nil))) (pa_cons (pe_tup (pa_cons pe_int (pa_cons pe_int pa_nil))) pa_nil))))))))
     (pss_one (ps_if (pt_cmpR op_eq (pv 3) pe_int (nomark _))
     (pss_one (ps_set (i := 4) nd rfl (Or.inl rfl) (pv 2)))
     (pss_one (ps_if (pt_cmpR op_eq (pv 3) pe_int (nomark _))
     (pss_one (ps_set (i := 4) nd rfl (Or.inl rfl) (pe_op op_rep (pe_lst (pa_cons (pe_tup (pa_cons pe_int (pa_cons pe_int pa_nil))) (pa_cons (pe_tup (pa_cons pe_int (pa_cons pe_int pa_nil))) (pa_cons (pe_tup (pa_cons pe_int (pa_cons pe_int pa_nil))) (pa_cons (pe_tup (pa_cons pe_int (pa_cons pe_int pa_nil))) pa_nil))))) pe_int)))
     (pss_one (ps_if (pt_cmpR op_eq (pv 3) pe_int (nomark _))
     (pss_one (ps_set (i := 4) nd rfl (Or.inl rfl) (pe_op op_cat (pv 2) (pe_lst (pa_cons (pe_cal C_law_pick (hr.mono (by decide)) rfl (pa_cons (pv 0) (pa_cons (pv 2) pa_nil))) (pa_cons (pe_cal C_law_pick (hr.mono (by decide)) rfl (pa_cons (pv 0) (pa_cons (pv 2) pa_nil))) pa_nil))))))
     (pss_one (ps_ret (pe_cal C_law_web (hr.mono (by decide)) rfl (pa_cons (pv 0) (pa_cons pe_int (pa_cons pe_int pa_nil)))))))))))))))
     (pss_one (ps_ret (pe_tup (pa_cons (pe_op op_add pe_int (pe_callB (cr_max rfl) rfl T.max (by decide +kernel) (pa_cons (pe_lc (own := [("_law_tie", 5)]) (g := gName 5) (tt := tYes) (te := tOp (rIxT K) (tVar 5) (tC (.int 1))) rfl nd (pi_list (pv 4)) (blkOk_by (N := N_law_thick) (sc := defScope s_law_thick) (by decide +kernel)) (fun _ _ _ _ _ => (pg_name (i := 5) nd rfl (Or.inl rfl))) (fun _ _ _ _ _ => pts_nil) (fun _ _ _ _ _ => (pe_ix ix_tup (pv 5) pe_int (fun _ _ => rfl)))) pa_nil))) (pa_cons (pe_callTy call_tuple_of rfl T.tuple_ (by decide +kernel) (pa_cons (pe_cal C_law_mixed (hr.mono (by decide)) rfl (pa_cons (pv 0) (pa_cons (pv 4) pa_nil))) pa_nil)) pa_nil))))))))), ?_⟩
  cases hv
  refine q_parLL (K := K) (Gi := G) (Hi := H) (ds := three.map tieD) (es := four.map tieD) (Gr.refl hs) (el_lst (ea_cons (ed_tie 0 1 rfl rfl) (ea_cons (ed_tie 0 2 rfl rfl) (ea_cons (ed_tie 1 2 rfl rfl) ea_nil))) (by simp))
    (el_lst (ea_cons (ed_tie 0 1 rfl rfl) (ea_cons (ed_tie 0 2 rfl rfl) (ea_cons (ed_tie 0 3 rfl rfl) (ea_cons (ed_tie 1 2 rfl rfl) (ea_cons (ed_tie 1 3 rfl rfl) (ea_cons (ed_tie 2 3 rfl rfl) ea_nil)))))) (by simp)) fun a xs b ys G1 H1 g1 _ e1 d1 e2 d2 => ?_
  refine q_setK (K := K) g1.s (ek_call 7 rfl (hdk.same g1.h) (ea_cons ed_int ea_nil) (by decide)) fun d v G2 H2 hS g2 hd => ?_
  obtain ⟨r, hr, rfl⟩ := hS
  cases hd
  have g02 := g1.trans g2
  have tst : ∀ {G' H' : Hp} (k : Nat) {i : Int}, i = (k : Int) → ET (tTest (tOp rEq (tVar 3) (tC (.int i)))) [some (.ref p), some (.ref a), some (.ref b), some (.int (r : Int)), none, none] G' H' (decide (r = k)) := fun k _ e => by
    subst e
    exact et_test (K := K) (ed_op (d := natD r) (e := natD k) (ed_var rfl (.int _)) ed_int rd_eqN)
  refine q_if1 g2.s (tst 0 rfl) (fun c G3 H3 g3 => ?_) (fun c G3 H3 g3 => ?_)
  · refine s_retK (K := K) (S := WebS) g3.s (ek_tup (eak_cons (S := (· = natD 2)) (ek_ed ed_int rfl) (eak_cons (S := fun d => ∃ k, 3 ≤ k ∧ k ≤ 7 ∧ d = .tuple ((List.replicate k (0, 1)).map tieD)) (ek_op (S1 := (· = .tuple [tieD (0, 1)])) (S2 := fun d => ∃ k, 3 ≤ k ∧ k ≤ 7 ∧ d = natD k) (ek_ed (ed_tup (ea_cons (ed_tie 0 1 rfl rfl) ea_nil) (by simp)) rfl)
      (ek_op (S1 := (· = natD 3)) (ek_ed ed_int rfl) (ek_call 5 rfl (hdk.same (g02.trans g3).h) (ea_cons ed_int ea_nil) (by decide)) ?_) ?_) eak_nil)) ?_) fun d v G5 H5 hS g5 hd => q d v G5 H5 hS ((g02.trans g3).trans g5) hd
    · rintro _ _ rfl ⟨k, hk, rfl⟩
      exact ⟨_, ⟨3 + k, by omega, by omega, rfl⟩, rd_addN⟩
    · rintro _ _ rfl ⟨k, hk, hk2, rfl⟩
      refine ⟨_, ⟨k, hk, hk2, ?_⟩, rd_repT (by omega) (by omega) (by simp) (by simp)⟩
      rw [List.map_replicate]
      congr 1
      clear hk hk2
      induction k with
      | zero => rfl
      | succ k ih => rw [List.replicate_succ, List.replicate_succ, List.flatten_cons, ih]; rfl
    · rintro _ ⟨_, _, rfl, rfl, _, _, rfl, ⟨k, hk, hk2, rfl⟩, rfl⟩
      refine ⟨by simp, 2, List.replicate k (0, 1), rfl, ⟨⟨fun e he => ?_, by omega, by omega, by rw [List.length_replicate]; omega⟩, by omega, by rw [List.length_replicate]; omega⟩, by omega⟩
      rw [List.eq_of_mem_replicate he]
      decide
  · have g03 := g02.trans g3
    have e1 := (g2.trans g3).g _ _ e1
    have d1 := dpa_mono (g2.trans g3).g _ _ d1
    have e2 := (g2.trans g3).g _ _ e2
    have d2 := dpa_mono (g2.trans g3).g _ _ d2
    have hdk3 := hdk.same g03.h
    refine seq_via (fun R => ∀ (c : Addr) (zs : List V) (W : Ties) (G' H' : Hp), Gr G3 H3 G' H' → G' c = some (.lst zs) → DpAll K G' zs (W.map tieD) → W ≠ [] → W.length ≤ 8 → Web 4 W → R [some (.ref p), some (.ref a), some (.ref b), some (.int (r : Int)), some (.ref c), none] H') (fun R fin => ?_) (fun c zs W G4 H4 g4 e4 d4 hne hl hw => ?_)
    · refine s_if g3.s (tst 1 rfl) (fun c G4 H4 g4 => ?_) (fun c G4 H4 g4 => ?_)
      · exact s_setL (K := K) g4.s (el_rep (k := 2) (el_var rfl (g4.g _ _ e1) (dpa_mono g4.g _ _ d1)) ed_int (by decide) (by simp)) fun c zs G5 H5 g5 e d => fin c zs (three ++ three) G5 H5 (g4.trans g5) e d (by simp) (by simp) (by unfold Web; decide)
      refine s_if g4.s (tst 2 rfl) (fun c G5 H5 g5 => ?_) (fun c G5 H5 g5 => ?_)
      · have g45 := g4.trans g5
        exact s_setL (K := K) g5.s (el_cat (el_var rfl (g45.g _ _ e1) (dpa_mono g45.g _ _ d1)) (el_lst (ea_cons (ed_tie 0 1 rfl rfl) (ea_cons (ed_tie 0 1 rfl rfl) (ea_cons (ed_tie 1 2 rfl rfl) (ea_cons (ed_tie 1 2 rfl rfl) ea_nil)))) (by simp)) (by simp)) fun c zs G6 H6 g6 e d => fin c zs (three ++ [(0, 1), (0, 1), (1, 2), (1, 2)]) G6 H6 (g45.trans g6) e (by rw [List.map_append]; exact d) (by simp) (by simp) (by unfold Web; decide)
      refine s_if g5.s (tst 3 rfl) (fun c G6 H6 g6 => ?_) (fun c G6 H6 g6 => ?_)
      · have g46 := (g4.trans g5).trans g6
        exact s_setL (K := K) g6.s (el_var rfl (g46.g _ _ e2) (dpa_mono g46.g _ _ d2)) fun c zs G7 H7 g7 e d => fin c zs four G7 H7 (g46.trans g7) e d (by simp) (by simp) (by unfold Web; decide)
      refine s_if g6.s (tst 4 rfl) (fun c G7 H7 g7 => ?_) (fun c G7 H7 g7 => ?_)
      · have g47 := ((g4.trans g5).trans g6).trans g7
        exact s_setL (K := K) g7.s (el_rep (k := 2) (el_lst (ea_cons (ed_tie 0 1 rfl rfl) (ea_cons (ed_tie 1 2 rfl rfl) (ea_cons (ed_tie 2 3 rfl rfl) (ea_cons (ed_tie 0 3 rfl rfl) ea_nil)))) (by simp)) ed_int (by decide) (by simp)) fun c zs G8 H8 g8 e d => fin c zs ([(0, 1), (1, 2), (2, 3), (0, 3)] ++ [(0, 1), (1, 2), (2, 3), (0, 3)]) G8 H8 (g47.trans g8) e (by rw [List.map_append]; exact d) (by simp) (by simp) (by unfold Web; decide)
      refine s_if g7.s (tst 5 rfl) (fun c G8 H8 g8 => ?_) (fun c G8 H8 g8 => ?_)
      · have g48 := (((g4.trans g5).trans g6).trans g7).trans g8
        have four_ne : four.map tieD ≠ [] := by simp
        have hS4 : ∀ d ∈ four.map tieD, TieS 4 d := fun d hd => by
          obtain ⟨e, he, rfl⟩ := List.mem_map.mp hd
          exact ⟨e, rfl, (show Web 4 four by unfold Web; decide) e he⟩
        have pk : EK K (tCall (sp_law_pick K) [] E0 (tCons (tVar 0) (tCons (tVar 2) tNil))) [some (.ref p), some (.ref a), some (.ref b), some (.int (r : Int)), none, none] G8 H8 (TieS 4) := ek_pick rfl (hdk3.same g48.h) (EQ.ofL (el_var rfl (g48.g _ _ e2) (dpa_mono g48.g _ _ d2))) four_ne (by simp) hS4
        refine elk_cat (K := K) g8.s (el_var rfl (g48.g _ _ e2) (dpa_mono g48.g _ _ d2)) (eak_cons pk (eak_cons pk eak_nil)) ?_ ?_
        · rintro _ ⟨_, _, rfl, _, _, _, rfl, _, rfl⟩
          simp
        · rintro _ c zs G9 H9 ⟨_, _, rfl, ⟨x, rfl, hx⟩, _, _, rfl, ⟨y, rfl, hy⟩, rfl⟩ g9 e d
          exact fin c zs (four ++ [x, y]) G9 H9 (g48.trans g9) e d (by simp) (by simp) fun z hz => by
            rcases List.mem_append.mp hz with hz | hz
            · exact (show Web 4 four by unfold Web; decide) z hz
            · rcases List.mem_cons.mp hz with rfl | hz
              · exact hx
              · rw [List.mem_singleton.mp hz]; exact hy
      · have g48 := (((g4.trans g5).trans g6).trans g7).trans g8
        exact s_retK (K := K) (S := WebS) g8.s (ek_call () rfl (hdk3.same g48.h) (ea_cons ed_int (ea_cons ed_int ea_nil)) trivial) fun d v G9 H9 hS g9 hd => q d v G9 H9 hS ((g03.trans g48).trans g9) hd
    · have hdk4 := hdk3.same g4.h
      have eq4 : EQ K (tVar 4) [some (.ref p), some (.ref a), some (.ref b), some (.int (r : Int)), some (.ref c), none] G4 H4 (W.map tieD) := EQ.ofL (el_var rfl e4 d4)
      have ed4 : ED K (tVar 4) [some (.ref p), some (.ref a), some (.ref b), some (.int (r : Int)), some (.ref c), none] G4 H4 (.list (W.map tieD)) := (el_var rfl e4 d4).ed
      refine s_retK (K := K) (S := WebS) g4.s (ek_tup (eak_cons (S := fun d => ∃ m, m ∈ W.map (·.2) ∧ (∀ y ∈ W.map (·.2), y ≤ m) ∧ d = natD (1 + m)) (ek_op (S1 := (· = natD 1)) (S2 := fun d => ∃ m, m ∈ W.map (·.2) ∧ (∀ y ∈ W.map (·.2), y ≤ m) ∧ d = natD m) (ek_ed ed_int rfl) (ek_max (ns := W.map (·.2)) (ed_is (ed_lcA W tieD (fun e => natD e.2) (es_list ed4) (by omega) ?_) ?_) ?_ ?_) ?_) (eak_cons (S := fun d => ∃ T' : Ties, List.Perm T' W ∧ d = .tuple (T'.map tieD)) (ek_cb (eak_cons (ek_mixed rfl hdk4 eq4 (by omega)) eak_nil) ?_) eak_nil)) ?_) fun d v G5 H5 hS g5 hd => q d v G5 H5 hS ((g03.trans g4).trans g5) hd
      · intro e he x G' H' g' hx
        exact ⟨_, fun Q q => q, rfl, ed_op (ed_var rfl hx) ed_int (rd_ixT (j := 1) rfl rfl)⟩
      · rw [natsL, List.map_map]; rfl
      · simpa using hne
      · exact fun m hm hy => ⟨m, hm, hy, rfl⟩
      · rintro _ _ rfl ⟨m, hm, hy, rfl⟩
        exact ⟨_, ⟨m, hm, hy, rfl⟩, rd_addN⟩
      · rintro _ ⟨_, _, rfl, ⟨T', hp, rfl⟩, rfl⟩
        exact ⟨_, ⟨T', hp, rfl⟩, ra_tupL⟩
      · rintro _ ⟨_, _, rfl, ⟨m, hm, hy, rfl⟩, _, _, rfl, ⟨T', hp, rfl⟩, rfl⟩
        have hlen := hp.length_eq
        obtain ⟨e, he, rfl⟩ := List.mem_map.mp hm
        have h4 := hw e he
        refine ⟨by simp, 1 + e.2, T', rfl, ⟨⟨fun x hx => ?_, by omega, by omega, by omega⟩, by omega, by omega⟩, by omega⟩
        have hx' := hp.mem_iff.mp hx
        have h1 := hw x hx'
        have h2 := hy x.2 (List.mem_map.mpr ⟨x, hx', rfl⟩)
        omega
end
end Bw
set_option Elab.async false
set_option linter.all false
set_option maxRecDepth 100000
set_option maxHeartbeats 4000000
namespace Bw
open PySem PySem.Spec PyProof.Rows L2 Bo
theorem ints_of (p : Int → Prop) : ∀ {ds : List PyData}, (∀ d ∈ ds, ∃ x : Int, p x ∧ d = .int x) → ∃ ns : List Int, ds = ns.map PyData.int ∧ ∀ x ∈ ns, p x
  | [], _ => ⟨[], rfl, fun _ h => by simp at h⟩
  | d :: ds, h => by
    obtain ⟨x, hx, rfl⟩ := h _ (List.mem_cons_self ..)
    obtain ⟨ns, rfl, hn⟩ := ints_of p (ds := ds) fun d hd => h d (List.mem_cons_of_mem _ hd)
    exact ⟨x :: ns, rfl, fun y hy => by
      rcases List.mem_cons.mp hy with rfl | hy
      · exact hx
      · exact hn y hy⟩
def IntsS (m : Nat) (p : Int → Prop) (ns : List Int) : Prop := ns.length = m ∧ ∀ x ∈ ns, p x
section
variable {K : PySem.W.Frag} {σ : L2.St} {G H : Hp} {te : TE} {g : TG} {wi : TI}
theorem ru_neg {i : Int} : RU K (rU fun i => .int (-i)) (.int i) (.int (-i)) := fun x G H s hx Q q => by
  cases hx
  exact ⟨i, rfl, q _ G H (Gr.refl s) (.int _)⟩
theorem ek_ints {α : Type} {xs : List α} {p : α → Int → Prop} {m : Nat} (pp : Int → Prop) (hl : xs.length = m) (hp : ∀ a x, a ∈ xs → p a x → pp x) (h : EK K te σ G H fun d => ∃ ds, d = .list ds ∧ ds.length = xs.length ∧ ∀ (i : Nat) a d, xs[i]? = some a → ds[i]? = some d → ∃ x : Int, p a x ∧ d = .int x) :
    EK K te σ G H fun d => ∃ ns, IntsS m pp ns ∧ d = .list (ns.map .int) := h.imp fun d hd => by
  obtain ⟨ds, rfl, hlen, hz⟩ := hd
  obtain ⟨ns, rfl, hn⟩ := ints_of pp (ds := ds) fun d hd => by
    obtain ⟨i, hi, rfl⟩ := List.mem_iff_getElem.mp hd
    obtain ⟨x, hx, e⟩ := hz i xs[i] ds[i] (List.getElem?_eq_getElem (by omega)) (List.getElem?_eq_getElem hi)
    exact ⟨x, hp _ x (List.getElem_mem _) hx, e⟩
  rw [List.length_map] at hlen
  exact ⟨ns, ⟨by omega, hn⟩, rfl⟩
theorem ek_intsT {m : Nat} {pp : Int → Prop} (h : EK K te σ G H fun d => ∃ ns, IntsS m pp ns ∧ d = .list (ns.map .int)) : EK K (tCB (rTupS K) (tCons te tNil)) σ G H fun d => ∃ ns, IntsS m pp ns ∧ d = intsT ns :=
  ek_cb (eak_cons h eak_nil) fun ds hd => by
    obtain ⟨_, _, rfl, ⟨ns, hn, rfl⟩, rfl⟩ := hd
    exact ⟨_, ⟨ns, hn, rfl⟩, ra_tupL⟩
end
section
variable {P : Program} {w : World} {K : PySem.W.Frag} {mg : Str → Option Value} {base : Heap}
def PairS (m : Nat) (d : PyData) : Prop := ∃ one other : List Int, IntsS m (fun x => -(10 ^ 12) ≤ x ∧ x ≤ 10 ^ 12) one ∧ IntsS m (fun _ => True) other ∧ d = .tuple [intsT one, intsT other]
-- slots of _law_pair: 0 _law_deck_here*, 1 _law_many, 2 _law_one, 3 _law_tie, 4 _law_sign*, 5 _law_own, 6 _law_other
abbrev s_law_pair : Stmt := top 52
abbrev N_law_pair : List Str := ["_law_deck_here", "_law_many", "_law_one", "_law_tie", "_law_sign", "_law_own", "_law_other"]
theorem sc_law_pair : FnScope N_law_pair ["_law_deck_here", "_law_many"] (defScope s_law_pair) := ⟨rfl, rfl, rfl, by decide +kernel, rfl, by decide +kernel, by decide +kernel⟩
abbrev sp_law_pair (K : PySem.W.Frag) : Sp := spK (α := Nat) K (fun m => m ≤ 1000) (fun m => [natD m]) PairS
theorem c_law_pair {f : Addr} {fd : FuncData} (T : Txt mg) (F : Fd K mg "_law_pair" s_law_pair f fd) (C_law_draw : Cal P w K mg base CX0 "_law_draw" 1 ["_law_deck_here", "_law_many"] (sp_law_draw K)) (C_law_pick : Cal P w K mg base CX0 "_law_pick" 2 ["_law_deck_here", "_law_row"] (sp_law_pick K)) :
    Cal P w K mg base CX0 "_law_pair" 3 ["_law_deck_here", "_law_many"] (sp_law_pair K) := by
  refine ⟨f, fd, ?_, F.mg, F.fn.kp, F.fn.binds fun _ _ _ _ _ _ us hl => match us, hl with | [_, _], _ => rfl⟩
  refine F.fn.ok sc_law_pair (fun vs H Q E h => ?_) (fun cdv A outer s H vs Q E hr h => ?_)
  · obtain ⟨a, G, p, us, rfl, _, _, _, h, _⟩ := h
    rw [List.length_cons, h.len]; rfl
  obtain ⟨m, G, p, us, rfl, hm, hdk, hs, hv, q⟩ := h
  have nd := sc_law_pair.nd
  have hu := hr.units
  have hu1 := hu_of hr
  refine ⟨_, (pss_cons (ps_set (i := 2) nd rfl (Or.inl rfl) (pe_callTy call_tuple_of rfl T.tuple_ (by decide +kernel) (pa_cons (pe_lc (own := [("_law_tie", 3)]) (g := gName 3) (tt := tYes) (te := tOp (rI0 fun i j => .int (i - j)) (tCall (sp_law_draw K) [] E0 (tCons (tVar 0) (tCons (tC (.int 7)) (tNil)))) (tC (.int 3))) rfl nd (pi_range1 rfl T.range (pa_cons (pv 1) pa_nil)) (blkOk_by (N := N_law_pair) (sc := defScope s_law_pair) (by decide +kernel)) (fun _ _ _ _ _ => (pg_name (i := 3) nd rfl (Or.inl rfl))) (fun _ _ _ _ _ => pts_nil) (fun _ _ _ _ _ => (pe_op op_sub (pe_cal C_law_draw (hr.mono (by decide)) rfl (pa_cons (pv 0) (pa_cons pe_int pa_nil))) pe_int))) pa_nil)))
     (pss_cons (ps_if (pt_cmpR op_eq (pe_cal C_law_draw (hr.mono (by decide)) rfl (pa_cons (pv 0) (pa_cons pe_int pa_nil))) pe_int (nomark _))
     (pss_cons (ps_set (i := 4) nd rfl (Or.inr rfl) (pe_cal C_law_pick (hr.mono (by decide)) rfl (pa_cons (pv 0) (pa_cons (pe_lst (pa_cons pe_int (pa_cons pe_int (pa_cons (pe_un un_neg pe_int) pa_nil)))) pa_nil))))
     (pss_one (ps_set (i := 2) nd rfl (Or.inl rfl) (pe_callTy call_tuple_of rfl T.tuple_ (by decide +kernel) (pa_cons (pe_lc (own := [("_law_own", 5)]) (g := gName 5) (tt := tYes) (te := tOp (rI CMul fun i j => .int (i * j)) (tVar 4) (tOp (rI0 fun i j => .int (i - j)) (tOp (rI CPow fun i j => .int (i ^ j.toNat)) (tC (.int 10)) (tC (.int 12))) (tOp (rI CMul fun i j => .int (i * j)) (tVar 5) (tVar 5)))) rfl nd (pi_tup (pv 2)) (blkOk_by (N := N_law_pair) (sc := defScope s_law_pair) (by decide +kernel)) (fun _ _ _ _ _ => (pg_name (i := 5) nd rfl (Or.inl rfl))) (fun _ _ _ _ _ => pts_nil) (fun _ _ _ _ _ => (pe_op op_mul (pv 4) (pe_op op_sub (pe_op op_pow pe_int pe_int) (pe_op op_mul (pv 5) (pv 5)))))) pa_nil)))))
     pss_nil)
     (pss_cons (ps_if (pt_cmpR op_eq (pe_cal C_law_draw (hr.mono (by decide)) rfl (pa_cons (pv 0) (pa_cons pe_int pa_nil))) pe_int (nomark _))
     (pss_one (ps_ret (pe_tup (pa_cons (pv 2) (pa_cons (pe_callTy call_tuple_of rfl T.tuple_ (by decide +kernel) (pa_cons (pe_lc (own := [("_law_tie", 3)]) (g := gName 3) (tt := tYes) (te := tOp (rI0 fun i j => .int (i - j)) (tCall (sp_law_draw K) [] E0 (tCons (tVar 0) (tCons (tC (.int 9)) (tNil)))) (tC (.int 4))) rfl nd (pi_range1 rfl T.range (pa_cons (pv 1) pa_nil)) (blkOk_by (N := N_law_pair) (sc := defScope s_law_pair) (by decide +kernel)) (fun _ _ _ _ _ => (pg_name (i := 3) nd rfl (Or.inl rfl))) (fun _ _ _ _ _ => pts_nil) (fun _ _ _ _ _ => (pe_op op_sub (pe_cal C_law_draw (hr.mono (by decide)) rfl (pa_cons (pv 0) (pa_cons pe_int pa_nil))) pe_int))) pa_nil)) pa_nil)))))
     pss_nil)
     (pss_cons (ps_setLc (i := 6) (own := [("_law_own", 5)]) (g := gName 5) (tt := tYes) (te := tOp (rI0 fun i j => .int (i - j)) (tVar 5) (tCall (sp_law_pick K) [] E0 (tCons (tVar 0) (tCons (tLst (tCons (tC (.int 0)) (tCons (tC (.int 0)) (tCons (tC (.int 0)) (tCons (tC (.int 1)) (tCons (tC (.int 1)) (tCons (tC (.int 2)) (tCons (tC (.int 5)) (tNil))))))))) (tNil))))) rfl nd rfl rfl (sw_true rfl rfl rfl (by decide +kernel)) (pi_tup (pv 2)) (blkOk_by (N := N_law_pair) (sc := defScope s_law_pair) (by decide +kernel)) (fun _ _ _ _ _ => (pg_name (i := 5) nd rfl (Or.inl rfl))) (fun _ _ _ _ _ => pts_nil) (fun _ _ _ _ _ => (pe_op op_sub (pv 5) (pe_cal C_law_pick (hr.mono (by decide)) rfl (pa_cons (pv 0) (pa_cons (pe_lst (pa_cons pe_int (pa_cons pe_int (pa_cons pe_int (pa_cons pe_int (pa_cons pe_int (pa_cons pe_int (pa_cons pe_int pa_nil)))))))) pa_nil))))))
     (pss_one (ps_ret (pe_tup (pa_cons (pv 2) (pa_cons (pe_callTy call_tuple_of rfl T.tuple_ (by decide +kernel) (pa_cons (pe_lc (own := [("_law_own", 5)]) (g := gName 5) (tt := tYes) (te := tCB rMax2 (tCons (tVar 5) (tCons (tUn (rU fun i => .int (-i)) (tOp (rI CPow fun i j => .int (i ^ j.toNat)) (tC (.int 10)) (tC (.int 12)))) (tNil)))) rfl nd (pi_list (pv 6)) (blkOk_by (N := N_law_pair) (sc := defScope s_law_pair) (by decide +kernel)) (fun _ _ _ _ _ => (pg_name (i := 5) nd rfl (Or.inl rfl))) (fun _ _ _ _ _ => pts_nil) (fun _ _ _ _ _ => (pe_callB (call_max2 rfl) rfl T.max (by decide +kernel) (pa_cons (pv 5) (pa_cons (pe_un un_neg (pe_op op_pow pe_int pe_int)) pa_nil))))) pa_nil)) pa_nil))))))))), ?_⟩
  obtain ⟨v1, rfl, h1⟩ := dpa1 hv
  cases h1
  refine q_setK (K := K) (S := fun d => ∃ ns, IntsS m (fun x => -3 ≤ x ∧ x ≤ 3) ns ∧ d = intsT ns) hs (ek_intsT (ek_ints (p := fun _ x => -3 ≤ x ∧ x ≤ 3) _ (List.length_range (n := m)) (fun _ _ _ h => h) (ek_lc (List.range m) natD (fun _ d => ∃ x : Int, (-3 ≤ x ∧ x ≤ 3) ∧ d = .int x) (es_rngN (ed_var rfl (.int _)) (by omega)) (by rw [List.length_range]; omega) fun i hi x G' H' g' hx => ?_))) fun d v G1 H1 hS g1 hd => ?_
  · refine ⟨_, fun Q q => q, rfl, ek_op (S2 := (· = .int 3)) (ek_call 7 rfl (hdk.same g'.h) (ea_cons ed_int ea_nil) (by decide)) (ek_ed ed_int rfl) ?_⟩
    rintro _ _ ⟨r, hr, rfl⟩ rfl
    exact ⟨_, ⟨(r : Int) - 3, by omega, rfl⟩, rd_I0⟩
  obtain ⟨ns, hns, rfl⟩ := hS
  refine seq_via (fun R => ∀ (one : List Int) (v2 : V) (o3 o4 o5 : Option V) (G' H' : Hp), Gr G H G' H' → Dp K G' v2 (intsT one) → IntsS m (fun x => -(10 ^ 12) ≤ x ∧ x ≤ 10 ^ 12) one → R [some (.ref p), some (.int (m : Int)), some v2, o3, o4, o5, none] H') (fun R fin => ?_) (fun one v2 o3 o4 o5 G2 H2 g2 hd2 hone => ?_)
  · refine s_ifK g1.s (kt_test (K := K) (ek_op (S1 := fun d => ∃ k, k < 5 ∧ d = natD k) (S2 := (· = natD 0)) (ek_call 5 rfl (hdk.same g1.h) (ea_cons ed_int ea_nil) (by decide)) (ek_ed ed_int rfl) ?_)) (fun G2 H2 g2 => ?_) (fun G2 H2 g2 => ?_)
    · rintro _ _ ⟨k, hk, rfl⟩ rfl
      exact ⟨_, ⟨_, rfl⟩, rd_eqN⟩
    · refine q_setK (K := K) (S := fun d => ∃ x : Int, (x = 1 ∨ x = -1) ∧ d = .int x) g2.s (ek_pick rfl (hdk.same (g1.trans g2).h) (EQ.ofL (el_lst (ds := [.int 1, .int 1, .int (-1)]) (ea_cons ed_int (ea_cons ed_int (ea_cons (ed_un ed_int ru_neg) ea_nil))) (by simp))) (by simp) (by simp) ?_) fun d v' G3 H3 hS g3 hd3 => ?_
      · intro d hd
        simp at hd
        rcases hd with rfl | rfl
        · exact ⟨1, .inl rfl, rfl⟩
        · exact ⟨-1, .inr rfl, rfl⟩
      obtain ⟨sg, hsg, rfl⟩ := hS
      cases hd3
      have g23 := g2.trans g3
      refine s_set (K := K) (d := intsT (ns.map fun x => sg * (10 ^ 12 - x * x))) g3.s (ed_is (ed_cb (ea_cons (ed_lcA ns PyData.int (fun x => .int (sg * (10 ^ 12 - x * x))) (es_tup (ed_var rfl (dp_mono g23.g _ _ hd))) (by have := hns.1; omega) fun x hx xv G' H' g' hxv => ?_) ea_nil) ra_tupL) ?_) fun v2 G4 H4 g4 hd4 => fin _ v2 _ _ _ G4 H4 ((g1.trans g23).trans g4) hd4 ⟨by rw [List.length_map]; exact hns.1, fun y hy => ?_⟩
      · cases hxv
        have hb := hns.2 x hx
        exact ⟨_, fun Q q => q, rfl, ed_op (ed_var rfl (.int _)) (ed_op (ed_op (d := .int 10) (e := .int 12) (z := .int (10 ^ 12)) ed_int ed_int (rd_I (C := CPow) ⟨by decide, by decide, by decide⟩)) (ed_op (ed_var rfl (.int _)) (ed_var rfl (.int _)) (rd_I (C := CMul) (.inl (by omega)))) rd_I0) (rd_I (C := CMul) (.inl (by omega)))⟩
      · rw [intsT, List.map_map]; rfl
      · obtain ⟨x, hx, rfl⟩ := List.mem_map.mp hy
        have hb := hns.2 x hx
        have h9 : x * x ≤ 9 := by
          have : x = -3 ∨ x = -2 ∨ x = -1 ∨ x = 0 ∨ x = 1 ∨ x = 2 ∨ x = 3 := by omega
          rcases this with rfl | rfl | rfl | rfl | rfl | rfl | rfl <;> decide
        have h0 : 0 ≤ x * x := by
          have : x = -3 ∨ x = -2 ∨ x = -1 ∨ x = 0 ∨ x = 1 ∨ x = 2 ∨ x = 3 := by omega
          rcases this with rfl | rfl | rfl | rfl | rfl | rfl | rfl <;> decide
        generalize x * x = y at h9 h0
        rcases hsg with rfl | rfl
        · omega
        · omega
    · exact fin ns v _ _ _ G2 H2 (g1.trans g2) (dp_mono g2.g _ _ hd) ⟨hns.1, fun x hx => by have := hns.2 x hx; omega⟩
  · have hdk2 := hdk.same g2.h
    refine q_ifK g2.s (kt_test (K := K) (ek_op (S1 := fun d => ∃ k, k < 4 ∧ d = natD k) (S2 := (· = natD 0)) (ek_call 4 rfl hdk2 (ea_cons ed_int ea_nil) (by decide)) (ek_ed ed_int rfl) ?_)) (fun G3 H3 g3 => ?_) (fun G3 H3 g3 => ?_)
    · rintro _ _ ⟨k, hk, rfl⟩ rfl
      exact ⟨_, ⟨_, rfl⟩, rd_eqN⟩
    · refine s_retK (K := K) (S := PairS m) g3.s (ek_tup (eak_cons (S := (· = intsT one)) (ek_ed (ed_var rfl (dp_mono g3.g _ _ hd2)) rfl) (eak_cons (ek_intsT (ek_ints (p := fun _ _ => True) (fun _ => True) (List.length_range (n := m)) (fun _ _ _ h => h) (ek_lc (List.range m) natD (fun _ d => ∃ x : Int, True ∧ d = .int x) (es_rngN (ed_var rfl (.int _)) (by omega)) (by rw [List.length_range]; omega) fun i hi x G' H' g' hx => ?_))) eak_nil)) ?_) fun d v G5 H5 hS g5 hd => q d v G5 H5 hS ((g2.trans g3).trans g5) hd
      · refine ⟨_, fun Q q => q, rfl, ek_op (S2 := (· = .int 4)) (ek_call 9 rfl (hdk2.same (g3.trans g').h) (ea_cons ed_int ea_nil) (by decide)) (ek_ed ed_int rfl) ?_⟩
        rintro _ _ ⟨r, hr, rfl⟩ rfl
        exact ⟨_, ⟨(r : Int) - 4, trivial, rfl⟩, rd_I0⟩
      · rintro _ ⟨_, _, rfl, rfl, _, _, rfl, ⟨os, ho, rfl⟩, rfl⟩
        exact ⟨by simp, one, os, hone, ho, rfl⟩
    · refine q_setK (K := K) g3.s (ek_ints (p := fun _ _ => True) (fun _ => True) hone.1 (fun _ _ _ h => h) (ek_lc one PyData.int (fun _ d => ∃ x : Int, True ∧ d = .int x) (es_tup (ed_var rfl (dp_mono g3.g _ _ hd2))) (by have := hone.1; omega) fun x hx xv G' H' g' hxv => ?_)) fun d v6 G4 H4 hS g4 hd6 => ?_
      · cases hxv
        refine ⟨_, fun Q q => q, rfl, ek_op (S1 := (· = .int x)) (S2 := fun d => ∃ y : Int, d = .int y) (ek_ed (ed_var rfl (.int _)) rfl) (ek_pick rfl (hdk2.same (g3.trans g').h) (EQ.ofL (el_lst (ds := [.int 0, .int 0, .int 0, .int 1, .int 1, .int 2, .int 5]) (ea_cons ed_int (ea_cons ed_int (ea_cons ed_int (ea_cons ed_int (ea_cons ed_int (ea_cons ed_int (ea_cons ed_int ea_nil))))))) (by simp))) (by simp) (by simp) ?_) ?_⟩
        · intro d hd
          simp at hd
          rcases hd with rfl | rfl | rfl | rfl <;> exact ⟨_, rfl⟩
        · rintro _ _ rfl ⟨y, rfl⟩
          exact ⟨_, ⟨x - y, trivial, rfl⟩, rd_I0⟩
      obtain ⟨os, ho, rfl⟩ := hS
      have g34 := g3.trans g4
      refine s_ret (K := K) (d := .tuple [intsT one, intsT (os.map fun x => if -(10 ^ 12) > x then -(10 ^ 12) else x)]) g4.s (ed_tup (ea_cons (ed_var rfl (dp_mono g34.g _ _ hd2)) (ea_cons (ed_is (ed_cb (ea_cons (ed_lcA os PyData.int (fun x => .int (if -(10 ^ 12) > x then -(10 ^ 12) else x)) (es_list (ed_var rfl hd6)) (by have := ho.1; omega) fun x hx xv G' H' g' hxv => ?_) ea_nil) ra_tupL) ?_) ea_nil)) (by simp)) fun v G5 H5 g5 hd => q _ v G5 H5 ⟨one, _, hone, ⟨by rw [List.length_map]; exact ho.1, fun _ _ => trivial⟩, rfl⟩ ((g2.trans g34).trans g5) hd
      · cases hxv
        exact ⟨_, fun Q q => q, rfl, ed_cb (ea_cons (ed_var rfl (.int _)) (ea_cons (ed_un (ed_op (d := .int 10) (e := .int 12) (z := .int (10 ^ 12)) ed_int ed_int (rd_I (C := CPow) ⟨by decide, by decide, by decide⟩)) ru_neg) ea_nil)) ra_max2⟩
      · rw [intsT, List.map_map]; rfl
end
end Bw
set_option Elab.async false
set_option linter.all false
set_option maxRecDepth 100000
set_option maxHeartbeats 4000000
namespace Bw
open PySem PySem.Spec PyProof.Rows L2 Bo
def pairsOf (ring : Bool) (n : Nat) : Ties := (List.range (n - 1)).map (fun i => (i, i + 1)) ++ if ring then [(0, n - 1)] else []
def posOf (T : Ties) (e : Nat × Nat) : List Nat := (T.zipIdx.filter fun q => decide (q.1 = e)).map (·.2)
def bundTies (ring : Bool) (n : Nat) : Ties := (List.replicate (if ring then 2 else 4) (pairsOf ring n)).flatten
def BundS (d : PyData) : Prop := ∃ (ring : Bool) (n : Nat) (T : Ties), List.Perm T (bundTies ring n) ∧ (ring = true → 6 ≤ n ∧ n ≤ 9) ∧ (ring = false → 4 ≤ n ∧ n ≤ 5) ∧ d = .tuple [webD n T, .list ((pairsOf ring n).map fun e => natsL (posOf T e)), .bool ring]
theorem tie_shaped (e : Nat × Nat) : SeqAt.shaped (tieD e) = true := by
  unfold SeqAt.shaped tieD natD
  simp [PyData.canLay0, PyData.canLayAll0, PyData.depth, PyData.depthAll]
theorem tie_eqv (e f : Nat × Nat) : PyData.eqv (tieD e) (tieD f) = decide (e = f) := by
  obtain ⟨a, b⟩ := e
  obtain ⟨c, d⟩ := f
  rw [Bool.eq_iff_iff]
  simp [tieD, natD, PyData.eqv, PyData.eqvAll]
  omega
theorem ek_ifB {K : PySem.W.Frag} {σ : L2.St} {G H : Hp} {tt : TT} {ta tb : TE} {S : PyData → Prop} {b : Bool} (h : ET tt σ G H b) (h1 : b = true → EK K ta σ G H S) (h2 : b = false → EK K tb σ G H S) : EK K (tIf tt ta tb) σ G H S := fun G0 H0 g0 Q q => h G0 H0 g0 _ fun G1 H1 g => by
  cases b with
  | true => rw [if_pos rfl]; exact h1 rfl G1 H1 (g0.trans g) Q fun d v G2 H2 s g2 hv => q d v G2 H2 s (g.trans g2) hv
  | false => rw [if_neg Bool.false_ne_true]; exact h2 rfl G1 H1 (g0.trans g) Q fun d v G2 H2 s g2 hv => q d v G2 H2 s (g.trans g2) hv
section
variable {P : Program} {w : World} {K : PySem.W.Frag} {mg : Str → Option Value} {base : Heap}
-- slots of _law_bundles: 0 _law_deck_here, 1 _law_is_ring, 2 _law_many, 3 _law_pairs, 4 _law_place, 5 _law_ties*, 6 _law_tie, 7 _law_own, 8 _law_pair_here*
abbrev s_law_bundles : Stmt := top 55
abbrev N_law_bundles : List Str := ["_law_deck_here", "_law_is_ring", "_law_many", "_law_pairs", "_law_place", "_law_ties", "_law_tie", "_law_own", "_law_pair_here"]
theorem sc_law_bundles : FnScope N_law_bundles ["_law_deck_here"] (defScope s_law_bundles) := ⟨rfl, rfl, rfl, by decide +kernel, rfl, by decide +kernel, by decide +kernel⟩
abbrev sp_law_bundles (K : PySem.W.Frag) : Sp := spK (α := Unit) K (fun _ => True) (fun _ => []) (fun _ => BundS)
theorem c_law_bundles {f : Addr} {fd : FuncData} (T : Txt mg) (F : Fd K mg "_law_bundles" s_law_bundles f fd) (C_law_draw : Cal P w K mg base CX0 "_law_draw" 1 ["_law_deck_here", "_law_many"] (sp_law_draw K)) (C_law_mixed : Cal P w K mg base CX0 "_law_mixed" 2 ["_law_deck_here", "_law_row"] (sp_law_mixed K)) :
    Cal P w K mg base CX0 "_law_bundles" 3 ["_law_deck_here"] (sp_law_bundles K) := by
  refine ⟨f, fd, ?_, F.mg, F.fn.kp, F.fn.binds fun _ _ _ _ _ _ us hl => match us, hl with | [_], _ => rfl⟩
  refine F.fn.ok sc_law_bundles (fun vs H Q E h => ?_) (fun cdv A outer s H vs Q E hr h => ?_)
  · obtain ⟨a, G, p, us, rfl, _, _, _, h, _⟩ := h
    rw [List.length_cons, h.len]; rfl
  obtain ⟨_, G, p, us, rfl, _, hdk, hs, hv, q⟩ := h
  have nd := sc_law_bundles.nd
  have hu := hr.units
  have hu1 := hu_of hr
  refine ⟨_, (pss_cons (ps_set (i := 1) nd rfl (Or.inl rfl) (pe_cmpR op_gt (pe_cal C_law_draw (hr.mono (by decide)) rfl (pa_cons (pv 0) (pa_cons pe_int pa_nil))) pe_int (nomark _)))
     (pss_cons (ps_set (i := 2) nd rfl (Or.inl rfl) (pe_ifExp (pt_val (pv 1)) (pe_op op_add pe_int (pe_cal C_law_draw (hr.mono (by decide)) rfl (pa_cons (pv 0) (pa_cons pe_int pa_nil)))) (pe_op op_add pe_int (pe_cal C_law_draw (hr.mono (by decide)) rfl (pa_cons (pv 0) (pa_cons pe_int pa_nil))))))
     (pss_cons (ps_set (i := 3) nd rfl (Or.inl rfl) (pe_op op_cat (pe_lc (own := [("_law_place", 4)]) (g := gName 4) (tt := tYes) (te := tTup (tCons (tVar 4) (tCons (tOp (rI0 fun i j => .int (i + j)) (tVar 4) (tC (.int 1))) (tNil)))) rfl nd (pi_range1 rfl T.range (pa_cons (pe_op op_sub (pv 2) pe_int) pa_nil)) (blkOk_by (N := N_law_bundles) (sc := defScope s_law_bundles) (by decide +kernel)) (fun _ _ _ _ _ => (pg_name (i := 4) nd rfl (Or.inl rfl))) (fun _ _ _ _ _ => pts_nil) (fun _ _ _ _ _ => (pe_tup (pa_cons (pv 4) (pa_cons (pe_op op_add (pv 4) pe_int) pa_nil))))) (pe_ifExp (pt_val (pv 1)) (pe_lst (pa_cons (pe_tup (pa_cons pe_int (pa_cons (pe_op op_sub (pv 2) pe_int) pa_nil))) pa_nil)) (pe_lst pa_nil))))
     (pss_cons (ps_set (i := 5) nd rfl (Or.inr rfl) (pe_cal C_law_mixed (hr.mono (by decide)) rfl (pa_cons (pv 0) (pa_cons (pe_op op_rep (pv 3) (pe_ifExp (pt_val (pv 1)) pe_int pe_int)) pa_nil))))
     (pss_one (ps_ret (pe_tup (pa_cons (pe_tup (pa_cons (pv 2) (pa_cons (pe_callTy call_tuple_of rfl T.tuple_ (by decide +kernel) (pa_cons (pv 5) pa_nil)) pa_nil))) (pa_cons (pe_lc (own := [("_law_pair_here", 8)]) (g := gName 8) (tt := tYes) (te := tLc (iEnum K (tCons (tVar 5) (tNil))) (gTup K 2 (gCons (gName 6) (gCons (gName 7) gNil))) (tTest (tOp (rEqD K) (tVar 7) (tVar 8))) (tVar 6) [6, 7]) rfl nd (pi_list (pv 3)) (blkOk_by (N := N_law_bundles) (sc := defScope s_law_bundles) (by decide +kernel)) (fun _ _ _ _ _ => (pg_name (i := 8) nd rfl (Or.inr rfl))) (fun _ _ _ _ _ => pts_nil) (fun _ _ _ _ _ => (pe_lc (own := [("_law_tie", 6), ("_law_own", 7)]) (g := gTup K 2 (gCons (gName 6) (gCons (gName 7) gNil))) (tt := tTest (tOp (rEqD K) (tVar 7) (tVar 8))) (te := tVar 6) rfl nd (pi_enum rfl T.enumerate (pa_cons (pv 5) pa_nil)) (blkIn (N := N_law_bundles) (so := defScope s_law_bundles) (by decide +kernel)) (fun _ _ _ _ _ => (pg_tup rfl (pgs_cons (pg_name (i := 6) nd rfl (Or.inl rfl)) (pgs_cons (pg_name (i := 7) nd rfl (Or.inl rfl)) pgs_nil)))) (fun _ _ _ _ _ => (pts_one (pt_cmpR (op_eqD hu) (pv 7) (pv 8) (nomark _)))) (fun _ _ _ _ _ => (pv 6))))) (pa_cons (pv 1) pa_nil)))))))))), ?_⟩
  cases hv
  refine q_setK (K := K) (S := fun d => ∃ b : Bool, d = .bool b) hs (ek_op (S1 := fun d => ∃ k, k < 3 ∧ d = natD k) (S2 := (· = natD 0)) (ek_call 3 rfl hdk (ea_cons ed_int ea_nil) (by decide)) (ek_ed ed_int rfl) ?_) fun d v G1 H1 hS g1 hd => ?_
  · rintro _ _ ⟨k, hk, rfl⟩ rfl
    exact ⟨_, ⟨_, rfl⟩, rd_gtN⟩
  obtain ⟨ring, rfl⟩ := hS
  cases hd
  have hdk1 := hdk.same g1.h
  refine q_setK (K := K) (S := fun d => ∃ n : Nat, ((ring = true → 6 ≤ n ∧ n ≤ 9) ∧ (ring = false → 4 ≤ n ∧ n ≤ 5)) ∧ d = natD n) g1.s (ek_ifB (b := ring) (et_B (K := K) (ed_var rfl (.bl _))) (fun hb => ek_op (S1 := (· = natD 6)) (ek_ed ed_int rfl) (ek_call 4 rfl hdk1 (ea_cons ed_int ea_nil) (by decide)) ?_) (fun hb => ek_op (S1 := (· = natD 4)) (ek_ed ed_int rfl) (ek_call 2 rfl hdk1 (ea_cons ed_int ea_nil) (by decide)) ?_)) fun d v G2 H2 hS g2 hd => ?_
  · rintro _ _ rfl ⟨r, hr, rfl⟩
    exact ⟨_, ⟨6 + r, ⟨fun _ => by omega, fun z => by rw [hb] at z; cases z⟩, rfl⟩, rd_addN⟩
  · rintro _ _ rfl ⟨r, hr, rfl⟩
    exact ⟨_, ⟨4 + r, ⟨fun z => by rw [hb] at z; (cases z), fun _ => by omega⟩, rfl⟩, rd_addN⟩
  obtain ⟨n, ⟨hn1, hn2⟩, rfl⟩ := hS
  cases hd
  have hn : 4 ≤ n ∧ n ≤ 9 := by
    cases ring with
    | true => have := hn1 rfl; omega
    | false => have := hn2 rfl; omega
  have g12 := g1.trans g2
  refine q_setL (K := K) (ds := (pairsOf ring n).map tieD) g2.s (EL.is (el_cat (el_lcA (List.range (n - 1)) natD (fun i => tieD (i, i + 1)) (es_rngN (ed_op (d := natD n) (e := natD 1) (ed_var rfl (.int _)) ed_int (rd_subN (by omega))) (by omega)) (by rw [List.length_range]; omega) fun i hi x G' H' g' hx => ?_)
    (el_if (ds := (if ring then [(0, n - 1)] else []).map tieD) (b := ring) (et_B (K := K) (ed_var rfl (.bl _))) (fun hb => EL.is (el_lst (ea_cons (ed_tup (ea_cons ed_int (ea_cons (ed_op (d := natD n) (e := natD 1) (ed_var rfl (.int _)) ed_int (rd_subN (by omega))) ea_nil)) (by simp)) ea_nil) (by simp)) ?_) (fun hb => EL.is (el_lst ea_nil (by simp)) ?_)) ?_) ?_) fun a xs G3 H3 g3 e3 d3 => ?_
  · cases hx
    exact ⟨_, fun Q q => q, rfl, ed_tup (ea_cons (ed_var rfl (.int _)) (ea_cons (ed_op (d := natD i) (e := natD 1) (ed_var rfl (.int _)) ed_int rd_addN) ea_nil)) (by simp)⟩
  · rw [if_pos hb]; rfl
  · rw [hb]; rfl
  · rw [List.length_map, List.length_map, List.length_range]
    split <;> simp <;> omega
  · unfold pairsOf
    rw [List.map_append, List.map_map]; rfl
  have g13 := g12.trans g3
  have hpl : (pairsOf ring n).length ≤ 9 := by
    unfold pairsOf
    rw [List.length_append, List.length_map, List.length_range]
    split <;> simp <;> omega
  have hbl : (bundTies ring n).length ≤ 36 := by
    unfold bundTies
    rw [List.length_flatten, List.map_replicate]
    split <;> simp <;> omega
  refine q_setK (K := K) g3.s (ek_mixed (T := bundTies ring n) rfl (hdk.same g13.h) (EQ.ofL (EL.is (el_rep (k := if ring then 2 else 4) (el_var rfl e3 d3) (ed_if (b := ring) (et_B (K := K) (ed_var rfl (.bl _))) (fun hb => ed_is ed_int ?_) (fun hb => ed_is ed_int ?_)) ?_ ?_) ?_)) (by omega)) fun d v5 G4 H4 hS g4 hd5 => ?_
  · rw [if_pos hb]; rfl
  · rw [hb]; rfl
  · split <;> omega
  · rw [List.length_map]; omega
  · unfold bundTies
    rw [List.map_flatten, List.map_replicate]
  obtain ⟨W, hW, rfl⟩ := hS
  have hWl := hW.length_eq
  refine s_ret (K := K) (d := .tuple [webD n W, .list ((pairsOf ring n).map fun e => natsL (posOf W e)), .bool ring]) g4.s (ed_tup (ea_cons (ed_tup (ea_cons (ed_var rfl (.int _)) (ea_cons (ed_cb (ea_cons (ed_var rfl hd5) ea_nil) ra_tupL) ea_nil)) (by simp)) (ea_cons (ed_lcA (pairsOf ring n) tieD (fun e => natsL (posOf W e)) (es_list (el_var rfl (g4.g _ _ e3) (dpa_mono g4.g _ _ d3)).ed) (by omega) fun e he x G' H' g' hx => ?_) (ea_cons (ed_var rfl (.bl _)) ea_nil))) (by simp)) fun v G5 H5 g5 hd => q _ v G5 H5 ⟨ring, n, W, hW, hn1, hn2, rfl⟩ ((g13.trans g4).trans g5) hd
  refine ⟨_, fun Q q => q, rfl, ed_is (ed_lc W.zipIdx (fun q => .tuple [natD q.2, tieD q.1]) (fun q => decide (q.1 = e)) (fun q => natD q.2) ?_ ?_ ?_) ?_⟩
  · rw [← numbered_map]
    exact es_enum (ea_cons (ed_var rfl (dp_mono g'.g _ _ hd5)) ea_nil)
  · rw [List.length_zipIdx]; omega
  · rintro ⟨o, t⟩ hm xv G'' H'' g'' hxv
    obtain ⟨u1, u2, e1, e2, gk⟩ := g_pair hxv
    cases e1
    exact ⟨_, fun Q q => gk _ _ _ _ _ g''.s q, rfl, et_test (K := K) (ed_is (ed_op (ed_var rfl e2) (ed_var rfl (dp_mono g''.g _ _ hx)) (rd_eqD (tie_shaped o) (tie_shaped e))) (by rw [tie_eqv])), fun _ => ed_var rfl (.int _)⟩
  · unfold posOf
    rw [natsL, List.map_map]; rfl
end
end Bw
set_option Elab.async false
set_option linter.all false
set_option maxRecDepth 100000
set_option maxHeartbeats 4000000
namespace Bw
open PySem PySem.Spec PyProof.Rows L2 Bo
open RZ (pi_zipA iZipA ItzT)
def Bd (x : Int) : Prop := -(10 ^ 12) ≤ x ∧ x ≤ 10 ^ 12
/-- the law's thin cuts -/
def thinL (n : Nat) (T : Ties) : List Nat := (lCuts n T).filter fun c => decide ((0 : Int) < (lBits c : Nat)) && decide (((lBits c : Nat) : Int) < 3)
def bundOf (ring : Bool) (n : Nat) (T : Ties) : List (List Nat) := (pairsOf ring n).map (posOf T)
structure BundP (ring : Bool) (n : Nat) (T : Ties) (one other M : List Int) : Prop where
  len : M.length = T.length
  bd : ∀ x ∈ M, Bd x
  left : lOddOnes (bundOf ring n T) M other = 0 ∨ (ring = true ∧ lOddOnes (bundOf ring n T) M other = (bundOf ring n T).length)
  due : diffN one M = if ring then min (lOddOnes (bundOf ring n T) one other) ((bundOf ring n T).length - lOddOnes (bundOf ring n T) one other) else lOddOnes (bundOf ring n T) one other
/-- what the plain law gives -/
structure LawMath : Prop where
  tree : ∀ n T, Ok n T → TreeOk n T
  bund : ∀ (ring : Bool) (n : Nat) (T : Ties) (one other : List Int), List.Perm T (bundTies ring n) → (ring = true → 6 ≤ n ∧ n ≤ 9) → (ring = false → 4 ≤ n ∧ n ≤ 5) → IntsS T.length Bd one → other.length = T.length →
    thinCut n T = none ∧ BundP ring n T one other (mended n T one other)
  thick : ∀ (n : Nat) (T : Ties) (one other : List Int), Ok8 n T → 2 ≤ n → IntsS T.length Bd one → other.length = T.length → thinCut n T = none → thinL n T = [] ∧ RightP n T one other (mended n T one other)
  thin : ∀ (n : Nat) (T : Ties) (l : List Nat), Ok8 n T → 2 ≤ n → thinCut n T = some l → l.Pairwise (· < ·) ∧ (∀ t ∈ l, t < T.length) ∧ lMask l ∈ thinL n T
  one : thinCut 1 [] = none ∧ mended 1 [] [] [] = []
theorem oddOnes_le (b : List (List Nat)) (one other : List Int) : lOddOnes b one other ≤ b.length := by unfold lOddOnes; exact List.length_filter_le _ _
theorem bund_ok {ring : Bool} {n : Nat} {T : Ties} (h : List.Perm T (bundTies ring n)) (h1 : ring = true → 6 ≤ n ∧ n ≤ 9) (h2 : ring = false → 4 ≤ n ∧ n ≤ 5) : Ok n T ∧ (pairsOf ring n).length ≤ 9 := by
  have hn : 4 ≤ n ∧ n ≤ 9 := by
    cases ring with
    | true => have := h1 rfl; omega
    | false => have := h2 rfl; omega
  have hpl : (pairsOf ring n).length ≤ 9 := by
    unfold pairsOf
    rw [List.length_append, List.length_map, List.length_range]
    split <;> simp <;> omega
  have hbl : (bundTies ring n).length ≤ 36 := by
    unfold bundTies
    rw [List.length_flatten, List.map_replicate]
    split <;> simp <;> omega
  refine ⟨⟨fun e he => ?_, by omega, by omega, by have := h.length_eq; omega⟩, hpl⟩
  have he := h.mem_iff.mp he
  unfold bundTies at he
  obtain ⟨l, hl, he⟩ := List.mem_flatten.mp he
  rw [List.eq_of_mem_replicate hl] at he
  unfold pairsOf at he
  rcases List.mem_append.mp he with he | he
  · obtain ⟨i, hi, rfl⟩ := List.mem_map.mp he
    have := List.mem_range.mp hi
    dsimp only
    omega
  · split at he
    · rw [List.mem_singleton.mp he]; dsimp only; omega
    · simp at he
theorem posOf_lt (T : Ties) (e : Nat × Nat) : ∀ t ∈ posOf T e, t < T.length := fun t ht => by
  unfold posOf at ht
  obtain ⟨q, hq, rfl⟩ := List.mem_map.mp ht
  have := List.mem_zipIdx (List.mem_filter.mp hq).1
  simp at this
  omega
theorem posOf_len (T : Ties) (e : Nat × Nat) : (posOf T e).length ≤ T.length := by
  unfold posOf
  rw [List.length_map]
  refine Nat.le_trans (List.length_filter_le _ _) ?_
  rw [List.length_zipIdx]
  exact Nat.le_refl _
section
variable {K : PySem.W.Frag} {D : Ends} {σ : L2.St} {G H : Hp} {te : TE} {rest : TS} {g : TG} {S : PyData → Prop} {i j k : Nat} {d1 d2 d3 : PyData}
theorem q_asgK (s : Same G H) (h : EK K te σ G H S) (n : ∀ d v G' H', S d → Gr G H G' H' → Dp K G' v d → g v σ H' (rest D)) : tSeq (tAsg te g) rest D σ H := h.now s n
theorem g_un3 {u : V} {Q : L2.St → Hp → Prop} (s : Same G H) (hx : Dp K G u (.tuple [d1, d2, d3])) (h : ∀ v1 v2 v3, Dp K G v1 d1 → Dp K G v2 d2 → Dp K G v3 d3 → Q (((σ.set i (some v1)).set j (some v2)).set k (some v3)) H) : gTup K 3 (gCons (gName i) (gCons (gName j) (gCons (gName k) gNil))) u σ H Q := by
  cases hx with
  | @tup a xs _ hs ha =>
    obtain ⟨v1, v2, v3, rfl, h1, h2, h3⟩ := dpa3 ha
    exact ⟨a, _, rfl, sqT_mono s hs, rfl, _, _, rfl, _, _, rfl, _, _, rfl, rfl, h v1 v2 v3 h1 h2 h3⟩
end
section
variable {P : Program} {w : World} {K : PySem.W.Frag} {mg : Str → Option Value} {base : Heap}
-- slots of _law_is_bundled: 0 _law_deck_here, 1 _law_web_here, 2 _law_bundles_here, 3 _law_is_ring, 4 _law_one, 5 _law_other, 6 _law_odd, 7 _law_told_here, 8 _law_left, 9 _law_due, 10 _law_own, 11 _law_more
abbrev s_law_is_bundled : Stmt := top 57
abbrev N_law_is_bundled : List Str := ["_law_deck_here", "_law_web_here", "_law_bundles_here", "_law_is_ring", "_law_one", "_law_other", "_law_odd", "_law_told_here", "_law_left", "_law_due", "_law_own", "_law_more"]
theorem sc_law_is_bundled : FnScope N_law_is_bundled ["_law_deck_here"] (defScope s_law_is_bundled) := ⟨rfl, rfl, rfl, by decide +kernel, rfl, by decide +kernel, by decide +kernel⟩
abbrev sp_law_is_bundled (K : PySem.W.Frag) : Sp := spK (α := Unit) K (fun _ => True) (fun _ => []) (fun _ d => d = .bool true)
theorem c_law_is_bundled {f : Addr} {fd : FuncData} (T : Txt mg) (L : LawMath) (F : Fd K mg "_law_is_bundled" s_law_is_bundled f fd) (C_law_told : Cal P w K mg base CX0 "_law_told" 8 ["_law_web_here", "_law_one", "_law_other", "_law_is_named"] (sp_law_told K)) (C_law_pair : Cal P w K mg base CX0 "_law_pair" 3 ["_law_deck_here", "_law_many"] (sp_law_pair K)) (C_law_is_standing : Cal P w K mg base CX0 "_law_is_standing" 2 ["_law_thing", "_law_many"] (sp_law_is_standing K))
    (C_law_bundles : Cal P w K mg base CX0 "_law_bundles" 3 ["_law_deck_here"] (sp_law_bundles K)) (C_law_odd_ones : Cal P w K mg base CX0 "_law_odd_ones" 1 ["_law_bundles_here", "_law_one", "_law_other"] (sp_law_odd_ones K)) :
    Cal P w K mg base CX0 "_law_is_bundled" 9 ["_law_deck_here"] (sp_law_is_bundled K) := by
  refine ⟨f, fd, ?_, F.mg, F.fn.kp, F.fn.binds fun _ _ _ _ _ _ us hl => match us, hl with | [_], _ => rfl⟩
  refine F.fn.ok sc_law_is_bundled (fun vs H Q E h => ?_) (fun cdv A outer s H vs Q E hr h => ?_)
  · obtain ⟨a, G, p, us, rfl, _, _, _, h, _⟩ := h
    rw [List.length_cons, h.len]; rfl
  obtain ⟨_, G, p, us, rfl, _, hdk, hs, hv, q⟩ := h
  have nd := sc_law_is_bundled.nd
  have hu := hr.units
  have hu1 := hu_of hr
  refine ⟨_, (pss_cons (ps_asg (pe_cal C_law_bundles (hr.mono (by decide)) rfl (pa_cons (pv 0) pa_nil)) (pg_tup rfl (pgs_cons (pg_name (i := 1) nd rfl (Or.inl rfl)) (pgs_cons (pg_name (i := 2) nd rfl (Or.inl rfl)) (pgs_cons (pg_name (i := 3) nd rfl (Or.inl rfl)) pgs_nil)))))
     (pss_cons (ps_asg (pe_cal C_law_pair (hr.mono (by decide)) rfl (pa_cons (pv 0) (pa_cons (pe_callB call_len_seq rfl T.len (by decide +kernel) (pa_cons (pe_ix ix_tup (pv 1) pe_int (fun _ _ => rfl)) pa_nil)) pa_nil))) (pg_tup rfl (pgs_cons (pg_name (i := 4) nd rfl (Or.inl rfl)) (pgs_cons (pg_name (i := 5) nd rfl (Or.inl rfl)) pgs_nil))))
     (pss_cons (ps_set (i := 6) nd rfl (Or.inl rfl) (pe_cal C_law_odd_ones (hr.mono (by decide)) rfl (pa_cons (pv 2) (pa_cons (pv 4) (pa_cons (pv 5) pa_nil)))))
     (pss_cons (ps_set (i := 7) nd rfl (Or.inl rfl) (pe_cal C_law_told (hr.mono (by decide)) rfl (pa_cons (pv 1) (pa_cons (pv 4) (pa_cons (pv 5) (pa_cons pe_bl pa_nil))))))
     (pss_cons (ps_if (PW.pt (pw_or (pt_cmpR op_ne (pe_ix ix_list (pv 7) pe_int (fun _ _ => rfl)) pe_str (nomark _)) (pw_or1 (pt_not (pt_val (pe_cal C_law_is_standing (hr.mono (by decide)) rfl (pa_cons (pe_ix ix_list (pv 7) pe_int (fun _ _ => rfl)) (pa_cons (pe_callB call_len_seq rfl T.len (by decide +kernel) (pa_cons (pe_ix ix_tup (pv 1) pe_int (fun _ _ => rfl)) pa_nil)) pa_nil))))))))
     (pss_one (ps_ret pe_bl))
     pss_nil)
     (pss_cons (ps_par (i := 8) (j := 9) rfl nd rfl rfl (by decide) rfl rfl (pa_cons (pe_cal C_law_odd_ones (hr.mono (by decide)) rfl (pa_cons (pv 2) (pa_cons (pe_ix ix_list (pv 7) pe_int (fun _ _ => rfl)) (pa_cons (pv 5) pa_nil)))) (pa_cons (pe_ifExp (pt_val (pv 3)) (pe_callB (call_min2 rfl) rfl T.min (by decide +kernel) (pa_cons (pv 6) (pa_cons (pe_op op_sub (pe_callB call_len_seq rfl T.len (by decide +kernel) (pa_cons (pv 2) pa_nil)) (pv 6)) pa_nil))) (pv 6)) pa_nil)) rfl)
     (pss_cons (ps_if (PW.pt (pw_and (pt_cmpR op_ne (pv 8) pe_int (nomark _)) (pw_and1 (PW.pt (pw_or (pt_not (pt_val (pv 3))) (pw_or1 (pt_cmpR op_ne (pv 8) (pe_callB call_len_seq rfl T.len (by decide +kernel) (pa_cons (pv 2) pa_nil)) (nomark _))))))))
     (pss_one (ps_ret pe_bl))
     pss_nil)
     (pss_one (ps_ret (pe_cmpR op_eq (pe_callB call_len_seq rfl T.len (by decide +kernel) (pa_cons (pe_lc (own := [("_law_own", 10), ("_law_more", 11)]) (g := gTup K 2 (gCons (gName 10) (gCons (gName 11) gNil))) (tt := tTest (tOp (rNe) (tVar 10) (tVar 11))) (te := tC (.int 1)) rfl nd (pi_zipA rfl T.zip (pa_cons (pv 4) (pa_cons (pe_ix ix_list (pv 7) pe_int (fun _ _ => rfl)) pa_nil))) (blkOk_by (N := N_law_is_bundled) (sc := defScope s_law_is_bundled) (by decide +kernel)) (fun _ _ _ _ _ => (pg_tup rfl (pgs_cons (pg_name (i := 10) nd rfl (Or.inl rfl)) (pgs_cons (pg_name (i := 11) nd rfl (Or.inl rfl)) pgs_nil)))) (fun _ _ _ _ _ => (pts_one (pt_cmpR op_ne (pv 10) (pv 11) (nomark _)))) (fun _ _ _ _ _ => pe_int)) pa_nil)) (pv 9) (nomark _))))))))))), ?_⟩
  cases hv
  refine q_asgK (K := K) hs (ek_call () rfl hdk ea_nil trivial) fun d v G1 H1 hS g1 hd => ?_
  obtain ⟨ring, n, W, hW, hn1, hn2, rfl⟩ := hS
  refine g_un3 g1.s hd fun v1 v2 v3 h1 h2 h3 => ?_
  cases h3
  obtain ⟨ok, hpl⟩ := bund_ok hW hn1 hn2
  have hfew := ok.few
  have hlen : ∀ {σ : L2.St} {G' H' : Hp}, σ[1]? = some (some v1) → Same G1 G' → ED K (tCB (rLenS K) (tCons (tOp (rIxT K) (tVar 1) (tC (.int 1))) tNil)) σ G' H' (natD W.length) := fun h s => ed_is (ed_cb (ea_cons (ed_op (ed_var h (dp_mono s _ _ h1)) ed_int (rd_ixT (j := 1) rfl rfl)) ea_nil) ra_lenT) (by rw [List.length_map])
  refine q_asgK (K := K) g1.s (ek_call W.length rfl (hdk.same g1.h) (ea_cons (hlen rfl (Same.refl _)) ea_nil) (by show W.length ≤ 1000; omega)) fun d v G2 H2 hS g2 hd => ?_
  obtain ⟨one, other, hone, hother, rfl⟩ := hS
  refine g_un2 g2.s hd fun v4 v5 h4 h5 => ?_
  have hol : other.length = W.length := hother.1
  obtain ⟨hthin, hB⟩ := L.bund ring n W one other hW hn1 hn2 hone hol
  have g12 := g1.trans g2
  have hodd : ∀ (M : List Int), M.length = W.length → ((∀ own ∈ bundOf ring n W, own.length ≤ 1000 ∧ ∀ t ∈ own, t < M.length ∧ t < other.length) ∧ (bundOf ring n W).length ≤ 1000) := fun M hM => by
    refine ⟨fun own ho => ?_, ?_⟩
    · obtain ⟨e, he, rfl⟩ := List.mem_map.mp ho
      have := posOf_len W e
      exact ⟨by omega, fun t ht => by have := posOf_lt W e t ht; omega⟩
    · unfold bundOf; rw [List.length_map]; omega
  have h2' : Dp K G1 v2 (.list ((bundOf ring n W).map natsL)) := by
    unfold bundOf
    rw [List.map_map]
    exact h2
  refine q_set (K := K) (d := natD (lOddOnes (bundOf ring n W) one other)) g2.s (ed_call (bundOf ring n W, one, other) (ea_cons (ed_var rfl (dp_mono g2.g _ _ h2')) (ea_cons (ed_var rfl h4) (ea_cons (ed_var rfl h5) ea_nil))) (hodd one hone.1)) fun v6 G3 H3 g3 h6 => ?_
  cases h6
  refine q_set (K := K) g3.s (ed_call ((n, W), (one, other), false) (ea_cons (ed_var rfl (dp_mono (g2.trans g3).g _ _ h1)) (ea_cons (ed_var rfl (dp_mono g3.g _ _ h4)) (ea_cons (ed_var rfl (dp_mono g3.g _ _ h5)) (ea_cons ed_bl ea_nil)))) (by exact ⟨⟨ok, L.tree n W ok⟩, hone.1, hol⟩)) fun v7 G4 H4 g4 h7 => ?_
  have e7 : toldD n W one other = .list [.str "told", intsT (mended n W one other)] := by unfold toldD; rw [hthin]
  have h7 : Dp K G4 v7 (toldD n W one other) := h7
  rw [e7] at h7
  generalize mended n W one other = M at h7 hB
  have g24 := (g2.trans g3).trans g4
  have g14 := g1.trans g24
  refine q_if1 (b := false) g4.s (et_is (et_or (et_test (K := K) (ed_op (ed_op (ed_var rfl h7) ed_int (rd_ixL (j := 0) (z := .str "told") rfl rfl)) ed_str rd_neS)) fun _ => et_not (et_B (K := K) (b := true) (ed_call (M, W.length) (ea_cons (ed_op (ed_var rfl h7) ed_int (rd_ixL (j := 1) rfl rfl)) (ea_cons (hlen rfl g24.g) ea_nil)) (by exact ⟨hB.len, hB.bd, by show M.length ≤ 60; rw [hB.len]; omega⟩)))) (by rw [decide_eq_true rfl]; rfl)) (fun z => by cases z) fun _ G5 H5 g5 => ?_
  have g25 := g24.trans g5
  have hle := oddOnes_le (bundOf ring n W) one other
  have hbl : ∀ {σ : L2.St} {G' H' : Hp}, σ[2]? = some (some v2) → Same G1 G' → ED K (tCB (rLenS K) (tCons (tVar 2) tNil)) σ G' H' (natD (bundOf ring n W).length) := fun h s => ed_is (ed_cb (ea_cons (ed_var h (dp_mono s _ _ h2')) ea_nil) ra_lenL) (by rw [List.length_map])
  refine q_par (K := K) (d1 := natD (lOddOnes (bundOf ring n W) M other)) (d2 := natD (if ring then min (lOddOnes (bundOf ring n W) one other) ((bundOf ring n W).length - lOddOnes (bundOf ring n W) one other) else lOddOnes (bundOf ring n W) one other)) g5.s (ea_cons (ed_call (bundOf ring n W, M, other) (ea_cons (ed_var rfl (dp_mono g25.g _ _ h2')) (ea_cons (ed_op (ed_var rfl (dp_mono g5.g _ _ h7)) ed_int (rd_ixL (j := 1) rfl rfl)) (ea_cons (ed_var rfl (dp_mono ((g3.trans g4).trans g5).g _ _ h5)) ea_nil))) (hodd M hB.len))
    (ea_cons (ed_if (b := ring) (et_B (K := K) (ed_var rfl (.bl _))) (fun hb => ed_is (ed_cb (ea_cons (ed_var rfl (.int _)) (ea_cons (ed_op (d := natD (bundOf ring n W).length) (e := natD (lOddOnes (bundOf ring n W) one other)) (hbl rfl g25.g) (ed_var rfl (.int _)) (rd_subN hle)) ea_nil)) ra_min2) ?_) (fun hb => ed_is (ed_var rfl (.int _)) ?_)) ea_nil)) fun v8 v9 G6 H6 g6 h8 h9 => ?_
  · rw [if_pos hb]
    show PyData.int _ = PyData.int _
    congr 1
    split <;> omega
  · rw [hb]; rfl
  cases h8; cases h9
  have g26 := g25.trans g6
  refine q_if1 (b := false) g6.s (et_is (et_and (et_test (K := K) (ed_op (d := natD (lOddOnes (bundOf ring n W) M other)) (e := natD 0) (ed_var rfl (.int _)) ed_int rd_neN)) fun _ => et_or (et_not (et_B (K := K) (ed_var rfl (.bl _)))) fun _ => et_test (K := K) (ed_op (d := natD (lOddOnes (bundOf ring n W) M other)) (ed_var rfl (.int _)) (hbl rfl g26.g) rd_neN)) ?_) (fun z => by cases z) fun _ G7 H7 g7 => ?_
  · rcases hB.left with e | ⟨e1, e2⟩
    · rw [e]; rfl
    · rw [e2, decide_eq_true rfl, e1]; simp
  have g47 := (g5.trans g6).trans g7
  have hl1 : one.length = M.length := by rw [hB.len]; exact hone.1
  refine s_ret (K := K) (d := .bool true) g7.s (ed_is (ed_op (d := natD (diffN one M)) (ed_is (ed_cb (ea_cons (ed_lc (one.zip M) (fun p => .tuple [.int p.1, .int p.2]) (fun p => !decide (p.1 = p.2)) (fun _ => .int 1) ?_ ?_ ?_) ea_nil) ra_lenL) ?_) (ed_var rfl (.int _)) rd_eqN) ?_) fun v G8 H8 g8 hd => q _ v G8 H8 rfl ((g14.trans g47).trans g8) hd
  · rw [← zip_map2]
    exact es_zipT (by rw [List.length_map, List.length_map]; omega) (ea_cons (ed_var rfl (dp_mono ((g3.trans g4).trans g47).g _ _ h4)) (ea_cons (ed_op (ed_var rfl (dp_mono g47.g _ _ h7)) ed_int (rd_ixL (j := 1) rfl rfl)) ea_nil))
  · rw [List.length_zip]
    have := hB.len
    omega
  · rintro ⟨x, y⟩ hm xv G' H' g' hx
    obtain ⟨u1, u2, e1, e2, gk⟩ := g_pair hx
    cases e1; cases e2
    exact ⟨_, fun Q q => gk _ _ _ _ _ g'.s q, rfl, et_test (K := K) (ed_op (ed_var rfl (.int _)) (ed_var rfl (.int _)) rd_neI), fun _ => ed_int⟩
  · rw [List.length_map]; rfl
  · rw [hB.due, decide_eq_true rfl]
end
end Bw
/-! Lots as vectors; masks; how many. -/
set_option linter.all false
namespace Bo
def lotVec (lot : List Nat) : Vec := fun k => decide (k ∈ lot)
def xsum : List Nat → Vec → Bool
  | [], _ => false
  | t :: r, f => (f t).xor (xsum r f)
theorem xsum_app (a b : List Nat) (f : Vec) : xsum (a ++ b) f = (xsum a f).xor (xsum b f) := by
  induction a with
  | nil => show xsum b f = (false).xor (xsum b f); simp
  | cons t r ih =>
    show (f t).xor (xsum (r ++ b) f) = ((f t).xor (xsum r f)).xor (xsum b f)
    rw [ih, Bool.xor_assoc]
theorem xsum_perm {a b : List Nat} (h : a.Perm b) (f : Vec) : xsum a f = xsum b f := by
  induction h with
  | nil => rfl
  | cons x _ ih => show (f x).xor _ = (f x).xor _; rw [ih]
  | swap x y l =>
    show (f y).xor ((f x).xor _) = (f x).xor ((f y).xor _)
    cases f x <;> cases f y <;> simp
  | trans _ _ h1 h2 => exact h1.trans h2
theorem xsum_vadd (l : List Nat) (f g : Vec) : xsum l (vadd f g) = (xsum l f).xor (xsum l g) := by
  induction l with
  | nil => rfl
  | cons t r ih =>
    show ((f t).xor (g t)).xor (xsum r (vadd f g)) = ((f t).xor (xsum r f)).xor ((g t).xor (xsum r g))
    rw [ih]
    cases f t <;> cases g t <;> cases xsum r f <;> cases xsum r g <;> rfl
theorem xsum_congr {l : List Nat} {m : Nat} {f g : Vec} (hb : ∀ t ∈ l, t < m) (h : EqM m f g) : xsum l f = xsum l g := by
  induction l with
  | nil => rfl
  | cons t r ih =>
    show (f t).xor (xsum r f) = (g t).xor (xsum r g)
    rw [ih fun x hx => hb x (List.mem_cons_of_mem _ hx), h t (hb t (List.mem_cons_self ..))]
theorem lotVec_cons {t : Nat} {r : List Nat} (h : t ∉ r) : lotVec (t :: r) = vadd (unit t) (lotVec r) := by
  funext k
  show decide (k ∈ t :: r) = (decide (k = t)).xor (decide (k ∈ r))
  by_cases e : k = t
  · subst e; simp [h]
  · simp [e]
theorem dot_lot {m : Nat} {lot : List Nat} (f : Vec) (hn : lot.Nodup) (hb : ∀ t ∈ lot, t < m) : dot m (lotVec lot) f = xsum lot f := by
  induction lot with
  | nil =>
    show dot m (lotVec []) f = false
    rw [← dot_zero m f]
    exact dot_congr (fun i _ => by simp [lotVec, vzero]) EqM.rfl
  | cons t r ih =>
    obtain ⟨h1, h2⟩ := List.nodup_cons.mp hn
    rw [lotVec_cons h1, dot_add, dot_unit f (hb t (List.mem_cons_self ..)), ih h2 fun x hx => hb x (List.mem_cons_of_mem _ hx)]
    rfl
/-! sums of powers -/
theorem testBit_add_pow : ∀ (k s j : Nat), s.testBit k = false → (s + 2 ^ k).testBit j = (s.testBit j || decide (j = k))
  | 0, s, j, h => by
    have h0 : s % 2 = 0 := by
      rw [Nat.testBit_zero] at h
      have := of_decide_eq_false h
      omega
    cases j with
    | zero => rw [Nat.testBit_zero, Nat.testBit_zero]; simp; omega
    | succ j =>
      rw [Nat.testBit_succ, Nat.testBit_succ]
      have : (s + 2 ^ 0) / 2 = s / 2 := by simp; omega
      rw [this]; simp
  | k + 1, s, j, h => by
    rw [Nat.testBit_succ] at h
    have e : 2 ^ (k + 1) = 2 * 2 ^ k := by rw [Nat.pow_succ, Nat.mul_comm]
    cases j with
    | zero =>
      rw [Nat.testBit_zero, Nat.testBit_zero]
      have : (s + 2 ^ (k + 1)) % 2 = s % 2 := by omega
      rw [this]; simp
    | succ j =>
      rw [Nat.testBit_succ, Nat.testBit_succ]
      have : (s + 2 ^ (k + 1)) / 2 = s / 2 + 2 ^ k := by omega
      rw [this, testBit_add_pow k (s / 2) j h]
      simp
theorem powSum_bit {l : List Nat} (hn : l.Nodup) (k : Nat) : ((l.map (2 ^ ·)).sum).testBit k = decide (k ∈ l) := by
  induction l generalizing k with
  | nil => simp
  | cons t r ih =>
    obtain ⟨h1, h2⟩ := List.nodup_cons.mp hn
    have h3 := ih h2
    rw [List.map_cons, List.sum_cons, Nat.add_comm, testBit_add_pow t _ k (by rw [h3]; simpa using h1), h3]
    by_cases e : k = t
    · subst e; simp
    · simp [e]
theorem lMask_bit {l : List Nat} (hn : l.Nodup) (k : Nat) : (lMask l).testBit k = decide (k ∈ l) := powSum_bit hn k
theorem bitsOf_vec {m : Nat} {lot : List Nat} (hn : lot.Nodup) (hb : ∀ t ∈ lot, t < m) : EqM m (bvec m (bitsOf m lot)) (lotVec lot) := fun k hk => by
  have e : bitsOf m lot = ((lot.map fun t => m - 1 - t).map (2 ^ ·)).sum := by
    unfold bitsOf
    rw [List.map_map]; rfl
  have hn2 : (lot.map fun t => m - 1 - t).Nodup := by
    clear e
    induction lot with
    | nil => exact List.nodup_nil
    | cons t r ih =>
      obtain ⟨h1, h2⟩ := List.nodup_cons.mp hn
      rw [List.map_cons]
      refine List.nodup_cons.mpr ⟨fun z => ?_, ih h2 fun x hx => hb x (List.mem_cons_of_mem _ hx)⟩
      obtain ⟨x, hx, ex⟩ := List.mem_map.mp z
      have := hb t (List.mem_cons_self ..)
      have := hb x (List.mem_cons_of_mem _ hx)
      have : x = t := by omega
      exact h1 (this ▸ hx)
  unfold bvec
  rw [e, powSum_bit hn2]
  show decide _ = decide _
  congr 1
  refine propext ⟨fun z => ?_, fun z => List.mem_map.mpr ⟨k, z, rfl⟩⟩
  obtain ⟨x, hx, ex⟩ := List.mem_map.mp z
  have := hb x hx
  have : x = k := by omega
  exact this ▸ hx
/-! masks -/
def mvec (c : Nat) : Vec := fun k => c.testBit k
theorem mvec_xor (a b : Nat) : mvec (a ^^^ b) = vadd (mvec a) (mvec b) := by funext k; show (a ^^^ b).testBit k = _; rw [Nat.testBit_xor]; rfl
theorem mvec_hi {m c : Nat} (h : c < 2 ^ m) {i : Nat} (hi : m ≤ i) : mvec c i = false := Nat.testBit_lt_two_pow (Nat.lt_of_lt_of_le h (Nat.pow_le_pow_right (by decide) hi))
theorem mvec_inj {m a b : Nat} (ha : a < 2 ^ m) (hb : b < 2 ^ m) (h : EqM m (mvec a) (mvec b)) : a = b := by
  refine Nat.eq_of_testBit_eq fun i => ?_
  by_cases hi : i < m
  · exact h i hi
  · have h1 := mvec_hi ha (i := i) (by omega)
    have h2 := mvec_hi hb (i := i) (by omega)
    show mvec a i = mvec b i
    rw [h1, h2]
theorem dot_hi {m k : Nat} {f g : Vec} (h : ∀ i, m ≤ i → f i = false) (hk : m ≤ k) : dot k f g = dot m f g := by
  induction k with
  | zero =>
    have : m = 0 := by omega
    subst this; rfl
  | succ k ih =>
    by_cases e : m = k + 1
    · subst e; rfl
    · show (dot k f g).xor (f k && g k) = _
      rw [ih (by omega), h k (by omega)]; simp
def popc : Nat → Nat → Nat
  | 0, _ => 0
  | m + 1, c => popc m c + if c.testBit m then 1 else 0
theorem lBits_popc {c : Nat} (h : c < 256) : lBits c = popc 8 c := by
  have key : ∀ x : Fin 256, lBits x.val = popc 8 x.val := by decide +kernel
  exact key ⟨c, h⟩
theorem popc_dot (m a b : Nat) : decide (popc m (a &&& b) % 2 = 1) = dot m (mvec a) (mvec b) := by
  induction m with
  | zero => rfl
  | succ m ih =>
    show decide ((popc m (a &&& b) + if (a &&& b).testBit m then 1 else 0) % 2 = 1) = (dot m (mvec a) (mvec b)).xor (a.testBit m && b.testBit m)
    rw [← ih, Nat.testBit_and]
    cases a.testBit m && b.testBit m with
    | true =>
      rw [if_pos rfl]
      by_cases c : popc m (a &&& b) % 2 = 1
      · rw [decide_eq_true c, decide_eq_false (by omega)]; rfl
      · rw [decide_eq_false c, decide_eq_true (by omega)]; rfl
    | false =>
      rw [if_neg Bool.false_ne_true]
      simp
theorem and_lt256 {a b m : Nat} (ha : a < 2 ^ m) (hm : m ≤ 8) : a &&& b < 256 :=
  Nat.lt_of_le_of_lt Nat.and_le_left (Nat.lt_of_lt_of_le ha (Nat.pow_le_pow_right (by decide) hm))
theorem lOdd_dot {a b m : Nat} (ha : a < 2 ^ m) (hm : m ≤ 8) : lOdd a b = dot m (mvec a) (mvec b) := by
  unfold lOdd
  rw [lBits_popc (and_lt256 ha hm), popc_dot, dot_hi (fun i hi => mvec_hi ha hi) hm]
theorem popc_hi {m k c : Nat} (h : c < 2 ^ m) (hk : m ≤ k) : popc k c = popc m c := by
  induction k with
  | zero =>
    have : m = 0 := by omega
    subst this; rfl
  | succ k ih =>
    by_cases e : m = k + 1
    · subst e; rfl
    · show popc k c + _ = _
      have : c.testBit k = false := mvec_hi h (by omega)
      rw [ih (by omega), this]; simp
/-- a lot's members, counted -/
theorem popc_lot {m : Nat} {c : Nat} {l : List Nat} (hn : l.Nodup) (hb : ∀ t ∈ l, t < m) (h : EqM m (mvec c) (lotVec l)) : popc m c = l.length := by
  induction m generalizing l with
  | zero =>
    cases l with
    | nil => rfl
    | cons t r => exact absurd (hb t (List.mem_cons_self ..)) (Nat.not_lt_zero _)
  | succ m ih =>
    show popc m c + _ = _
    have hm : c.testBit m = decide (m ∈ l) := h m (by omega)
    by_cases e : m ∈ l
    · have h2 := ih (l := l.erase m) (hn.erase _) (fun t ht => by
        have h3 := hb t (List.mem_of_mem_erase ht)
        have : t ≠ m := fun z => by
          subst z
          exact (List.Nodup.not_mem_erase hn) ht
        omega) fun k hk => by
          rw [h k (by omega)]
          show decide (k ∈ l) = decide (k ∈ l.erase m)
          congr 1
          exact propext (List.mem_erase_of_ne (by omega)).symm
      rw [hm, decide_eq_true e, if_pos rfl, h2, List.length_erase_of_mem e]
      have := List.length_pos_of_mem e
      omega
    · have h2 := ih (l := l) hn (fun t ht => by
        have h3 := hb t ht
        have : t ≠ m := fun z => e (z ▸ ht)
        omega) fun k hk => h k (by omega)
      rw [hm, decide_eq_false e, h2]; simp
end Bo
set_option linter.all false
/-! The first tree; the walk through it; its rounds. -/
namespace Bo
theorem zip_range (T : Ties) : T.zipIdx = (List.range T.length).map fun t => (ends T t, t) := by
  refine List.ext_getElem (by simp) fun i h1 h2 => ?_
  have hi : i < T.length := by simpa using h1
  simp [ends, List.getD_eq_getElem?_getD, List.getElem?_eq_getElem hi]
theorem getD_map {f : Nat → Nat} {l : List Nat} {a : Nat} (h : a < l.length) : (l.map f).getD a 0 = f (l.getD a 0) := by
  rw [List.getD_eq_getElem?_getD, List.getD_eq_getElem?_getD, List.getElem?_map, List.getElem?_eq_getElem h]; rfl
/-- the first k ties are looked at -/
structure TreeI (n : Nat) (T : Ties) (k : Nat) (st : List Nat × List Nat) : Prop where
  len : st.2.length = n
  lt : ∀ t ∈ st.1, t < k
  eq : ∀ j, j < k → st.2.getD (ends T j).1 0 = st.2.getD (ends T j).2 0
  con : ∀ S : Nat → Bool, (∀ t ∈ st.1, S (ends T t).1 = S (ends T t).2) → ∀ a b, a < n → b < n → st.2.getD a 0 = st.2.getD b 0 → S a = S b
  acy : ∀ x, IsEven n T x → (∀ j, j < T.length → x j = true → j ∈ st.1) → EqM T.length x vzero
section
variable {n : Nat} {T : Ties}
theorem treeI (w : Web n T) : ∀ k, k ≤ T.length → TreeI n T k (((List.range k).map fun t => (ends T t, t)).foldl treeTurn ([], List.range n)) := by
  intro k
  induction k with
  | zero =>
    intro _
    refine ⟨List.length_range, fun t h => by simp at h, fun j h => by omega, fun S _ a b ha hb e => ?_, fun x _ h j hj => ?_⟩
    · have h1 : ∀ c, c < n → (List.range n).getD c 0 = c := fun c hc => by simp [List.getD_eq_getElem?_getD, hc]
      show S a = S b
      have e : (List.range n).getD a 0 = (List.range n).getD b 0 := e
      rw [h1 a ha, h1 b hb] at e
      rw [e]
    · cases e : x j with
      | false => rfl
      | true => exact absurd (h j hj e) (by simp)
  | succ k ih =>
    intro hk
    have I := ih (by omega)
    rw [List.range_succ, List.map_append, List.foldl_append]
    generalize ((List.range k).map fun t => (ends T t, t)).foldl treeTurn ([], List.range n) = st at I
    show TreeI n T (k + 1) (treeTurn st (ends T k, k))
    have hw := w.lt (k := k) (by omega)
    unfold treeTurn
    dsimp only
    generalize hl : st.2.getD (ends T k).1 0 = l
    generalize hr : st.2.getD (ends T k).2 0 = r
    by_cases c : l = r
    · rw [if_pos c]
      refine ⟨I.len, fun t ht => Nat.lt_succ_of_lt (I.lt t ht), fun j hj => ?_, I.con, I.acy⟩
      by_cases e : j = k
      · subst e; rw [hl, hr, c]
      · exact I.eq j (by omega)
    · rw [if_neg c]
      have hm : ∀ a, a < n → (st.2.map fun h => if h = r then l else h).getD a 0 = if st.2.getD a 0 = r then l else st.2.getD a 0 := fun a ha => getD_map (f := fun h => if h = r then l else h) (by rw [I.len]; exact ha)
      refine ⟨by rw [List.length_map]; exact I.len, fun t ht => ?_, fun j hj => ?_, fun S hS a b ha hb e => ?_, fun x hx hs => ?_⟩
      · rcases List.mem_append.mp ht with z | z
        · exact Nat.lt_succ_of_lt (I.lt t z)
        · rw [List.mem_singleton.mp z]; exact Nat.lt_succ_self _
      · have hj' := w.lt (k := j) (by omega)
        show (st.2.map _).getD _ 0 = (st.2.map _).getD _ 0
        rw [hm _ (by omega), hm _ hj'.2]
        by_cases e : j = k
        · subst e; rw [hl, hr, if_neg c, if_pos rfl]
        · rw [I.eq j (by omega)]
      · have e : (st.2.map fun h => if h = r then l else h).getD a 0 = (st.2.map fun h => if h = r then l else h).getD b 0 := e
        rw [hm a ha, hm b hb] at e
        have hS1 : ∀ t ∈ st.1, S (ends T t).1 = S (ends T t).2 := fun t ht => hS t (List.mem_append_left _ ht)
        have hSk : S (ends T k).1 = S (ends T k).2 := hS k (List.mem_append_right _ (List.mem_singleton.mpr rfl))
        have con := I.con S hS1
        by_cases ca : st.2.getD a 0 = r <;> by_cases cb : st.2.getD b 0 = r
        · exact con a b ha hb (ca.trans cb.symm)
        · rw [if_pos ca, if_neg cb] at e
          rw [con a _ ha hw.2 (ca.trans hr.symm), ← hSk]
          exact con _ b (by omega) hb (hl.trans e)
        · rw [if_neg ca, if_pos cb] at e
          rw [con b _ hb hw.2 (cb.trans hr.symm), ← hSk]
          exact con a _ ha (by omega) (e.trans hl.symm)
        · rw [if_neg ca, if_neg cb] at e
          exact con a b ha hb e
      · have hs : ∀ j, j < T.length → x j = true → j ∈ st.1 ++ [k] := hs
        have hc := even_cut w hx (y := cutv T fun p => decide (st.2.getD p 0 = l)) ⟨_, EqM.rfl⟩
        rw [dot_single (k := k) (by omega) fun i hi ne => ?_] at hc
        · have : cutv T (fun p => decide (st.2.getD p 0 = l)) k = true := by
            show Bool.xor (decide _) (decide _) = true
            rw [hl, hr, decide_eq_true rfl, decide_eq_false fun z => c z.symm]; rfl
          rw [this, Bool.and_true] at hc
          refine I.acy x hx fun j hj e => ?_
          rcases List.mem_append.mp (hs j hj e) with z | z
          · exact z
          · rw [List.mem_singleton.mp z, hc] at e; cases e
        · cases e : x i with
          | false => rfl
          | true =>
            rcases List.mem_append.mp (hs i hi e) with z | z
            · have := I.eq i (I.lt i z)
              show (true && Bool.xor (decide _) (decide _)) = false
              rw [this]; simp
            · exact absurd (List.mem_singleton.mp z) ne
theorem firstTreeI (w : Web n T) : TreeI n T T.length (treeRun n T) := by
  unfold treeRun
  rw [zip_range]
  exact treeI w _ (Nat.le_refl _)
theorem tree_lt (w : Web n T) {t : Nat} (h : t ∈ firstTree n T) : t < T.length := (firstTreeI w).lt t h
theorem tree_con (w : Web n T) (S : Nat → Bool) (hS : ∀ t ∈ firstTree n T, S (ends T t).1 = S (ends T t).2) {t : Nat} (h : t < T.length) : S (ends T t).1 = S (ends T t).2 := by
  have hw := w.lt h
  exact (firstTreeI w).con S hS _ _ (by omega) hw.2 ((firstTreeI w).eq t h)
theorem tree_acy (w : Web n T) {x : Vec} (hx : IsEven n T x) (hs : ∀ j, j < T.length → x j = true → j ∈ firstTree n T) : EqM T.length x vzero := (firstTreeI w).acy x hx hs
end
/-! the walk -/
def Kn (k : List (Nat × List Nat)) (p : Nat) : Prop := ∃ q ∈ k, q.1 = p
theorem kn_iff {k : List (Nat × List Nat)} {p : Nat} : Kn k p ↔ valN k p ≠ none := by
  unfold Kn
  rw [← valN_isSome]
  cases valN k p <;> simp
structure PathI (n : Nat) (T : Ties) (tree : List Nat) (one : Nat) (k : List (Nat × List Nat)) : Prop where
  nd : (k.map (·.1)).Nodup
  lt : ∀ q ∈ k, q.1 < n
  path : ∀ q ∈ k, q.2.Nodup ∧ (∀ t ∈ q.2, t ∈ tree ∧ Kn k (ends T t).1 ∧ Kn k (ends T t).2) ∧ ∀ p, xsum q.2 (star T p) = (decide (p = one)).xor (decide (p = q.1))
  one : Kn k one
def Closed (T : Ties) (k : List (Nat × List Nat)) (p t : Nat) : Prop := (p = (ends T t).1 → Kn k (ends T t).2) ∧ (p = (ends T t).2 → Kn k (ends T t).1)
structure DfsI (n : Nat) (T : Ties) (tree : List Nat) (one : Nat) (s : Dfs) : Prop where
  pth : PathI n T tree one s.known
  wk : ∀ p ∈ s.waiting, Kn s.known p
  cl : ∀ p, Kn s.known p → p ∉ s.waiting → ∀ t ∈ tree, Closed T s.known p t
structure DfsT (n : Nat) (T : Ties) (tree : List Nat) (one here w0 k0 : Nat) (done : List Nat) (s : Dfs) : Prop where
  pth : PathI n T tree one s.known
  wk : ∀ p ∈ s.waiting, Kn s.known p
  hk : Kn s.known here
  cl : ∀ p, Kn s.known p → p ≠ here → p ∉ s.waiting → ∀ t ∈ tree, Closed T s.known p t
  cd : ∀ t ∈ done, Closed T s.known here t
  ln : s.waiting.length + k0 = s.known.length + w0
theorem kn_app {k r : List (Nat × List Nat)} {p : Nat} (h : Kn k p) : Kn (k ++ r) p := let ⟨q, a, b⟩ := h; ⟨q, List.mem_append_left _ a, b⟩
theorem closed_app {T : Ties} {k r : List (Nat × List Nat)} {p t : Nat} (h : Closed T k p t) : Closed T (k ++ r) p t := ⟨fun e => kn_app (h.1 e), fun e => kn_app (h.2 e)⟩
section
variable {n : Nat} {T : Ties} {tree : List Nat} {one here w0 k0 : Nat} {done : List Nat} {s : Dfs}
theorem star_end (w : Web n T) {t : Nat} (ht : t < T.length) {p : Nat} (hp : p = (ends T t).1 ∨ p = (ends T t).2) (q : Nat) : star T q t = (decide (q = p)).xor (decide (q = goalOf (ends T t) p)) := by
  have h := w.lt ht
  have key : (decide ((ends T t).1 = q) || decide ((ends T t).2 = q)) = (decide (q = (ends T t).1)).xor (decide (q = (ends T t).2)) := by
    by_cases a : q = (ends T t).1
    · rw [decide_eq_true a, decide_eq_true a.symm, decide_eq_false (show ¬ q = (ends T t).2 by omega)]; rfl
    · by_cases b : q = (ends T t).2
      · rw [decide_eq_false a, decide_eq_true b, decide_eq_false (show ¬ (ends T t).1 = q from fun z => a z.symm), decide_eq_true b.symm]; rfl
      · rw [decide_eq_false a, decide_eq_false b, decide_eq_false (show ¬ (ends T t).1 = q from fun z => a z.symm), decide_eq_false (show ¬ (ends T t).2 = q from fun z => b z.symm)]; rfl
  show (decide _ || decide _) = _
  rw [key]
  rcases hp with e | e
  · subst e
    unfold goalOf
    rw [if_pos rfl]
  · subst e
    unfold goalOf
    rw [if_neg (by omega), Bool.xor_comm]
theorem goal_cases (w : Web n T) {t : Nat} (ht : t < T.length) {p : Nat} (hp : p = (ends T t).1 ∨ p = (ends T t).2) : (p = (ends T t).1 ∧ goalOf (ends T t) p = (ends T t).2) ∨ (p = (ends T t).2 ∧ goalOf (ends T t) p = (ends T t).1) := by
  have h := w.lt ht
  rcases hp with e | e
  · exact .inl ⟨e, by unfold goalOf; rw [if_pos e.symm]⟩
  · exact .inr ⟨e, by unfold goalOf; rw [if_neg (by omega)]⟩
theorem dfsTurn_T (w : Web n T) (htl : ∀ t ∈ tree, t < T.length) {t : Nat} (ht : t ∈ tree) (I : DfsT n T tree one here w0 k0 done s) : DfsT n T tree one here w0 k0 (done ++ [t]) (dfsTurn T here s t) := by
  unfold dfsTurn
  have htT := htl t ht
  have hw := w.lt htT
  by_cases c : here = (ends T t).1 ∨ here = (ends T t).2
  · rw [if_pos c]
    have hg := goal_cases w htT c
    have hgn : goalOf (ends T t) here < n := by rcases hg with ⟨_, e⟩ | ⟨_, e⟩ <;> rw [e] <;> omega
    have hgh : goalOf (ends T t) here ≠ here := by rcases hg with ⟨a, e⟩ | ⟨a, e⟩ <;> rw [e, a] <;> omega
    by_cases c2 : valN s.known (goalOf (ends T t) here) = none
    · rw [if_pos c2]
      obtain ⟨⟨hp, pl⟩, hm, rfl⟩ := I.hk
      have hv : valN s.known hp = some pl := valN_of I.pth.nd hm
      dsimp only at hg hgn hgh c c2 ⊢
      rw [hv]
      have hnew : ¬ Kn s.known (goalOf (ends T t) hp) := fun z => kn_iff.mp z c2
      have hgK : ∀ r, Kn (s.known ++ [(goalOf (ends T t) hp, r)]) (goalOf (ends T t) hp) := fun r => ⟨_, List.mem_append_right _ (List.mem_singleton.mpr rfl), rfl⟩
      obtain ⟨pn, pt, px⟩ := I.pth.path _ hm
      have hkh : Kn s.known hp := ⟨_, hm, rfl⟩
      have htp : t ∉ pl := fun z => by
        obtain ⟨_, a, b⟩ := pt t z
        rcases hg with ⟨_, e⟩ | ⟨_, e⟩
        · exact hnew (e ▸ b)
        · exact hnew (e ▸ a)
      refine ⟨⟨nodup_snoc I.pth.nd c2, fun q hq => ?_, fun q hq => ?_, kn_app I.pth.one⟩, fun p hp' => ?_, kn_app hkh, fun p hp' hne hnw t' ht' => ?_, fun t' ht' => ?_, ?_⟩
      · rcases List.mem_append.mp hq with z | z
        · exact I.pth.lt q z
        · rw [List.mem_singleton.mp z]; exact hgn
      · rcases List.mem_append.mp hq with z | z
        · obtain ⟨a, b, d⟩ := I.pth.path q z
          exact ⟨a, fun t' ht' => ⟨(b t' ht').1, kn_app (b t' ht').2.1, kn_app (b t' ht').2.2⟩, d⟩
        · rw [List.mem_singleton.mp z]
          dsimp only [Option.getD_some]
          refine ⟨?_, fun t' ht' => ?_, fun p => ?_⟩
          · rw [List.nodup_append]
            exact ⟨pn, List.nodup_cons.mpr ⟨by simp, List.nodup_nil⟩, fun a ha b hb => by rw [List.mem_singleton.mp hb]; exact fun z => htp (z ▸ ha)⟩
          · rcases List.mem_append.mp ht' with y | y
            · exact ⟨(pt t' y).1, kn_app (pt t' y).2.1, kn_app (pt t' y).2.2⟩
            · rw [List.mem_singleton.mp y]
              refine ⟨ht, ?_⟩
              rcases hg with ⟨e1, e2⟩ | ⟨e1, e2⟩
              · exact ⟨kn_app (e1 ▸ hkh), e2 ▸ hgK _⟩
              · exact ⟨e2 ▸ hgK _, kn_app (e1 ▸ hkh)⟩
          · rw [xsum_app, px p]
            show Bool.xor (Bool.xor _ _) (Bool.xor (star T p t) false) = _
            rw [star_end w htT c, Bool.xor_false]
            dsimp only
            cases decide (p = one) <;> cases decide (p = hp) <;> cases decide (p = goalOf (ends T t) hp) <;> rfl
      · rcases List.mem_append.mp hp' with z | z
        · exact kn_app (I.wk p z)
        · rw [List.mem_singleton.mp z]; exact hgK _
      · have hnw1 : p ∉ s.waiting := fun z => hnw (List.mem_append_left _ z)
        have hnw2 : p ≠ goalOf (ends T t) hp := fun z => hnw (List.mem_append_right _ (List.mem_singleton.mpr z))
        have hkp : Kn s.known p := by
          obtain ⟨q, hq, e⟩ := hp'
          rcases List.mem_append.mp hq with z | z
          · exact ⟨q, z, e⟩
          · rw [List.mem_singleton.mp z] at e
            exact absurd e.symm hnw2
        exact closed_app (I.cl p hkp hne hnw1 t' ht')
      · rcases List.mem_append.mp ht' with z | z
        · exact closed_app (I.cd t' z)
        · rw [List.mem_singleton.mp z]
          rcases hg with ⟨e1, e2⟩ | ⟨e1, e2⟩
          · exact ⟨fun _ => e2 ▸ hgK _, fun z => by omega⟩
          · exact ⟨fun z => by omega, fun _ => e2 ▸ hgK _⟩
      · have := I.ln
        simp only [List.length_append, List.length_singleton]
        omega
    · rw [if_neg c2]
      refine ⟨I.pth, I.wk, I.hk, I.cl, fun t' ht' => ?_, I.ln⟩
      rcases List.mem_append.mp ht' with z | z
      · exact I.cd t' z
      · rw [List.mem_singleton.mp z]
        have hk := kn_iff.mpr c2
        rcases hg with ⟨e1, e2⟩ | ⟨e1, e2⟩
        · exact ⟨fun _ => e2 ▸ hk, fun z => by omega⟩
        · exact ⟨fun z => by omega, fun _ => e2 ▸ hk⟩
  · rw [if_neg c]
    refine ⟨I.pth, I.wk, I.hk, I.cl, fun t' ht' => ?_, I.ln⟩
    rcases List.mem_append.mp ht' with z | z
    · exact I.cd t' z
    · rw [List.mem_singleton.mp z]
      exact ⟨fun e => absurd (.inl e) c, fun e => absurd (.inr e) c⟩
theorem dfsFold_T (w : Web n T) (htl : ∀ t ∈ tree, t < T.length) (l : List Nat) (hl : ∀ t ∈ l, t ∈ tree) : ∀ {done : List Nat} {s : Dfs}, DfsT n T tree one here w0 k0 done s → DfsT n T tree one here w0 k0 (done ++ l) (l.foldl (dfsTurn T here) s) := by
  induction l with
  | nil => intro done s I; rw [List.append_nil]; exact I
  | cons t r ih =>
    intro done s I
    have := ih (fun x hx => hl x (List.mem_cons_of_mem _ hx)) (dfsTurn_T w htl (hl t (List.mem_cons_self ..)) I)
    rw [List.append_assoc] at this
    exact this
theorem path_len (h : PathI n T tree one s.known) : s.known.length ≤ n := by
  have := nodup_lt h.nd fun x hx => by
    obtain ⟨q, hq, rfl⟩ := List.mem_map.mp hx
    exact h.lt q hq
  rwa [List.length_map] at this
theorem dfsStep_I (w : Web n T) (htl : ∀ t ∈ tree, t < T.length) (I : DfsI n T tree one s) {ws : List Nat} {p : Nat} (e : s.waiting = ws ++ [p]) :
    DfsI n T tree one (dfsStep T tree s) ∧ (n - (dfsStep T tree s).known.length) + (dfsStep T tree s).waiting.length < (n - s.known.length) + s.waiting.length := by
  have I0 : DfsT n T tree one p ws.length s.known.length [] ⟨s.known, ws⟩ := ⟨I.pth, fun q hq => I.wk q (by rw [e]; exact List.mem_append_left _ hq), I.wk p (by rw [e]; exact List.mem_append_right _ (List.mem_singleton.mpr rfl)), fun q hq hne hnw => I.cl q hq (fun z => by
    rw [e] at z
    rcases List.mem_append.mp z with y | y
    · exact hnw y
    · exact hne (List.mem_singleton.mp y)), fun _ h => by simp at h, Nat.add_comm _ _⟩
  have I1 := dfsFold_T w htl tree (fun _ h => h) I0
  have es : dfsStep T tree s = tree.foldl (dfsTurn T p) ⟨s.known, ws⟩ := by
    unfold dfsStep
    rw [e, List.getLastD_concat, List.dropLast_concat]
  rw [es]
  generalize tree.foldl (dfsTurn T p) ⟨s.known, ws⟩ = s' at I1
  rw [List.nil_append] at I1
  refine ⟨⟨I1.pth, I1.wk, fun q hq hnw t ht => ?_⟩, ?_⟩
  · by_cases c : q = p
    · rw [c]; exact I1.cd t ht
    · exact I1.cl q hq c hnw t ht
  · have h1 := path_len I1.pth
    have h2 := path_len I.pth
    have h3 := I1.ln
    rw [e, List.length_append, List.length_singleton]
    omega
theorem dfsI_init (hn : one < n) : DfsI n T tree one ⟨[(one, [])], [one]⟩ := by
  have hk : Kn [(one, ([] : List Nat))] one := ⟨_, List.mem_singleton.mpr rfl, rfl⟩
  refine ⟨⟨by simp, fun q hq => ?_, fun q hq => ?_, hk⟩, fun p hp => ?_, fun p hp hnw => ?_⟩
  · rw [List.mem_singleton.mp hq]; exact hn
  · rw [List.mem_singleton.mp hq]
    exact ⟨List.nodup_nil, fun _ h => by simp at h, fun p => by show false = _; simp⟩
  · rw [List.mem_singleton.mp hp]; exact hk
  · obtain ⟨q, hq, rfl⟩ := hp
    rw [List.mem_singleton.mp hq] at hnw
    exact absurd (List.mem_singleton.mpr rfl) hnw
/-- the walk ends at the other place, with a way from the one to it -/
theorem dfs_way (w : Web n T) (hn9 : n ≤ 9) (htl : ∀ t ∈ tree, t < T.length) {other : Nat} (h1 : one < n) (hcon : ∀ S : Nat → Bool, (∀ t ∈ tree, S (ends T t).1 = S (ends T t).2) → S one = S other) :
    DfsRuns T tree one other ∧ (wayIn T tree one other).Nodup ∧ (∀ t ∈ wayIn T tree one other, t ∈ tree) ∧ ∀ p, xsum (wayIn T tree one other) (star T p) = (decide (p = one)).xor (decide (p = other)) := by
  have key : ∀ s : Dfs, DfsI n T tree one s → dfsGo other s = true → dfsOk s ∧ DfsI n T tree one (dfsStep T tree s) ∧ (n - (dfsStep T tree s).known.length) + (dfsStep T tree s).waiting.length < (n - s.known.length) + s.waiting.length := by
    intro s I hg
    have hno : valN s.known other = none := by
      unfold dfsGo at hg
      exact Option.isNone_iff_eq_none.mp hg
    have hne : s.waiting ≠ [] := fun z => by
      have hS := hcon (fun p => (valN s.known p).isSome) fun t ht => by
        have hcl : ∀ p, Kn s.known p → Closed T s.known p t := fun p hp => I.cl p hp (by rw [z]; simp) t ht
        rw [Bool.eq_iff_iff]
        constructor
        · intro h
          exact valN_isSome.mpr ((hcl _ (valN_isSome.mp h)).1 rfl)
        · intro h
          exact valN_isSome.mpr ((hcl _ (valN_isSome.mp h)).2 rfl)
      rw [hno, valN_isSome.mpr I.pth.one] at hS
      cases hS
    have hs := List.dropLast_concat_getLast hne
    refine ⟨?_, dfsStep_I w htl I hs.symm⟩
    have hk := I.wk _ (List.getLast_mem hne)
    cases e : valN s.known (s.waiting.getLast hne) with
    | none => exact absurd e (kn_iff.mp hk)
    | some l => exact ⟨_, _, l, hs.symm, e⟩
  obtain ⟨m, s', hm, r⟩ := runs_of (ok := dfsOk) (DfsI n T tree one) (fun s => (n - s.known.length) + s.waiting.length) (fun s I hg => key s I hg) n ⟨[(one, [])], [one]⟩ (dfsI_init h1) (by simp; omega)
  have hI := r.inv (DfsI n T tree one) (fun s I hg _ => (key s I hg).2.1) (dfsI_init h1)
  have he : valN s'.known other ≠ none := by
    have := r.ends
    unfold dfsGo at this
    intro z
    rw [z] at this
    cases this
  refine ⟨⟨m, s', by omega, r⟩, ?_⟩
  unfold wayIn
  rw [r.eq (by omega : m ≤ 64)]
  cases e : valN s'.known other with
  | none => exact absurd e he
  | some l =>
    obtain ⟨a, b, d⟩ := hI.pth.path _ (valN_mem e)
    exact ⟨a, fun t ht => (b t ht).1, d⟩
end
/-! its rounds -/
section
variable {n : Nat} {T : Ties}
theorem tree_way (w : Web n T) (hn9 : n ≤ 9) {t : Nat} (ht : t < T.length) : DfsRuns T (firstTree n T) (ends T t).1 (ends T t).2 ∧ (wayIn T (firstTree n T) (ends T t).1 (ends T t).2).Nodup ∧ (∀ j ∈ wayIn T (firstTree n T) (ends T t).1 (ends T t).2, j ∈ firstTree n T) ∧ ∀ p, xsum (wayIn T (firstTree n T) (ends T t).1 (ends T t).2) (star T p) = (decide (p = (ends T t).1)).xor (decide (p = (ends T t).2)) := dfs_way w hn9 (tree := firstTree n T) (fun t ht => tree_lt w ht) (one := (ends T t).1) (other := (ends T t).2) (by have := w.lt ht; omega) fun S hS => tree_con w S hS ht
theorem treeOk (w : Web n T) (hn9 : n ≤ 9) : TreeOk n T := fun t ht _ => (tree_way w hn9 ht).1
theorem sortN_perm (l : List Nat) : (sortN l).Perm l := List.mergeSort_perm _ _
theorem mem_treeRounds {l : List Nat} : l ∈ treeRounds n T ↔ ∃ t, t < T.length ∧ t ∉ firstTree n T ∧ l = sortN (t :: wayIn T (firstTree n T) (ends T t).1 (ends T t).2) := by
  unfold treeRounds
  rw [zip_range, List.mem_map]
  constructor
  · rintro ⟨q, hq, e⟩
    obtain ⟨h1, h2⟩ := List.mem_filter.mp hq
    obtain ⟨t, ht, rfl⟩ := List.mem_map.mp h1
    exact ⟨t, List.mem_range.mp ht, by simpa using h2, e.symm⟩
  · rintro ⟨t, h1, h2, e⟩
    exact ⟨(ends T t, t), List.mem_filter.mpr ⟨List.mem_map.mpr ⟨t, List.mem_range.mpr h1, rfl⟩, by simpa using h2⟩, e.symm⟩
theorem round_of (w : Web n T) (hn9 : n ≤ 9) {t : Nat} (ht : t < T.length) (hnt : t ∉ firstTree n T) : let l := sortN (t :: wayIn T (firstTree n T) (ends T t).1 (ends T t).2)
    IsEven n T (lotVec l) ∧ t ∈ l ∧ ∀ j ∈ l, j = t ∨ j ∈ firstTree n T := by
  intro l
  obtain ⟨_, a, b, d⟩ := tree_way w hn9 ht
  have hp : l.Perm (t :: wayIn T (firstTree n T) (ends T t).1 (ends T t).2) := sortN_perm _
  have hnw : t ∉ wayIn T (firstTree n T) (ends T t).1 (ends T t).2 := fun z => hnt (b t z)
  have hnd : l.Nodup := hp.nodup_iff.mpr (List.nodup_cons.mpr ⟨hnw, a⟩)
  have hm : ∀ j ∈ l, j = t ∨ j ∈ firstTree n T := fun j hj => by
    rcases List.mem_cons.mp (hp.mem_iff.mp hj) with z | z
    · exact .inl z
    · exact .inr (b j z)
  refine ⟨fun p hp' => ?_, hp.mem_iff.mpr (List.mem_cons_self ..), hm⟩
  rw [dot_lot _ hnd fun j hj => by
    rcases hm j hj with z | z
    · rw [z]; exact ht
    · exact tree_lt w z, xsum_perm hp]
  show Bool.xor (star T p t) (xsum _ _) = false
  rw [d p, star_end w ht (.inl rfl)]
  unfold goalOf
  rw [if_pos rfl]
  simp
/-- the rounds of the first tree are even, and span the even lots -/
theorem rounds_even (w : Web n T) (hn9 : n ≤ 9) : ∀ l ∈ treeRounds n T, IsEven n T (lotVec l) := fun l hl => by
  obtain ⟨t, h1, h2, rfl⟩ := mem_treeRounds.mp hl
  exact (round_of w hn9 h1 h2).1
theorem rounds_span (w : Web n T) (hn9 : n ≤ 9) {x : Vec} (hx : IsEven n T x) : Span T.length ((treeRounds n T).map lotVec) x := by
  refine tree_span (tree := fun k => decide (k ∈ firstTree n T)) (fun x hx hs => tree_acy w hx fun j hj e => of_decide_eq_true (hs j hj e)) (fun k hk hnt => ?_) hx
  have hnt : k ∉ firstTree n T := of_decide_eq_false hnt
  obtain ⟨a, b, d⟩ := round_of w hn9 hk hnt
  refine ⟨_, List.mem_map.mpr ⟨_, mem_treeRounds.mpr ⟨k, hk, hnt, rfl⟩, rfl⟩, a, decide_eq_true b, fun j hj hne e => decide_eq_true ?_⟩
  rcases d j (of_decide_eq_true e) with z | z
  · exact absurd z hne
  · exact z
end
end Bo
set_option linter.all false
/-! The thin cuts. -/
namespace Bo
theorem any_marks {lots : List (List Nat)} {t : Nat} : (marksOf lots t).any id = false ↔ ∀ l ∈ lots, t ∉ l := by
  unfold marksOf
  rw [List.any_map, List.any_eq_false]
  constructor
  · intro h l hl; simpa using h l hl
  · intro h l hl; simpa using h l hl
theorem marks_eq {lots : List (List Nat)} {t u : Nat} : marksOf lots u = marksOf lots t ↔ ∀ l ∈ lots, decide (u ∈ l) = decide (t ∈ l) := by
  unfold marksOf
  exact List.map_inj_left
theorem valB_mem {k : List (List Bool × Nat)} {x : List Bool} {a : Nat} (h : valB k x = some a) : (x, a) ∈ k := by
  unfold valB at h
  cases e : k.find? fun kv => decide (kv.1 = x) with
  | none => rw [e] at h; cases h
  | some z =>
    rw [e] at h
    have h1 := List.mem_of_find?_eq_some e
    have h2 := List.find?_some e
    have h2 : z.1 = x := of_decide_eq_true h2
    cases h
    rw [← h2]; exact h1
theorem valB_none {k : List (List Bool × Nat)} {x : List Bool} : valB k x = none ↔ ∀ p ∈ k, p.1 ≠ x := by
  unfold valB
  rw [Option.map_eq_none_iff, List.find?_eq_none]
  simp
theorem thinGo_some {lots : List (List Nat)} {l : List Nat} : ∀ (k t : Nat) (met : List (List Bool × Nat)), (∀ q ∈ met, q.1 = marksOf lots q.2 ∧ q.2 < t) → thinGo lots k t met = some l →
    (∃ v, v < t + k ∧ l = [v] ∧ (marksOf lots v).any id = false) ∨ (∃ u v, u < v ∧ v < t + k ∧ l = [u, v] ∧ marksOf lots u = marksOf lots v) := by
  intro k
  induction k with
  | zero => intro t met _ h; cases h
  | succ k ih =>
    intro t met hm h
    unfold thinGo at h
    by_cases c : (marksOf lots t).any id = false
    · rw [if_pos c] at h
      cases h
      exact .inl ⟨t, by omega, rfl, c⟩
    · rw [if_neg c] at h
      cases e : valB met (marksOf lots t) with
      | some u =>
        rw [e] at h
        cases h
        obtain ⟨h1, h2⟩ := hm _ (valB_mem e)
        exact .inr ⟨u, t, h2, by omega, rfl, h1.symm⟩
      | none =>
        rw [e] at h
        have := ih (t + 1) _ (fun q hq => by
          rcases List.mem_append.mp hq with z | z
          · have := hm q z
            exact ⟨this.1, by omega⟩
          · rw [List.mem_singleton.mp z]; exact ⟨rfl, by show t < t + 1; omega⟩) h
        rw [show t + 1 + k = t + (k + 1) by omega] at this
        exact this
theorem thinGo_none {lots : List (List Nat)} : ∀ (k t : Nat) (met : List (List Bool × Nat)), (∀ u, u < t → ∃ q ∈ met, q.1 = marksOf lots u) → thinGo lots k t met = none →
    ∀ v, t ≤ v → v < t + k → (marksOf lots v).any id ≠ false ∧ ∀ u, u < v → marksOf lots u ≠ marksOf lots v := by
  intro k
  induction k with
  | zero => intro t met _ _ v h1 h2; omega
  | succ k ih =>
    intro t met hm h v h1 h2
    unfold thinGo at h
    by_cases c : (marksOf lots t).any id = false
    · rw [if_pos c] at h; cases h
    · rw [if_neg c] at h
      cases e : valB met (marksOf lots t) with
      | some u => rw [e] at h; cases h
      | none =>
        rw [e] at h
        by_cases ev : v = t
        · subst ev
          refine ⟨c, fun u hu z => ?_⟩
          obtain ⟨q, hq, eq⟩ := hm u hu
          exact valB_none.mp e q hq (eq.trans z)
        · refine ih (t + 1) _ (fun u hu => ?_) h v (by omega) (by omega)
          by_cases eu : u = t
          · subst eu
            exact ⟨_, List.mem_append_right _ (List.mem_singleton.mpr rfl), rfl⟩
          · obtain ⟨q, hq, eq⟩ := hm u (by omega)
            exact ⟨q, List.mem_append_left _ hq, eq⟩
section
variable {n : Nat} {T : Ties}
/-- what meets the tree's rounds evenly is a cut -/
theorem cut_of_rounds (w : Web n T) (hn9 : n ≤ 9) {y : Vec} (h : ∀ l ∈ treeRounds n T, dot T.length y (lotVec l) = false) : IsCut T y :=
  cut_of_orth w fun x hx => (rounds_span w hn9 hx).orth fun g hg => by
    obtain ⟨l, hl, rfl⟩ := List.mem_map.mp hg
    exact h l hl
theorem rounds_of_cut (w : Web n T) (hn9 : n ≤ 9) {y : Vec} (h : IsCut T y) : ∀ l ∈ treeRounds n T, dot T.length y (lotVec l) = false := fun l hl => by
  rw [dot_comm]
  exact even_cut w (rounds_even w hn9 l hl) h
theorem dot_one {t : Nat} (ht : t < T.length) (f : Vec) : dot T.length (lotVec [t]) f = f t := by
  rw [dot_lot f (List.nodup_cons.mpr ⟨by simp, List.nodup_nil⟩) fun j hj => by rw [List.mem_singleton.mp hj]; exact ht]
  show Bool.xor (f t) false = f t
  simp
theorem dot_two {t u : Nat} (hu : u < T.length) (ht : t < T.length) (hne : u ≠ t) (f : Vec) : dot T.length (lotVec [u, t]) f = (f u).xor (f t) := by
  rw [dot_lot f (List.nodup_cons.mpr ⟨by simpa using hne, List.nodup_cons.mpr ⟨by simp, List.nodup_nil⟩⟩) fun j hj => by
    rcases List.mem_cons.mp hj with z | z
    · rw [z]; exact hu
    · rw [List.mem_singleton.mp z]; exact ht]
  show Bool.xor (f u) (Bool.xor (f t) false) = _
  simp
theorem thinCut_some (w : Web n T) (hn9 : n ≤ 9) {l : List Nat} (h : thinCut n T = some l) : l.Pairwise (· < ·) ∧ (∀ t ∈ l, t < T.length) ∧ l.length ≠ 0 ∧ l.length ≤ 2 ∧ IsCut T (lotVec l) := by
  rcases thinGo_some _ _ _ (fun q hq => by simp at hq) h with ⟨v, hv, rfl, c⟩ | ⟨u, v, huv, hv, rfl, c⟩
  · have hv : v < T.length := by omega
    refine ⟨List.pairwise_singleton _ _, fun t ht => by rw [List.mem_singleton.mp ht]; exact hv, by simp, by simp, cut_of_rounds w hn9 fun l hl => ?_⟩
    rw [dot_one hv]
    exact decide_eq_false (any_marks.mp c l hl)
  · have hv : v < T.length := by omega
    refine ⟨by simpa using huv, fun t ht => ?_, by simp, by simp, cut_of_rounds w hn9 fun l hl => ?_⟩
    · rcases List.mem_cons.mp ht with z | z
      · omega
      · rw [List.mem_singleton.mp z]; exact hv
    · rw [dot_two (by omega) hv (by omega)]
      show Bool.xor (decide _) (decide _) = false
      rw [marks_eq.mp c l hl]; simp
theorem thinCut_none (w : Web n T) (hn9 : n ≤ 9) (h : thinCut n T = none) {l : List Nat} (hn : l.Nodup) (hl : ∀ t ∈ l, t < T.length) (hc : IsCut T (lotVec l)) (h0 : l.length ≠ 0) (h2 : l.length ≤ 2) : False := by
  have key := thinGo_none _ _ _ (fun u hu => absurd hu (Nat.not_lt_zero _)) h
  have hr := rounds_of_cut w hn9 hc
  have pair : ∀ u v, u < v → v < T.length → (∀ f : Vec, dot T.length (lotVec l) f = (f u).xor (f v)) → False := fun u v huv hv hd => by
    refine (key v (Nat.zero_le _) (by omega)).2 u huv (marks_eq.mpr fun r hr' => ?_)
    have := hr r hr'
    rw [hd] at this
    have this : Bool.xor (decide _) (decide _) = false := this
    revert this
    cases decide (u ∈ r) <;> cases decide (v ∈ r) <;> simp
  match l, hn, hl, h0, h2, hr, pair with
  | [v], _, hl, _, _, hr, _ =>
    have hv := hl v (List.mem_cons_self ..)
    refine (key v (Nat.zero_le _) (by omega)).1 (any_marks.mpr fun r hr' => ?_)
    have := hr r hr'
    rw [dot_one hv] at this
    exact of_decide_eq_false this
  | [u, v], hn, hl, _, _, hr, pair =>
    have hu := hl u (List.mem_cons_self ..)
    have hv := hl v (List.mem_cons_of_mem _ (List.mem_cons_self ..))
    have hne : u ≠ v := fun z => by simp [z] at hn
    rcases Nat.lt_or_gt_of_ne hne with z | z
    · exact pair u v z hv fun f => dot_two hu hv hne f
    · exact pair v u z hu fun f => by rw [dot_two hu hv hne f, Bool.xor_comm]
end
end Bo
set_option linter.all false
/-! The base: cuts that are even; rests. -/
namespace Bo
theorem lt_of_bit : ∀ (i x y : Nat), x.testBit i = false → y.testBit i = true → (∀ j, i < j → x.testBit j = y.testBit j) → x < y := by
  intro i
  induction i with
  | zero =>
    intro x y hx hy h
    have e : x / 2 = y / 2 := Nat.eq_of_testBit_eq fun j => by
      have := h (j + 1) (by omega)
      rwa [Nat.testBit_succ, Nat.testBit_succ] at this
    rw [Nat.testBit_zero] at hx hy
    have hx := of_decide_eq_false hx
    have hy := of_decide_eq_true hy
    omega
  | succ i ih =>
    intro x y hx hy h
    rw [Nat.testBit_succ] at hx hy
    have := ih _ _ hx hy fun j hj => by
      have := h (j + 1) (by omega)
      rwa [Nat.testBit_succ, Nat.testBit_succ] at this
    omega
theorem bit_hi {a j : Nat} (h : a.log2 < j) : a.testBit j = false :=
  Nat.testBit_lt_two_pow (Nat.lt_of_lt_of_le Nat.lt_log2_self (Nat.pow_le_pow_right (by decide) h))
theorem parStep_clear {par own : Nat} (h : own ≠ 0) : (if par ^^^ own < par then par ^^^ own else par).testBit own.log2 = false := by
  have ht := Nat.testBit_log2 h
  have hhi : ∀ j, own.log2 < j → (par ^^^ own).testBit j = par.testBit j := fun j hj => by rw [Nat.testBit_xor, bit_hi hj]; simp
  have hx : (par ^^^ own).testBit own.log2 = !par.testBit own.log2 := by rw [Nat.testBit_xor, ht]; simp
  cases e : par.testBit own.log2 with
  | true =>
    rw [e] at hx
    rw [if_pos (lt_of_bit _ _ _ hx e hhi)]
    exact hx
  | false =>
    rw [e] at hx
    rw [if_neg fun z => by
      have := lt_of_bit _ _ _ e hx fun j hj => (hhi j hj).symm
      omega]
    exact e
abbrev Prs := List (Nat × Nat)
theorem parLeft_keep {j : Nat} {ps : Prs} : ∀ {pb : Nat × Nat}, (∀ q ∈ ps, q.1.testBit j = false) → pb.1.testBit j = false → (parLeft ps pb).1.testBit j = false := by
  induction ps with
  | nil => exact fun _ h => h
  | cons p r ih =>
    intro pb h hb
    refine ih (fun q hq => h q (List.mem_cons_of_mem _ hq)) ?_
    unfold parStep
    split
    · show (pb.1 ^^^ p.1).testBit j = false
      rw [Nat.testBit_xor, hb, h p (List.mem_cons_self ..)]; rfl
    · exact hb
def Tri (ps : Prs) : Prop := ps.Pairwise fun a b => b.1.testBit a.1.log2 = false
theorem parLeft_clear {ps : Prs} (h0 : ∀ q ∈ ps, q.1 ≠ 0) (ht : Tri ps) : ∀ pb : Nat × Nat, ∀ q ∈ ps, (parLeft ps pb).1.testBit q.1.log2 = false := by
  induction ps with
  | nil => exact fun _ _ h => by simp at h
  | cons p r ih =>
    intro pb q hq
    obtain ⟨t1, t2⟩ := List.pairwise_cons.mp ht
    rcases List.mem_cons.mp hq with e | e
    · subst e
      show (parLeft r (parStep pb q)).1.testBit _ = false
      refine parLeft_keep t1 ?_
      have := parStep_clear (par := pb.1) (h0 q (List.mem_cons_self ..))
      unfold parStep
      split
      · rename_i c; rwa [if_pos c] at this
      · rename_i c; rwa [if_neg c] at this
    · exact ih (fun q hq => h0 q (List.mem_cons_of_mem _ hq)) t2 _ q e
def bvs (m : Nat) (l : List Nat) : List Vec := l.map (bvec m)
def pvs (m : Nat) (ps : Prs) : List Vec := ps.map fun q => bvec m q.2
theorem parLeft_span (m : Nat) {ps : Prs} : ∀ pb : Nat × Nat, Span m (pvs m ps) (vadd (bvec m pb.2) (bvec m (parLeft ps pb).2)) := by
  induction ps with
  | nil => exact fun pb => .zero fun i _ => by show Bool.xor _ _ = false; simp [parLeft]
  | cons p r ih =>
    intro pb
    have h := (ih (parStep pb p)).mono (G' := pvs m (p :: r)) fun g hg => List.mem_cons_of_mem _ hg
    show Span m _ (vadd (bvec m pb.2) (bvec m (parLeft r (parStep pb p)).2))
    by_cases c : pb.1 ^^^ p.1 < pb.1
    · have e : (parStep pb p).2 = pb.2 ^^^ p.2 := by unfold parStep; rw [if_pos c]
      rw [e, bvec_xor] at h
      refine .step (g := bvec m p.2) (List.mem_cons_self ..) h fun i _ => ?_
      show Bool.xor _ _ = Bool.xor (Bool.xor (Bool.xor _ _) _) _
      cases bvec m pb.2 i <;> cases bvec m p.2 i <;> cases bvec m (parLeft r (parStep pb p)).2 i <;> rfl
    · have e : (parStep pb p).2 = pb.2 := by unfold parStep; rw [if_neg c]
      rw [e] at h
      exact h
section
variable {n : Nat} {T : Ties}
theorem star_xor (w : Web n T) {t : Nat} (ht : t < T.length) (q : Nat) : star T q t = (decide ((ends T t).1 = q)).xor (decide ((ends T t).2 = q)) := by
  have h := w.lt ht
  show (decide _ || decide _) = _
  by_cases a : (ends T t).1 = q
  · rw [decide_eq_true a, decide_eq_false (show ¬ (ends T t).2 = q by omega)]; rfl
  · rw [decide_eq_false a]; simp
theorem star_hi (w : Web n T) {q : Nat} (hq : n ≤ q) : EqM T.length (star T q) vzero := fun t ht => by
  have h := w.lt ht
  show (decide _ || decide _) = false
  rw [decide_eq_false (by omega), decide_eq_false (by omega)]; rfl
theorem even_all (w : Web n T) {x : Vec} (hx : IsEven n T x) (q : Nat) : dot T.length x (star T q) = false := by
  by_cases c : q < n
  · exact hx q c
  · rw [dot_congr EqM.rfl (star_hi w (by omega)), dot_zero']
theorem mem_tiesAt {p t : Nat} : t ∈ tiesAt T p ↔ t < T.length ∧ star T p t = true := by
  unfold tiesAt
  rw [zip_range, List.mem_map]
  constructor
  · rintro ⟨q, hq, rfl⟩
    obtain ⟨h1, h2⟩ := List.mem_filter.mp hq
    obtain ⟨t, ht, rfl⟩ := List.mem_map.mp h1
    refine ⟨List.mem_range.mp ht, ?_⟩
    have h2 := of_decide_eq_true h2
    show (decide _ || decide _) = true
    rcases h2 with e | e
    · rw [decide_eq_true e.symm]; rfl
    · rw [decide_eq_true (show (ends T t).2 = p from e.symm)]; simp
  · rintro ⟨h1, h2⟩
    refine ⟨(ends T t, t), List.mem_filter.mpr ⟨List.mem_map.mpr ⟨t, List.mem_range.mpr h1, rfl⟩, decide_eq_true ?_⟩, rfl⟩
    have h2 : (decide ((ends T t).1 = p) || decide ((ends T t).2 = p)) = true := h2
    rcases Bool.or_eq_true_iff.mp h2 with e | e
    · exact .inl (of_decide_eq_true e).symm
    · exact .inr (of_decide_eq_true e).symm
theorem tiesAt_nd (T : Ties) (p : Nat) : (tiesAt T p).Nodup := by unfold tiesAt; exact zipNums_nodup T _
theorem tiesAt_vec (p : Nat) : EqM T.length (lotVec (tiesAt T p)) (star T p) := fun t ht => by
  rw [Bool.eq_iff_iff]
  show decide _ = true ↔ _
  rw [decide_eq_true_iff, mem_tiesAt]
  exact ⟨fun h => h.2, fun h => ⟨ht, h⟩⟩
theorem lotPar_bit (w : Web n T) {lot : List Nat} (hl : ∀ t ∈ lot, t < T.length) (q : Nat) : (lotPar T lot).testBit q = xsum lot (star T q) := by
  have key : ∀ (lot : List Nat) (f : Nat), (∀ t ∈ lot, t < T.length) → (lot.foldl (parOne T) f).testBit q = (f.testBit q).xor (xsum lot (star T q)) := by
    intro lot
    induction lot with
    | nil => intro f _; show f.testBit q = Bool.xor _ false; simp
    | cons t r ih =>
      intro f h
      rw [List.foldl_cons, ih _ fun x hx => h x (List.mem_cons_of_mem _ hx)]
      unfold parOne
      rw [Nat.testBit_xor, Nat.testBit_xor, Nat.testBit_two_pow, Nat.testBit_two_pow]
      show _ = Bool.xor _ (Bool.xor (star T q t) _)
      rw [star_xor w (h t (List.mem_cons_self ..))]
      cases f.testBit q <;> cases decide ((ends T t).1 = q) <;> cases decide ((ends T t).2 = q) <;> cases xsum r (star T q) <;> rfl
  unfold lotPar
  rw [key lot 0 hl, Nat.zero_testBit]; simp
/-- what a pair is -/
def Pr (T : Ties) (pb : Nat × Nat) : Prop := (∀ q, pb.1.testBit q = dot T.length (bvec T.length pb.2) (star T q)) ∧ IsCut T (bvec T.length pb.2)
theorem Pr.step {a b : Nat × Nat} (ha : Pr T a) (hb : Pr T b) : Pr T (parStep a b) := by
  unfold parStep
  split
  · refine ⟨fun q => ?_, ?_⟩
    · show (a.1 ^^^ b.1).testBit q = _
      rw [Nat.testBit_xor, ha.1, hb.1]
      show _ = dot _ (bvec _ (a.2 ^^^ b.2)) _
      rw [bvec_xor, dot_add]
    · show IsCut T (bvec _ (a.2 ^^^ b.2))
      rw [bvec_xor]
      exact ha.2.add hb.2
  · exact ha
theorem Pr.left {ps : Prs} : ∀ {pb : Nat × Nat}, (∀ q ∈ ps, Pr T q) → Pr T pb → Pr T (parLeft ps pb) := by
  induction ps with
  | nil => exact fun _ h => h
  | cons p r ih => exact fun h hb => ih (fun q hq => h q (List.mem_cons_of_mem _ hq)) (hb.step (h p (List.mem_cons_self ..)))
structure RowI (n : Nat) (T : Ties) (done : List Nat) (st : Rows) : Prop where
  prs : ∀ q ∈ st.1, Pr T q
  nz : ∀ q ∈ st.1, q.1 ≠ 0
  tri : Tri st.1
  fnd : ∀ b ∈ st.2, IsCut T (bvec T.length b) ∧ ∀ q, dot T.length (bvec T.length b) (star T q) = false
  spn : ∀ p ∈ done, Span T.length (pvs T.length st.1 ++ bvs T.length st.2) (star T p)
theorem rowStep_I (w : Web n T) {done : List Nat} {st : Rows} (I : RowI n T done st) (p : Nat) : RowI n T (done ++ [p]) (rowStep T st p) := by
  unfold rowStep
  dsimp only
  have hlt : ∀ t ∈ tiesAt T p, t < T.length := fun t ht => (mem_tiesAt.mp ht).1
  have hv : EqM T.length (bvec T.length (bitsOf T.length (tiesAt T p))) (star T p) := (bitsOf_vec (tiesAt_nd T p) hlt).trans (tiesAt_vec p)
  have h0 : Pr T (lotPar T (tiesAt T p), bitsOf T.length (tiesAt T p)) := ⟨fun q => by
    show (lotPar T (tiesAt T p)).testBit q = _
    rw [lotPar_bit w hlt, dot_congr (bitsOf_vec (tiesAt_nd T p) hlt) EqM.rfl, dot_lot _ (tiesAt_nd T p) hlt], (star_isCut w p).congr hv⟩
  have hr := Pr.left I.prs h0
  have hc := parLeft_clear I.nz I.tri (lotPar T (tiesAt T p), bitsOf T.length (tiesAt T p))
  have hs := parLeft_span T.length (ps := st.1) (lotPar T (tiesAt T p), bitsOf T.length (tiesAt T p))
  generalize parLeft st.1 (lotPar T (tiesAt T p), bitsOf T.length (tiesAt T p)) = r at hr hc hs
  have hsp : ∀ G : List Vec, (∀ g ∈ pvs T.length st.1, g ∈ G) → bvec T.length r.2 ∈ G → Span T.length G (star T p) := fun G h1 h2 => by
    refine .step h2 (hs.mono h1) fun i hi => ?_
    show _ = Bool.xor (Bool.xor (bvec _ (bitsOf _ _) i) _) _
    rw [hv i hi]
    cases star T p i <;> cases bvec T.length r.2 i <;> rfl
  by_cases c : r.1 = 0
  · rw [if_pos c]
    refine ⟨I.prs, I.nz, I.tri, fun b hb => ?_, fun q hq => ?_⟩
    · rcases List.mem_append.mp hb with z | z
      · exact I.fnd b z
      · rw [List.mem_singleton.mp z]
        refine ⟨hr.2, fun q => ?_⟩
        rw [← hr.1 q, c, Nat.zero_testBit]
    · show Span _ (pvs _ st.1 ++ bvs _ (st.2 ++ [r.2])) _
      rcases List.mem_append.mp hq with z | z
      · refine (I.spn q z).mono fun g hg => ?_
        rcases List.mem_append.mp hg with y | y
        · exact List.mem_append_left _ y
        · refine List.mem_append_right _ ?_
          unfold bvs at y ⊢
          rw [List.map_append]; exact List.mem_append_left _ y
      · rw [List.mem_singleton.mp z]
        refine hsp _ (fun g hg => List.mem_append_left _ hg) (List.mem_append_right _ ?_)
        unfold bvs
        rw [List.map_append]; exact List.mem_append_right _ (List.mem_singleton.mpr rfl)
  · rw [if_neg c]
    refine ⟨fun q hq => ?_, fun q hq => ?_, ?_, I.fnd, fun q hq => ?_⟩
    · rcases List.mem_append.mp hq with z | z
      · exact I.prs q z
      · rw [List.mem_singleton.mp z]; exact hr
    · rcases List.mem_append.mp hq with z | z
      · exact I.nz q z
      · rw [List.mem_singleton.mp z]; exact c
    · exact List.pairwise_append.mpr ⟨I.tri, List.pairwise_singleton _ _, fun a ha b hb => by rw [List.mem_singleton.mp hb]; exact hc a ha⟩
    · show Span _ (pvs _ (st.1 ++ [r]) ++ bvs _ st.2) _
      have he : pvs T.length (st.1 ++ [r]) = pvs T.length st.1 ++ [bvec T.length r.2] := by unfold pvs; rw [List.map_append]; rfl
      rw [he]
      rcases List.mem_append.mp hq with z | z
      · refine (I.spn q z).mono fun g hg => ?_
        rcases List.mem_append.mp hg with y | y
        · exact List.mem_append_left _ (List.mem_append_left _ y)
        · exact List.mem_append_right _ y
      · rw [List.mem_singleton.mp z]
        exact hsp _ (fun g hg => List.mem_append_left _ (List.mem_append_left _ hg)) (List.mem_append_left _ (List.mem_append_right _ (List.mem_singleton.mpr rfl)))
theorem parRows_I (w : Web n T) : RowI n T ((List.range (n - 1)).map (1 + ·)) (parRows n T) := by
  have key : ∀ (l : List Nat) (done : List Nat) (st : Rows), RowI n T done st → RowI n T (done ++ l) (l.foldl (rowStep T) st) := by
    intro l
    induction l with
    | nil => intro done st I; rw [List.append_nil]; exact I
    | cons p r ih =>
      intro done st I
      have := ih _ _ (rowStep_I w I p)
      rw [List.append_assoc] at this
      exact this
  have := key ((List.range (n - 1)).map (1 + ·)) [] ([], []) ⟨fun _ h => by simp at h, fun _ h => by simp at h, List.Pairwise.nil, fun _ h => by simp at h, fun _ h => by simp at h⟩
  rwa [List.nil_append] at this
theorem span_cons {m : Nat} {g : Vec} {G : List Vec} {x : Vec} (h : Span m (g :: G) x) : Span m G x ∨ Span m G (vadd x g) := by
  induction h with
  | zero h => exact .inl (.zero h)
  | @step x y k hk _ h ih =>
    rcases List.mem_cons.mp hk with e | e
    · subst e
      rcases ih with z | z
      · refine .inr (z.congr fun i hi => ?_)
        show (x i).xor (k i) = y i
        rw [h i hi]
        show Bool.xor (Bool.xor _ _) _ = _
        cases y i <;> cases k i <;> rfl
      · exact .inl (z.congr h)
    · rcases ih with z | z
      · exact .inl (.step e z h)
      · refine .inr (.step e z fun i hi => ?_)
        show (x i).xor (g i) = Bool.xor (Bool.xor (y i) (g i)) (k i)
        rw [h i hi]
        show Bool.xor (Bool.xor _ _) _ = _
        cases y i <;> cases k i <;> cases g i <;> rfl
theorem elim {ps : Prs} {F : List Vec} (hp : ∀ q ∈ ps, Pr T q) (h0 : ∀ q ∈ ps, q.1 ≠ 0) (ht : Tri ps) (hF : ∀ g ∈ F, ∀ q, dot T.length g (star T q) = false) {x : Vec} (hx : ∀ q, dot T.length x (star T q) = false) (hs : Span T.length (pvs T.length ps ++ F) x) : Span T.length F x := by
  induction ps with
  | nil => exact hs
  | cons p r ih =>
    obtain ⟨t1, t2⟩ := List.pairwise_cons.mp ht
    rcases span_cons hs with z | z
    · exact ih (fun q hq => hp q (List.mem_cons_of_mem _ hq)) (fun q hq => h0 q (List.mem_cons_of_mem _ hq)) t2 z
    · exfalso
      have h1 : dot T.length (star T p.1.log2) (vadd x (bvec T.length p.2)) = false := Span.orth z fun g hg => by
        rw [dot_comm]
        rcases List.mem_append.mp hg with y | y
        · obtain ⟨q, hq, rfl⟩ := List.mem_map.mp y
          rw [← (hp q (List.mem_cons_of_mem _ hq)).1]
          exact t1 q hq
        · exact hF g y _
      rw [dot_comm, dot_add, hx, ← (hp p (List.mem_cons_self ..)).1, Nat.testBit_log2 (h0 p (List.mem_cons_self ..))] at h1
      cases h1
theorem cut_gen (w : Web n T) (G : List Vec) (s : Nat → Bool) (hG : ∀ p, p < n → s p = true → star T p ∈ G) : Span T.length G (cutv T s) := by
  have key : ∀ j, j ≤ n → Span T.length G (cutv T fun q => s q && decide (q < j)) := by
    intro j
    induction j with
    | zero =>
      intro _
      refine .zero fun k _ => ?_
      show Bool.xor (_ && decide (_ < 0)) (_ && decide (_ < 0)) = false
      simp
    | succ j ih =>
      intro hj
      have h0 := ih (by omega)
      have lt : ∀ x, x ≠ j → decide (x < j + 1) = decide (x < j) := fun x hx => by
        by_cases h : x < j
        · rw [decide_eq_true h, decide_eq_true (by omega)]
        · rw [decide_eq_false h, decide_eq_false (by omega)]
      cases e : s j with
      | false =>
        refine h0.congr fun k _ => ?_
        have q : ∀ x, (s x && decide (x < j + 1)) = (s x && decide (x < j)) := by
          intro x
          by_cases hx : x = j
          · rw [hx, e]; rfl
          · rw [lt x hx]
        show Bool.xor (s _ && decide (_ < j + 1)) (s _ && decide (_ < j + 1)) = Bool.xor (s _ && decide (_ < j)) (s _ && decide (_ < j))
        rw [q, q]
      | true =>
        refine .step (g := star T j) (hG j (by omega) e) h0 fun k hk => ?_
        have q : ∀ x, (s x && decide (x < j + 1)) = Bool.xor (s x && decide (x < j)) (decide (x = j)) := by
          intro x
          by_cases hx : x = j
          · rw [hx, e]; simp
          · rw [lt x hx, decide_eq_false hx]; simp
        show Bool.xor (s _ && _) (s _ && _) = Bool.xor (Bool.xor (s _ && _) (s _ && _)) (star T j k)
        rw [q, q, star_cut w j k hk]
        show _ = Bool.xor _ (Bool.xor (decide ((ends T k).1 = j)) (decide ((ends T k).2 = j)))
        cases s (ends T k).1 && decide ((ends T k).1 < j) <;> cases s (ends T k).2 && decide ((ends T k).2 < j) <;> cases decide ((ends T k).1 = j) <;> cases decide ((ends T k).2 = j) <;> rfl
  refine (key n (Nat.le_refl _)).congr fun k hk => ?_
  have h := w.lt hk
  show Bool.xor (s _) (s _) = Bool.xor (s _ && _) (s _ && _)
  rw [decide_eq_true (show (ends T k).1 < n by omega), decide_eq_true h.2, Bool.and_true, Bool.and_true]
/-- a cut by places without the place 0 -/
theorem cut_flip (s : Nat → Bool) : ∃ s', s' 0 = false ∧ cutv T s' = cutv T s := by
  cases e : s 0 with
  | false => exact ⟨s, e, rfl⟩
  | true =>
    refine ⟨fun p => !s p, by simp [e], ?_⟩
    funext k
    show Bool.xor (!s _) (!s _) = Bool.xor (s _) (s _)
    cases s (ends T k).1 <;> cases s (ends T k).2 <;> rfl
theorem base_span (w : Web n T) (x : Vec) : Span T.length ((baseBits n T).map (bvec T.length)) x ↔ IsCut T x ∧ IsEven n T x := by
  have I := parRows_I w
  unfold baseBits
  rw [reduced_span]
  constructor
  · intro h
    induction h with
    | zero h => exact ⟨IsCut.zero.congr h, IsEven.zero.congr h⟩
    | step hg _ h ih =>
      obtain ⟨b, hb, rfl⟩ := List.mem_map.mp hg
      obtain ⟨a, d⟩ := I.fnd b hb
      exact ⟨(ih.1.add a).congr h, (ih.2.add fun p _ => d p).congr h⟩
  · rintro ⟨⟨s, hs⟩, he⟩
    obtain ⟨s', h0, es⟩ := cut_flip (T := T) s
    rw [← es] at hs
    have h1 : Span T.length ((List.range (n - 1)).map fun i => star T (1 + i)) (cutv T s') := cut_gen w _ s' fun p hp e => by
      have : p ≠ 0 := fun z => by rw [z, h0] at e; cases e
      exact List.mem_map.mpr ⟨p - 1, List.mem_range.mpr (by omega), by rw [show 1 + (p - 1) = p by omega]⟩
    have h2 : Span T.length (pvs T.length (parRows n T).1 ++ bvs T.length (parRows n T).2) (cutv T s') := h1.sub fun g hg => by
      obtain ⟨i, hi, rfl⟩ := List.mem_map.mp hg
      exact I.spn _ (List.mem_map.mpr ⟨i, hi, rfl⟩)
    refine elim I.prs I.nz I.tri (fun g hg => ?_) (even_all w he) (h2.congr hs)
    obtain ⟨b, hb, rfl⟩ := List.mem_map.mp hg
    exact (I.fnd b hb).2
/-! rests -/
theorem column_bit (base : List Nat) (m t i : Nat) : (column base (tieBit m t)).testBit i = match base[i]? with
    | some b => bvec m b t
    | none => false := by
  unfold column
  have e : ((base.zipIdx.filter fun q => decide (q.1 &&& tieBit m t ≠ 0)).map fun q => 2 ^ q.2) = (((base.zipIdx.filter fun q => decide (q.1 &&& tieBit m t ≠ 0)).map (·.2)).map (2 ^ ·)) := by rw [List.map_map]; rfl
  rw [e, powSum_bit (zipNums_nodup base _)]
  have hmem : i ∈ (base.zipIdx.filter fun q => decide (q.1 &&& tieBit m t ≠ 0)).map (·.2) ↔ ∃ b, base[i]? = some b ∧ bvec m b t = true := by
    rw [List.mem_map]
    constructor
    · rintro ⟨q, hq, rfl⟩
      obtain ⟨h1, h2⟩ := List.mem_filter.mp hq
      refine ⟨q.1, List.mem_zipIdx_iff_getElem?.mp h1, ?_⟩
      exact (and_pow _ _).mp (of_decide_eq_true h2)
    · rintro ⟨b, h1, h2⟩
      exact ⟨(b, i), List.mem_filter.mpr ⟨List.mem_zipIdx_iff_getElem?.mpr h1, decide_eq_true ((and_pow _ _).mpr h2)⟩, rfl⟩
  rw [Bool.eq_iff_iff, decide_eq_true_iff, hmem]
  cases base[i]? with
  | none => simp
  | some b => simp
theorem restOf_bit (cols lot : List Nat) (i : Nat) : (restOf cols lot).testBit i = xsum lot fun t => (cols.getD t 0).testBit i := by
  have key : ∀ (lot : List Nat) (f : Nat), (lot.foldl (fun f t => f ^^^ cols.getD t 0) f).testBit i = (f.testBit i).xor (xsum lot fun t => (cols.getD t 0).testBit i) := by
    intro lot
    induction lot with
    | nil => intro f; show f.testBit i = Bool.xor _ false; simp
    | cons t r ih =>
      intro f
      rw [List.foldl_cons, ih, Nat.testBit_xor, Bool.xor_assoc]; rfl
  unfold restOf
  rw [key, Nat.zero_testBit]; simp
theorem columns_len : (columns n T).length = T.length := by unfold columns; rw [List.length_map, List.length_range]
theorem rest_bit {lot : List Nat} (hl : ∀ t ∈ lot, t < T.length) (i : Nat) : (restOf (columns n T) lot).testBit i = match (baseBits n T)[i]? with
    | some b => xsum lot (bvec T.length b)
    | none => false := by
  rw [restOf_bit]
  have hc : ∀ t, t < T.length → (columns n T).getD t 0 = column (baseBits n T) (tieBit T.length t) := fun t ht => by
    unfold columns
    rw [List.getD_eq_getElem?_getD, List.getElem?_map, List.getElem?_range ht]; rfl
  rw [xsum_congr (g := fun t => (column (baseBits n T) (tieBit T.length t)).testBit i) hl fun t ht => by
    dsimp only
    rw [hc t ht]]
  have hb : ∀ t, (column (baseBits n T) (tieBit T.length t)).testBit i = _ := fun t => column_bit (baseBits n T) T.length t i
  simp only [hb]
  cases (baseBits n T)[i]? with
  | some b => rfl
  | none =>
    clear hl
    induction lot with
    | nil => rfl
    | cons t r ih => show Bool.xor false (xsum r _) = false; rw [ih]; rfl
/-- two lots have one rest when they meet all even cuts alike -/
theorem rest_iff (w : Web n T) {L L' : List Nat} (hL : ∀ t ∈ L, t < T.length) (hL' : ∀ t ∈ L', t < T.length) :
    restOf (columns n T) L = restOf (columns n T) L' ↔ ∀ y, IsCut T y → IsEven n T y → xsum L y = xsum L' y := by
  constructor
  · intro h y hc he
    have hs := (base_span w y).mpr ⟨hc, he⟩
    clear hc he
    induction hs with
    | zero h' =>
      rw [xsum_congr hL h', xsum_congr hL' h']
      have : ∀ l : List Nat, xsum l vzero = false := fun l => by
        induction l with
        | nil => rfl
        | cons t r ih => show Bool.xor false _ = false; rw [ih]; rfl
      rw [this, this]
    | step hg _ h' ih =>
      rw [xsum_congr hL h', xsum_congr hL' h', xsum_vadd, xsum_vadd, ih]
      congr 1
      obtain ⟨b, hb, rfl⟩ := List.mem_map.mp hg
      obtain ⟨i, hi, rfl⟩ := List.mem_iff_getElem.mp hb
      have h1 := rest_bit (n := n) (T := T) hL i
      have h2 := rest_bit (n := n) (T := T) hL' i
      rw [List.getElem?_eq_getElem hi] at h1 h2
      dsimp only at h1 h2
      rw [← h1, ← h2, h]
  · intro h
    refine Nat.eq_of_testBit_eq fun i => ?_
    rw [rest_bit hL, rest_bit hL']
    cases e : (baseBits n T)[i]? with
    | none => rfl
    | some b =>
      obtain ⟨a, d⟩ := (base_span w (bvec T.length b)).mp (.mem (List.mem_map.mpr ⟨b, List.mem_of_getElem? e, rfl⟩))
      exact h _ a d
end
end Bo
set_option linter.all false
/-! What mended tells. -/
namespace Bo
theorem xsum_zero (l : List Nat) : xsum l vzero = false := by
  induction l with
  | nil => rfl
  | cons t r ih => show Bool.xor false _ = false; rw [ih]; rfl
theorem column_lt (base : List Nat) (bit : Nat) : column base bit < 2 ^ base.length := by
  unfold column
  have e : ((base.zipIdx.filter fun q => decide (q.1 &&& bit ≠ 0)).map fun q => 2 ^ q.2) = (((base.zipIdx.filter fun q => decide (q.1 &&& bit ≠ 0)).map (·.2)).map (2 ^ ·)) := by rw [List.map_map]; rfl
  rw [e]
  exact lMask_lt (zipNums_nodup base _) fun t ht => zipNums_lt ht
def pv (A B : List Int) : Vec := fun k => decide ((A.getD k 0 - B.getD k 0) % 2 = 1)
theorem mem_oddTies {one other : List Int} (h : other.length = one.length) {t : Nat} : t ∈ oddTies one other ↔ t < one.length ∧ (other.getD t 0 - one.getD t 0) % 2 = 1 := by
  unfold oddTies
  have hz : ∀ q : (Int × Int) × Nat, q ∈ (one.zip other).zipIdx ↔ q.2 < one.length ∧ q.1 = (one.getD q.2 0, other.getD q.2 0) := fun q => by
    rw [List.mem_zipIdx_iff_getElem?]
    by_cases c : q.2 < one.length
    · have h1 : (one.zip other)[q.2]? = some (one.getD q.2 0, other.getD q.2 0) := by
        rw [List.getElem?_eq_getElem (by rw [List.length_zip]; omega), List.getElem_zip]
        simp [List.getD_eq_getElem?_getD, List.getElem?_eq_getElem c, List.getElem?_eq_getElem (show q.2 < other.length by omega)]
      rw [h1]
      simp [c, eq_comm]
    · rw [List.getElem?_eq_none (by rw [List.length_zip]; omega)]
      simp [c]
  rw [List.mem_map]
  constructor
  · rintro ⟨q, hq, rfl⟩
    obtain ⟨h1, h2⟩ := List.mem_filter.mp hq
    obtain ⟨a, b⟩ := (hz q).mp h1
    refine ⟨a, ?_⟩
    have h2 := of_decide_eq_true h2
    rw [b] at h2
    exact h2
  · rintro ⟨a, b⟩
    exact ⟨((one.getD t 0, other.getD t 0), t), List.mem_filter.mpr ⟨(hz _).mpr ⟨a, rfl⟩, decide_eq_true b⟩, rfl⟩
theorem oddTies_nd (one other : List Int) : (oddTies one other).Nodup := by unfold oddTies; exact zipNums_nodup _ _
/-- a shortest lot of the rest of a lot -/
structure LotP (n : Nat) (T : Ties) (odd lot : List Nat) : Prop where
  nd : lot.Nodup
  lt : ∀ t ∈ lot, t < T.length
  eq : ∀ y, IsCut T y → IsEven n T y → xsum lot y = xsum odd y
  mn : ∀ L', (∀ t ∈ L', t < T.length) → (∀ y, IsCut T y → IsEven n T y → xsum L' y = xsum odd y) → lot.length ≤ L'.length
theorem lotP_of {n : Nat} {T : Ties} {odd lot : List Nat} (lt : ∀ t ∈ lot, t < T.length) (eq : ∀ y, IsCut T y → IsEven n T y → xsum lot y = xsum odd y)
    (mn : ∀ L', (∀ t ∈ L', t < T.length) → (∀ y, IsCut T y → IsEven n T y → xsum L' y = xsum odd y) → lot.length ≤ L'.length) : LotP n T odd lot := by
  refine ⟨?_, lt, eq, mn⟩
  rw [List.nodup_iff_count]
  intro t
  refine Nat.le_of_not_lt fun hc => ?_
  have h1 : t ∈ lot := List.count_pos_iff.mp (by omega)
  have p1 := List.perm_cons_erase h1
  have h2 : t ∈ lot.erase t := by
    refine List.count_pos_iff.mp ?_
    rw [List.count_erase_self]
    omega
  have p2 := p1.trans ((List.perm_cons_erase h2).cons t)
  have hl := p2.length_eq
  simp only [List.length_cons] at hl
  have := mn ((lot.erase t).erase t) (fun x hx => lt x (List.mem_of_mem_erase (List.mem_of_mem_erase hx))) fun y hc he => by
    rw [← eq y hc he, xsum_perm p2]
    show _ = Bool.xor (y t) (Bool.xor (y t) _)
    cases y t <;> cases xsum ((lot.erase t).erase t) y <;> rfl
  omega
section
variable {n : Nat} {T : Ties}
theorem mendLot_spec (w : Web n T) (hn9 : n ≤ 9) {one other : List Int} (h1 : one.length = T.length) (h2 : other.length = T.length) : LotP n T (oddTies one other) (mendLot n T one other) := by
  have hM : ∀ c ∈ columns n T, c < 2 ^ (n - 1) := fun c hc => by
    unfold columns at hc
    obtain ⟨t, _, rfl⟩ := List.mem_map.mp hc
    exact Nat.lt_of_lt_of_le (column_lt _ _) (Nat.pow_le_pow_right (by decide) (baseBits_len n T))
  have ho : ∀ t ∈ oddTies one other, t < T.length := fun t ht => by
    have := ((mem_oddTies (by omega)).mp ht).1
    omega
  obtain ⟨lot, e, a, b, d⟩ := shortest_spec hM (by omega) (L := oddTies one other) fun t ht => by rw [columns_len]; exact ho t ht
  have el : mendLot n T one other = lot := by unfold mendLot; rw [e]; rfl
  rw [el]
  rw [columns_len] at a
  exact lotP_of a ((rest_iff w a ho).mp b) fun L' hL' hy => d L' (fun t ht => by rw [columns_len]; exact hL' t ht) ((rest_iff w hL' ho).mpr hy)
end
theorem getD_set {l : List Int} {t k : Nat} {a : Int} (h : t < l.length) : (l.set t a).getD k 0 = if t = k then a else l.getD k 0 := by
  rw [List.getD_eq_getElem?_getD, List.getD_eq_getElem?_getD, List.getElem?_set]
  by_cases c : t = k
  · rw [if_pos c, if_pos c, if_pos (by omega)]; rfl
  · rw [if_neg c, if_neg c]
theorem mend_len (lot : List Nat) : ∀ one : List Int, (mendWith lot one).length = one.length := by
  induction lot with
  | nil => exact fun _ => rfl
  | cons t r ih =>
    intro one
    show (mendWith r (one.set t _)).length = _
    rw [ih, List.length_set]
theorem mend_get : ∀ {lot : List Nat} {one : List Int}, lot.Nodup → (∀ t ∈ lot, t < one.length) → ∀ k, (mendWith lot one).getD k 0 = if k ∈ lot then nudge (one.getD k 0) else one.getD k 0 := by
  intro lot
  induction lot with
  | nil => intro one _ _ k; rfl
  | cons t r ih =>
    intro one hn hl k
    obtain ⟨h1, h2⟩ := List.nodup_cons.mp hn
    have ht := hl t (List.mem_cons_self ..)
    show (mendWith r (one.set t _)).getD k 0 = _
    rw [ih h2 fun x hx => by rw [List.length_set]; exact hl x (List.mem_cons_of_mem _ hx), getD_set ht]
    by_cases c : t = k
    · subst c
      rw [if_neg h1, if_pos rfl, if_pos (List.mem_cons_self ..)]
    · rw [if_neg c]
      by_cases d : k ∈ r
      · rw [if_pos d, if_pos (List.mem_cons_of_mem _ d)]
      · rw [if_neg d, if_neg fun z => by
          rcases List.mem_cons.mp z with y | y
          · exact c y.symm
          · exact d y]
theorem nudge_ne (x : Int) : nudge x ≠ x := by unfold nudge; split <;> omega
theorem nudge_par (x o : Int) : (nudge x - o) % 2 = 1 ↔ ¬ (x - o) % 2 = 1 := by unfold nudge; split <;> omega
theorem nudge_bd {x : Int} (h : -(10 ^ 12) ≤ x ∧ x ≤ 10 ^ 12) : -(10 ^ 12) ≤ nudge x ∧ nudge x ≤ 10 ^ 12 := by unfold nudge; split <;> omega
theorem mem_getD {l : List Int} {x : Int} (h : x ∈ l) : ∃ k, k < l.length ∧ l.getD k 0 = x := by
  obtain ⟨k, hk, rfl⟩ := List.mem_iff_getElem.mp h
  exact ⟨k, hk, by rw [List.getD_eq_getElem?_getD, List.getElem?_eq_getElem hk]; rfl⟩
theorem getD_memI {l : List Int} {k : Nat} (h : k < l.length) : l.getD k 0 ∈ l := by
  rw [List.getD_eq_getElem?_getD, List.getElem?_eq_getElem h]
  exact List.getElem_mem h
theorem mend_bd {lot : List Nat} {one : List Int} (hn : lot.Nodup) (hl : ∀ t ∈ lot, t < one.length) (h : ∀ x ∈ one, -(10 ^ 12) ≤ x ∧ x ≤ 10 ^ 12) : ∀ x ∈ mendWith lot one, -(10 ^ 12) ≤ x ∧ x ≤ 10 ^ 12 := fun x hx => by
  obtain ⟨k, hk, rfl⟩ := mem_getD hx
  rw [mend_len] at hk
  rw [mend_get hn hl]
  have := h _ (getD_memI hk)
  split
  · exact nudge_bd this
  · exact this
theorem mend_par {lot : List Nat} {one other : List Int} (h : other.length = one.length) (hn : lot.Nodup) (hl : ∀ t ∈ lot, t < one.length) : EqM one.length (pv (mendWith lot one) other) (vadd (lotVec lot) (lotVec (oddTies one other))) := fun k hk => by
  show decide _ = (decide _).xor (decide _)
  rw [mend_get hn hl]
  have ho : (k ∈ oddTies one other) ↔ (one.getD k 0 - other.getD k 0) % 2 = 1 := by
    rw [mem_oddTies h]
    constructor
    · rintro ⟨_, b⟩; omega
    · intro b; exact ⟨hk, by omega⟩
  by_cases c : k ∈ lot
  · rw [if_pos c, decide_eq_true c, Bool.true_xor, Bool.eq_iff_iff, decide_eq_true_iff, nudge_par, ← ho]
    simp
  · rw [if_neg c, decide_eq_false c, Bool.false_xor, Bool.eq_iff_iff, decide_eq_true_iff, decide_eq_true_iff, ho]
theorem zip_gets (A B : List Int) (h : B.length = A.length) : A.zip B = (List.range A.length).map fun k => (A.getD k 0, B.getD k 0) := by
  refine List.ext_getElem (by simp [h]) fun i h1 h2 => ?_
  have hi : i < A.length := by simpa using h2
  simp [List.getD_eq_getElem?_getD, List.getElem?_eq_getElem hi, List.getElem?_eq_getElem (show i < B.length by omega)]
theorem filter_lot {m : Nat} {lot : List Nat} (hn : lot.Nodup) (hl : ∀ t ∈ lot, t < m) : ((List.range m).filter fun k => decide (k ∈ lot)).length = lot.length := by
  refine List.Perm.length_eq ((List.perm_ext_iff_of_nodup (List.nodup_range.filter _) hn).mpr fun k => ?_)
  rw [List.mem_filter, List.mem_range, decide_eq_true_iff]
  exact ⟨fun h => h.2, fun h => ⟨hl k h, h⟩⟩
theorem mend_diff {lot : List Nat} {one : List Int} (hn : lot.Nodup) (hl : ∀ t ∈ lot, t < one.length) : ((one.zip (mendWith lot one)).filter fun p => !decide (p.1 = p.2)).length = lot.length := by
  rw [zip_gets _ _ (mend_len lot one), List.filter_map, List.length_map, ← filter_lot hn hl]
  congr 1
  refine List.filter_congr fun k _ => ?_
  show (!decide (one.getD k 0 = (mendWith lot one).getD k 0)) = decide _
  rw [mend_get hn hl]
  by_cases c : k ∈ lot
  · rw [if_pos c, decide_eq_true c, decide_eq_false fun z => nudge_ne _ z.symm]; rfl
  · rw [if_neg c, decide_eq_false c, decide_eq_true rfl]; rfl
theorem sum_par (f : Nat → Int) (l : List Nat) : decide ((l.map f).sum % 2 = 1) = xsum l fun t => decide (f t % 2 = 1) := by
  induction l with
  | nil => rfl
  | cons t r ih =>
    show _ = Bool.xor (decide (f t % 2 = 1)) _
    rw [List.map_cons, List.sum_cons, ← ih]
    by_cases a : f t % 2 = 1 <;> by_cases b : (r.map f).sum % 2 = 1
    · rw [decide_eq_true a, decide_eq_true b, decide_eq_false (by omega)]; rfl
    · rw [decide_eq_true a, decide_eq_false b, decide_eq_true (by omega)]; rfl
    · rw [decide_eq_false a, decide_eq_true b, decide_eq_true (by omega)]; rfl
    · rw [decide_eq_false a, decide_eq_false b, decide_eq_false (by omega)]; rfl
end Bo
set_option linter.all false
/-! The law's going through all. -/
namespace Bo
theorem and_one (x p : Nat) : x / 2 ^ p &&& 1 = if x.testBit p then 1 else 0 := by
  rw [Nat.and_one_is_mod, Nat.testBit_eq_decide_div_mod_eq]
  by_cases c : x / 2 ^ p % 2 = 1
  · rw [c, decide_eq_true rfl]; rfl
  · rw [decide_eq_false c, if_neg Bool.false_ne_true]; omega
theorem mask_of (m : Nat) (x : Vec) : ∃ c, c < 2 ^ m ∧ EqM m (mvec c) x := by
  refine ⟨lMask ((List.range m).filter x), lMask_lt (List.nodup_range.filter _) fun t ht => List.mem_range.mp (List.mem_filter.mp ht).1, fun k hk => ?_⟩
  show (lMask _).testBit k = _
  rw [lMask_bit (List.nodup_range.filter _), Bool.eq_iff_iff, decide_eq_true_iff, List.mem_filter, List.mem_range]
  exact ⟨fun h => h.2, fun h => ⟨hk, h⟩⟩
theorem mvec_mask {m : Nat} {l : List Nat} (hn : l.Nodup) : mvec (lMask l) = lotVec l := by
  funext k
  exact lMask_bit hn k
theorem valN_putD {α : Type} (k : List (Nat × α)) (x y : Nat) (a : α) : valN (putD k x a) y = if x = y then some a else valN k y := by
  unfold putD
  by_cases c : (valN k x).isSome
  · rw [if_pos c]
    have key : ∀ k : List (Nat × α), (x ≠ y ∨ (valN k x).isSome) → valN (k.map fun p => if p.1 = x then (p.1, a) else p) y = if x = y then some a else valN k y := by
      intro k
      induction k with
      | nil =>
        intro h
        rcases h with h | h
        · rw [if_neg h]; rfl
        · cases h
      | cons p r ih =>
        intro h
        unfold valN at ih h ⊢
        rw [List.map_cons, List.find?_cons, List.find?_cons]
        rw [List.find?_cons] at h
        by_cases e : p.1 = x
        · rw [if_pos e]
          by_cases f : p.1 = y
          · have : x = y := e.symm.trans f
            rw [decide_eq_true f, if_pos this]; rfl
          · have hxy : x ≠ y := fun z => f (e.trans z)
            rw [decide_eq_false f, ih (.inl hxy)]
        · rw [if_neg e]
          rw [decide_eq_false e] at h
          by_cases f : p.1 = y
          · have hxy : x ≠ y := fun z => e (f.trans z.symm)
            rw [decide_eq_true f, if_neg hxy]
          · rw [decide_eq_false f, ih h]
    exact key k (.inr c)
  · rw [if_neg c]
    have hx : valN k x = none := by simpa using c
    unfold valN at hx ⊢
    rw [List.find?_append]
    by_cases e : x = y
    · subst e
      rw [if_pos rfl]
      rw [Option.map_eq_none_iff] at hx
      rw [hx]
      simp
    · rw [if_neg e]
      cases List.find? (fun kv => decide (kv.1 = y)) k with
      | some z => rfl
      | none => simp [e]
theorem valN_puts {α β : Type} (f : β → Nat) (a : α) (y : Nat) (l : List β) : ∀ k : List (Nat × α), valN (l.foldl (fun k o => putD k (f o) a) k) y = if ∃ o ∈ l, f o = y then some a else valN k y := by
  induction l with
  | nil => intro k; rw [if_neg fun ⟨o, h, _⟩ => by simp at h]; rfl
  | cons b r ih =>
    intro k
    rw [List.foldl_cons, ih, valN_putD]
    by_cases c : ∃ o ∈ r, f o = y
    · obtain ⟨o, h, e⟩ := c
      rw [if_pos ⟨o, h, e⟩, if_pos ⟨o, List.mem_cons_of_mem _ h, e⟩]
    · rw [if_neg c]
      by_cases d : f b = y
      · rw [if_pos d, if_pos ⟨b, List.mem_cons_self .., d⟩]
      · rw [if_neg d, if_neg]
        rintro ⟨o, h, e⟩
        rcases List.mem_cons.mp h with z | z
        · exact d (z ▸ e)
        · exact c ⟨o, z, e⟩
theorem keys_putD {α : Type} (k : List (Nat × α)) (x y : Nat) (a : α) : y ∈ (putD k x a).map (·.1) ↔ y ∈ k.map (·.1) ∨ y = x := by
  unfold putD
  by_cases c : (valN k x).isSome
  · rw [if_pos c]
    have e : (k.map fun p => if p.1 = x then (p.1, a) else p).map (·.1) = k.map (·.1) := by
      rw [List.map_map]
      refine List.map_congr_left fun p _ => ?_
      show (if p.1 = x then (p.1, a) else p).1 = p.1
      split <;> rfl
    rw [e]
    constructor
    · exact .inl
    · rintro (h | rfl)
      · exact h
      · obtain ⟨q, hq, rfl⟩ := valN_isSome.mp c
        exact List.mem_map.mpr ⟨q, hq, rfl⟩
  · rw [if_neg c, List.map_append, List.mem_append]
    simp
section
variable {n : Nat} {T : Ties}
theorem star_mask (p : Nat) : EqM T.length (mvec (lMask (tiesAt T p))) (star T p) := by
  rw [mvec_mask (m := T.length) (tiesAt_nd T p)]
  exact tiesAt_vec p
theorem mem_lEvens (h8 : T.length ≤ 8) {m : Nat} : m ∈ lEvens n T ↔ m < 2 ^ T.length ∧ IsEven n T (mvec m) := by
  unfold lEvens
  rw [List.mem_filter, List.mem_range, List.isEmpty_iff, List.filter_eq_nil_iff]
  refine and_congr_right fun hm => ?_
  constructor
  · intro h p hp
    have := h (lMask (tiesAt T p)) (List.mem_map.mpr ⟨p, List.mem_range.mpr hp, rfl⟩)
    rw [lOdd_dot hm h8, dot_congr EqM.rfl (star_mask p)] at this
    simpa using this
  · intro h s hs
    obtain ⟨p, hp, rfl⟩ := List.mem_map.mp hs
    rw [lOdd_dot hm h8, dot_congr EqM.rfl (star_mask p), h p (List.mem_range.mp hp)]
    simp
theorem mem_lRounds {ev : List Nat} {r : Nat} : r ∈ lRounds ev ↔ r ∈ ev ∧ r ≠ 0 ∧ ∀ o ∈ ev, o ≠ 0 → o ≠ r → o &&& r ≠ o := by
  unfold lRounds
  rw [List.mem_filter, Bool.and_eq_true, decide_eq_true_iff, List.isEmpty_iff, List.filter_eq_nil_iff]
  refine and_congr_right fun _ => and_congr_right fun _ => forall_congr' fun o => forall_congr' fun _ => ?_
  simp
theorem evens_rounds (h8 : T.length ≤ 8) : ∀ e, e ∈ lEvens n T → Span T.length ((lRounds (lEvens n T)).map mvec) (mvec e) := by
  intro e
  induction e using Nat.strongRecOn with
  | ind e ih =>
    intro he
    by_cases e0 : e = 0
    · subst e0
      exact .zero fun i _ => by show (0 : Nat).testBit i = false; simp
    by_cases hr : e ∈ lRounds (lEvens n T)
    · exact .mem (List.mem_map.mpr ⟨e, hr, rfl⟩)
    · have : ∃ o ∈ lEvens n T, o ≠ 0 ∧ o ≠ e ∧ o &&& e = o := by
        refine Classical.byContradiction fun hc => hr (mem_lRounds.mpr ⟨he, e0, fun o ho h1 h2 h3 => hc ⟨o, ho, h1, h2, h3⟩⟩)
      obtain ⟨o, ho, o0, one, oe⟩ := this
      have hle : o ≤ e := by rw [← oe]; exact Nat.and_le_right
      have hx : (e ^^^ o) &&& e = e ^^^ o := by
        refine Nat.eq_of_testBit_eq fun i => ?_
        have := congrArg (fun x => x.testBit i) oe
        simp only [Nat.testBit_and, Nat.testBit_xor] at this ⊢
        revert this
        cases e.testBit i <;> cases o.testBit i <;> simp
      have hle2 : e ^^^ o ≤ e := by rw [← hx]; exact Nat.and_le_right
      have hne2 : e ^^^ o ≠ e := fun z => o0 (by
        have := congrArg (fun x => e ^^^ x) z
        simpa [← Nat.xor_assoc] using this)
      obtain ⟨m1, v1⟩ := (mem_lEvens h8).mp he
      obtain ⟨m2, v2⟩ := (mem_lEvens h8).mp ho
      have hxe : e ^^^ o ∈ lEvens n T := (mem_lEvens h8).mpr ⟨Nat.xor_lt_two_pow m1 m2, by rw [mvec_xor]; exact v1.add v2⟩
      have s1 := ih o (by omega) ho
      have s2 := ih (e ^^^ o) (by omega) hxe
      refine (s2.add s1).congr fun i _ => ?_
      rw [mvec_xor]
      show _ = Bool.xor (Bool.xor _ _) _
      cases mvec e i <;> cases mvec o i <;> rfl
theorem lBoth_spec (w : Web n T) (h8 : T.length ≤ 8) {m : Nat} (h : m ∈ lBoth n T) : m < 2 ^ T.length ∧ IsEven n T (mvec m) ∧ IsCut T (mvec m) := by
  unfold lBoth at h
  rw [List.mem_filter, List.isEmpty_iff, List.filter_eq_nil_iff] at h
  obtain ⟨he, hr⟩ := h
  obtain ⟨hm, hev⟩ := (mem_lEvens h8).mp he
  refine ⟨hm, hev, cut_of_orth w fun x hx => ?_⟩
  obtain ⟨c, hc, ec⟩ := mask_of T.length x
  have hce : c ∈ lEvens n T := (mem_lEvens h8).mpr ⟨hc, hx.congr ec⟩
  rw [dot_congr EqM.rfl ec.symm]
  refine (evens_rounds h8 c hce).orth fun g hg => ?_
  obtain ⟨r, hrr, rfl⟩ := List.mem_map.mp hg
  have := hr r hrr
  rw [lOdd_dot hm h8] at this
  simpa using this
theorem sides_get (n some p : Nat) (hp : p < n) : (lSides n some).getD p 0 = if p = 0 then 0 else if some.testBit (p - 1) then 1 else 0 := by
  unfold lSides
  cases p with
  | zero => rfl
  | succ p =>
    rw [if_neg (by omega), List.getD_cons_succ, List.getD_eq_getElem?_getD, List.getElem?_map, List.getElem?_range (by omega)]
    show some / 2 ^ p &&& 1 = _
    rw [and_one]; rfl
def sideOf (some p : Nat) : Bool := decide (p ≠ 0) && some.testBit (p - 1)
theorem lCut_vec (w : Web n T) (some : Nat) : EqM T.length (mvec (lCut n T some)) (cutv T (sideOf some)) := fun k hk => by
  have hw := w.lt hk
  show (lMask _).testBit k = Bool.xor (sideOf some _) (sideOf some _)
  rw [lMask_bit (zipNums_nodup T _), Bool.eq_iff_iff, decide_eq_true_iff, zip_range, List.mem_map]
  have h1 : ∀ p, p < n → (lSides n some).getD p 0 = if sideOf some p then 1 else 0 := fun p hp => by
    rw [sides_get n some p hp]
    unfold sideOf
    by_cases c : p = 0
    · rw [if_pos c]; simp [c]
    · rw [if_neg c]; simp [c]
  have h2 : ((lSides n some).getD (ends T k).1 0 ≠ (lSides n some).getD (ends T k).2 0) ↔ Bool.xor (sideOf some (ends T k).1) (sideOf some (ends T k).2) = true := by
    rw [h1 _ (by omega), h1 _ hw.2]
    cases sideOf some (ends T k).1 <;> cases sideOf some (ends T k).2 <;> simp
  rw [← h2]
  constructor
  · rintro ⟨q, hq, rfl⟩
    obtain ⟨a, b⟩ := List.mem_filter.mp hq
    obtain ⟨t, _, rfl⟩ := List.mem_map.mp a
    exact of_decide_eq_true b
  · intro h
    exact ⟨(ends T k, k), List.mem_filter.mpr ⟨List.mem_map.mpr ⟨k, List.mem_range.mpr hk, rfl⟩, decide_eq_true h⟩, rfl⟩
theorem mem_lCuts (w : Web n T) {c : Nat} : c ∈ lCuts n T ↔ c < 2 ^ T.length ∧ IsCut T (mvec c) := by
  constructor
  · intro h
    refine ⟨lCuts_lt c h, ?_⟩
    obtain ⟨s, _, rfl⟩ := List.mem_map.mp h
    exact ⟨_, lCut_vec w s⟩
  · rintro ⟨hc, s, hs⟩
    obtain ⟨s', h0, es⟩ := cut_flip (T := T) s
    rw [← es] at hs
    obtain ⟨some, h1, h2⟩ := mask_of (n - 1) fun p => s' (p + 1)
    refine List.mem_map.mpr ⟨some, List.mem_range.mpr h1, mvec_inj (lCut_lt n T some) hc ((lCut_vec w some).trans (EqM.trans (fun k hk => ?_) hs.symm))⟩
    have hw := w.lt hk
    have key : ∀ p, p < n → sideOf some p = s' p := fun p hp => by
      unfold sideOf
      cases p with
      | zero => simp [h0]
      | succ p =>
        have := h2 p (by omega)
        show (true && some.testBit p) = _
        rw [Bool.true_and]
        exact this
    show Bool.xor (sideOf some _) (sideOf some _) = Bool.xor (s' _) (s' _)
    rw [key _ (by omega), key _ hw.2]
theorem mem_lSpan {s : Nat} : s ∈ lSpan n T ↔ ∃ c ∈ lCuts n T, ∃ e ∈ lEvens n T, s = c ^^^ e := by
  unfold lSpan
  rw [(sortN_perm _).mem_iff]
  unfold lSpanK
  have k1 : ∀ (c : Nat) (l : List Nat) (k : List (Nat × Bool)), s ∈ (l.foldl (fun k e => putD k (c ^^^ e) true) k).map (·.1) ↔ s ∈ k.map (·.1) ∨ ∃ e ∈ l, s = c ^^^ e := by
    intro c l
    induction l with
    | nil => intro k; simp
    | cons e r ih =>
      intro k
      rw [List.foldl_cons, ih, keys_putD]
      simp [or_assoc]
  have k2 : ∀ (l : List Nat) (k : List (Nat × Bool)), s ∈ (l.foldl (fun k c => (lEvens n T).foldl (fun k e => putD k (c ^^^ e) true) k) k).map (·.1) ↔ s ∈ k.map (·.1) ∨ ∃ c ∈ l, ∃ e ∈ lEvens n T, s = c ^^^ e := by
    intro l
    induction l with
    | nil => intro k; simp
    | cons c r ih =>
      intro k
      rw [List.foldl_cons, ih, k1]
      simp [or_assoc]
  rw [k2]
  simp
theorem lSpan_iff (w : Web n T) (h8 : T.length ≤ 8) {s : Nat} : s ∈ lSpan n T ↔ s < 2 ^ T.length ∧ ∃ c e, IsCut T c ∧ IsEven n T e ∧ EqM T.length (mvec s) (vadd c e) := by
  rw [mem_lSpan]
  constructor
  · rintro ⟨c, hc, e, he, rfl⟩
    obtain ⟨c1, c2⟩ := (mem_lCuts w).mp hc
    obtain ⟨e1, e2⟩ := (mem_lEvens h8).mp he
    exact ⟨Nat.xor_lt_two_pow c1 e1, _, _, c2, e2, by rw [mvec_xor]; exact EqM.rfl⟩
  · rintro ⟨hs, c, e, hc, he, h⟩
    obtain ⟨c', c1, c2⟩ := mask_of T.length c
    obtain ⟨e', e1, e2⟩ := mask_of T.length e
    refine ⟨c', (mem_lCuts w).mpr ⟨c1, hc.congr c2⟩, e', (mem_lEvens h8).mpr ⟨e1, he.congr e2⟩, mvec_inj hs (Nat.xor_lt_two_pow c1 e1) (h.trans ?_)⟩
    rw [mvec_xor]
    exact EqM.add c2.symm e2.symm
theorem lSpan_xor (w : Web n T) (h8 : T.length ≤ 8) {a b : Nat} (ha : a ∈ lSpan n T) (hb : b ∈ lSpan n T) : a ^^^ b ∈ lSpan n T := by
  obtain ⟨h1, c1, e1, p1, q1, r1⟩ := (lSpan_iff w h8).mp ha
  obtain ⟨h2, c2, e2, p2, q2, r2⟩ := (lSpan_iff w h8).mp hb
  refine (lSpan_iff w h8).mpr ⟨Nat.xor_lt_two_pow h1 h2, vadd c1 c2, vadd e1 e2, p1.add p2, q1.add q2, ?_⟩
  rw [mvec_xor]
  refine (EqM.add r1 r2).trans fun i _ => ?_
  show Bool.xor (Bool.xor _ _) (Bool.xor _ _) = Bool.xor (Bool.xor _ _) (Bool.xor _ _)
  cases c1 i <;> cases e1 i <;> cases c2 i <;> cases e2 i <;> rfl
theorem lSpan_zero (w : Web n T) (h8 : T.length ≤ 8) : 0 ∈ lSpan n T :=
  (lSpan_iff w h8).mpr ⟨Nat.two_pow_pos _, vzero, vzero, .zero, .zero, fun i _ => by show (0 : Nat).testBit i = Bool.xor false false; simp⟩
theorem xor_ex {S : List Nat} {c x : Nat} : (∃ o ∈ S, c ^^^ o = x) ↔ c ^^^ x ∈ S := by
  constructor
  · rintro ⟨o, h, rfl⟩
    rwa [← Nat.xor_assoc, Nat.xor_self, Nat.zero_xor]
  · intro h
    exact ⟨_, h, by rw [← Nat.xor_assoc, Nat.xor_self, Nat.zero_xor]⟩
def firstIn (S : List Nat) (l : List Nat) (x : Nat) : Option Nat := l.find? fun c => decide (c ^^^ x ∈ S)
theorem gapRun {S : List Nat} (hx : ∀ a ∈ S, ∀ b ∈ S, a ^^^ b ∈ S) (h0 : 0 ∈ S) (l : List Nat) : ∀ (pre : List Nat) (k : List (Nat × Nat)), (∀ x, valN k x = (firstIn S pre x).map lBits) →
    ∀ x, valN (l.foldl (lGapStep S) k) x = (firstIn S (pre ++ l) x).map lBits := by
  induction l with
  | nil => intro pre k h x; rw [List.append_nil]; exact h x
  | cons c r ih =>
    intro pre k h x
    have := ih (pre ++ [c]) (lGapStep S k c) (fun x => ?_) x
    · rw [List.append_assoc] at this
      exact this
    · have hsw : ∀ a b : Nat, a ^^^ b = b ^^^ a := Nat.xor_comm
      have hfa : firstIn S (pre ++ [c]) x = (firstIn S pre x).or (if c ^^^ x ∈ S then some c else none) := by
        unfold firstIn
        rw [List.find?_append, List.find?_singleton]
        congr 1
        by_cases d : c ^^^ x ∈ S <;> simp [d]
      rw [hfa]
      unfold lGapStep
      by_cases e : valN k c = none
      · rw [if_pos e, valN_puts]
        have hno : firstIn S pre c = none := by
          rw [h c] at e
          exact Option.map_eq_none_iff.mp e
        unfold firstIn at hno
        rw [List.find?_eq_none] at hno
        by_cases d : c ^^^ x ∈ S
        · rw [if_pos (xor_ex.mpr d), if_pos d]
          have : firstIn S pre x = none := by
            unfold firstIn
            rw [List.find?_eq_none]
            intro c' hc' z
            have z := of_decide_eq_true z
            refine hno c' hc' (decide_eq_true ?_)
            have := hx _ z _ d
            rwa [show c' ^^^ x ^^^ (c ^^^ x) = c' ^^^ c by rw [hsw c x, Nat.xor_assoc, ← Nat.xor_assoc x, Nat.xor_self, Nat.zero_xor]] at this
          rw [this]; rfl
        · rw [if_neg fun z => d (xor_ex.mp z), if_neg d, h x, Option.or_none]
      · rw [if_neg e, h x]
        by_cases d : c ^^^ x ∈ S
        · rw [if_pos d]
          have : firstIn S pre x ≠ none := by
            intro z
            rw [h c] at e
            refine e ?_
            rw [Option.map_eq_none_iff]
            unfold firstIn at z ⊢
            rw [List.find?_eq_none] at z ⊢
            intro c' hc' y
            have y := of_decide_eq_true y
            refine z c' hc' (decide_eq_true ?_)
            have := hx _ y _ d
            rwa [show c' ^^^ c ^^^ (c ^^^ x) = c' ^^^ x by rw [Nat.xor_assoc, ← Nat.xor_assoc c, Nat.xor_self, Nat.zero_xor]] at this
          cases e2 : firstIn S pre x with
          | none => exact absurd e2 this
          | some v => rfl
        · rw [if_neg d, Option.or_none]
theorem pairwise_find {l : List Nat} {p : Nat → Bool} {v : Nat} (hp : l.Pairwise fun a b => lBits a ≤ lBits b) (h : l.find? p = some v) : ∀ c ∈ l, p c = true → lBits v ≤ lBits c := by
  induction l with
  | nil => exact fun c hc => by simp at hc
  | cons a r ih =>
    intro c hc pc
    obtain ⟨h1, h2⟩ := List.pairwise_cons.mp hp
    rw [List.find?_cons] at h
    cases e : p a with
    | true =>
      rw [e] at h
      cases h
      rcases List.mem_cons.mp hc with z | z
      · rw [z]; exact Nat.le_refl _
      · exact h1 c z
    | false =>
      rw [e] at h
      rcases List.mem_cons.mp hc with z | z
      · rw [z, e] at pc; cases pc
      · exact ih h2 h c z pc
theorem lGaps_spec (w : Web n T) (h8 : T.length ≤ 8) {x : Nat} (hx : x < 2 ^ T.length) : ∃ c, c < 2 ^ T.length ∧ valN (lGaps n T) x = some (lBits c) ∧ c ^^^ x ∈ lSpan n T ∧ ∀ c', c' < 2 ^ T.length → c' ^^^ x ∈ lSpan n T → lBits c ≤ lBits c' := by
  have key := gapRun (S := lSpan n T) (fun a ha b hb => lSpan_xor w h8 ha hb) (lSpan_zero w h8) (sortBits (List.range (2 ^ T.length))) [] [] (fun _ => rfl) x
  rw [List.nil_append] at key
  have hm : ∀ c, c ∈ sortBits (List.range (2 ^ T.length)) ↔ c < 2 ^ T.length := fun c => by rw [(sortBits_perm _).mem_iff, List.mem_range]
  cases e : firstIn (lSpan n T) (sortBits (List.range (2 ^ T.length))) x with
  | none =>
    unfold firstIn at e
    rw [List.find?_eq_none] at e
    exact absurd (decide_eq_true (by rw [Nat.xor_self]; exact lSpan_zero w h8)) (e x ((hm x).mpr hx))
  | some c =>
    rw [e] at key
    unfold firstIn at e
    have h1 := List.find?_some e
    have h2 := List.mem_of_find?_eq_some e
    refine ⟨c, (hm c).mp h2, key, of_decide_eq_true h1, fun c' hc' hs => ?_⟩
    exact pairwise_find (sortBits_pw _) e c' ((hm c').mpr hc') (decide_eq_true hs)
end
end Bo
set_option linter.all false
/-! The plain law, of thick and of thin webs. -/
namespace Bw
open Bo
section
variable {n : Nat} {T : Ties}
theorem lLot_vec {m c k : Nat} (hk : k < m) : lotVec (lLot c m) k = mvec c k := by
  show decide _ = _
  unfold lLot
  rw [Bool.eq_iff_iff, decide_eq_true_iff, List.mem_filter, List.mem_range, decide_eq_true_iff, and_one]
  show _ ↔ c.testBit k = true
  cases c.testBit k <;> simp [hk]
theorem lLot_nd (m c : Nat) : (lLot c m).Nodup := List.nodup_range.filter _
theorem lLot_lt {m c t : Nat} (h : t ∈ lLot c m) : t < m := List.mem_range.mp (List.mem_filter.mp h).1
theorem lBits_len {m c : Nat} {l : List Nat} (h8 : m ≤ 8) (hc : c < 2 ^ m) (hn : l.Nodup) (hl : ∀ t ∈ l, t < m) (h : EqM m (mvec c) (lotVec l)) : lBits c = l.length := by
  rw [lBits_popc (Nat.lt_of_lt_of_le hc (Nat.pow_le_pow_right (by decide) h8)), popc_hi hc h8, popc_lot hn hl h]
theorem lBits_lot {m c : Nat} (h8 : m ≤ 8) (hc : c < 2 ^ m) : lBits c = (lLot c m).length :=
  lBits_len h8 hc (lLot_nd m c) (fun _ h => lLot_lt h) fun k hk => (lLot_vec hk).symm
theorem oddTs_mem {one other : List Int} {m t : Nat} : t ∈ oddTs one other m ↔ t < m ∧ (one.getD t 0 - other.getD t 0) % 2 = 1 := by
  unfold oddTs
  rw [List.mem_filter, List.mem_range, decide_eq_true_iff]
theorem odd_same {one other : List Int} {m : Nat} (h1 : one.length = m) (h2 : other.length = m) : lotVec (oddTs one other m) = lotVec (oddTies one other) := by
  funext k
  show decide _ = decide _
  rw [Bool.eq_iff_iff, decide_eq_true_iff, decide_eq_true_iff, oddTs_mem, mem_oddTies (by omega), h1]
  refine and_congr_right fun _ => ?_
  omega
theorem thinL_nil (k : Ok8 n T) (h : thinCut n T = none) : thinL n T = [] := by
  unfold thinL
  rw [List.filter_eq_nil_iff]
  intro c hc hb
  obtain ⟨h1, h2⟩ := (mem_lCuts k.ok.web).mp hc
  have hl := lBits_lot k.t8 h1
  simp only [Bool.and_eq_true, decide_eq_true_eq] at hb
  have hn9 := k.ok.hi
  refine thinCut_none k.ok.web hn9 h (lLot_nd T.length c) (fun t ht => lLot_lt ht) (h2.congr fun i hi => lLot_vec hi) ?_ ?_ <;> omega
theorem thin_ok (k : Ok8 n T) {l : List Nat} (h : thinCut n T = some l) : l.Pairwise (· < ·) ∧ (∀ t ∈ l, t < T.length) ∧ lMask l ∈ thinL n T := by
  obtain ⟨a, b, c0, c2, d⟩ := thinCut_some k.ok.web k.ok.hi h
  refine ⟨a, b, ?_⟩
  have hn : l.Nodup := a.imp fun h => Nat.ne_of_lt h
  have hlt := lMask_lt hn b
  have hv : mvec (lMask l) = lotVec l := mvec_mask (m := T.length) hn
  have hb := lBits_len k.t8 hlt hn b (by rw [hv]; exact EqM.rfl)
  unfold thinL
  rw [List.mem_filter]
  refine ⟨(mem_lCuts k.ok.web).mpr ⟨hlt, by rw [hv]; exact d⟩, ?_⟩
  rw [hb, decide_eq_true (by omega), decide_eq_true (by omega)]; rfl
theorem thick_ok {one other : List Int} (k : Ok8 n T) (h1 : IntsS T.length Bd one) (h2 : other.length = T.length) (h : thinCut n T = none) : RightP n T one other (mended n T one other) := by
  have w := k.ok.web
  have hn9 := k.ok.hi
  have L := mendLot_spec w hn9 h1.1 h2
  have hl : ∀ t ∈ mendLot n T one other, t < one.length := fun t ht => by rw [h1.1]; exact L.lt t ht
  have hol : ∀ t ∈ oddTies one other, t < T.length := fun t ht => by
    have := ((mem_oddTies (by rw [h1.1]; exact h2)).mp ht).1
    rw [h1.1] at this; exact this
  have hpar := mend_par (lot := mendLot n T one other) (one := one) (other := other) (by rw [h1.1]; exact h2) L.nd hl
  rw [h1.1] at hpar
  have hpar : EqM T.length (pv (mended n T one other) other) (vadd (lotVec (mendLot n T one other)) (lotVec (oddTies one other))) := hpar
  have hlv : ∀ c, EqM T.length (lotVec (lLot c T.length)) (mvec c) := fun c i hi => lLot_vec hi
  refine ⟨k, h1.1, h2, ?_, ?_, fun m hm => ?_, ?_⟩
  · unfold mended; rw [mend_len]; exact h1.1
  · exact mend_bd L.nd hl h1.2
  · obtain ⟨m1, m2, m3⟩ := lBoth_spec w k.t8 hm
    have hs := sum_par (fun t => (mended n T one other).getD t 0 - other.getD t 0) (lLot m T.length)
    have hx : xsum (lLot m T.length) (pv (mended n T one other) other) = false := by
      rw [← dot_lot _ (lLot_nd _ _) (fun t ht => lLot_lt ht), dot_congr (hlv m) hpar, dot_add', dot_comm _ _ (lotVec (mendLot n T one other)), dot_comm _ _ (lotVec (oddTies one other)), dot_lot _ L.nd L.lt, dot_lot _ (oddTies_nd one other) hol, L.eq _ m3 m2]
      simp
    intro z
    rw [decide_eq_true z] at hs
    have hs : true = xsum (lLot m T.length) (pv (mended n T one other) other) := hs
    rw [hx] at hs
    cases hs
  · have hod : (oddTs one other T.length).Nodup := List.nodup_range.filter _
    have hx : lMask (oddTs one other T.length) < 2 ^ T.length := lMask_lt hod fun t ht => (oddTs_mem.mp ht).1
    have hxv : mvec (lMask (oddTs one other T.length)) = lotVec (oddTies one other) := by rw [mvec_mask (m := T.length) hod, odd_same h1.1 h2]
    obtain ⟨c, c1, c2, c3, c4⟩ := lGaps_spec (n := n) w k.t8 hx
    have hd : diffN one (mended n T one other) = (mendLot n T one other).length := mend_diff L.nd hl
    rw [c2, hd]
    congr 1
    refine Nat.le_antisymm ?_ ?_
    · have hlt := lMask_lt L.nd L.lt
      have hmv : mvec (lMask (mendLot n T one other)) = lotVec (mendLot n T one other) := mvec_mask (m := T.length) L.nd
      rw [← lBits_len k.t8 hlt L.nd L.lt (by rw [hmv]; exact EqM.rfl)]
      refine c4 _ hlt ((lSpan_iff w k.t8).mpr ⟨Nat.xor_lt_two_pow hlt hx, ?_⟩)
      refine both_orth w (E := (treeRounds n T).map lotVec) (fun x hx => rounds_span w hn9 hx) (fun g hg => ?_) fun y hy hc => ?_
      · obtain ⟨l, hl, rfl⟩ := List.mem_map.mp hg
        exact rounds_even w hn9 l hl
      · rw [mvec_xor, hmv, hxv, dot_add', dot_comm, dot_comm _ y (lotVec (oddTies one other)), dot_lot _ L.nd L.lt, dot_lot _ (oddTies_nd one other) hol, L.eq y hc hy]
        simp
    · rw [lBits_lot k.t8 c1]
      refine L.mn _ (fun t ht => lLot_lt ht) fun y hc he => ?_
      obtain ⟨_, cc, ee, pc, pe, hz⟩ := (lSpan_iff w k.t8).mp c3
      have h0 : dot T.length y (mvec (c ^^^ lMask (oddTs one other T.length))) = false := by
        rw [dot_congr EqM.rfl hz, dot_add', even_cut w he pc, dot_comm, even_cut w pe hc]; rfl
      rw [mvec_xor, hxv, dot_add', dot_comm, dot_comm _ y (lotVec (oddTies one other)), dot_lot _ (oddTies_nd one other) hol] at h0
      rw [← dot_lot _ (lLot_nd _ _) (fun t ht => lLot_lt ht), dot_congr (hlv c) EqM.rfl]
      revert h0
      cases dot T.length (mvec c) y <;> cases xsum (oddTies one other) y <;> simp
end
end Bw
set_option linter.all false
/-! The plain law, of rings and rows. -/
namespace Bw
open Bo
def psum {α : Type} : List α → (α → Bool) → Bool
  | [], _ => false
  | a :: r, f => (f a).xor (psum r f)
section
variable {α : Type}
theorem psum_app (a b : List α) (f : α → Bool) : psum (a ++ b) f = (psum a f).xor (psum b f) := by
  induction a with
  | nil => show _ = Bool.xor false _; simp
  | cons x r ih =>
    show Bool.xor (f x) (psum (r ++ b) f) = Bool.xor (Bool.xor (f x) (psum r f)) _
    rw [ih, Bool.xor_assoc]
theorem psum_perm {a b : List α} (h : a.Perm b) (f : α → Bool) : psum a f = psum b f := by
  induction h with
  | nil => rfl
  | cons x _ ih => show Bool.xor (f x) _ = Bool.xor (f x) _; rw [ih]
  | swap x y l =>
    show Bool.xor (f y) (Bool.xor (f x) _) = Bool.xor (f x) (Bool.xor (f y) _)
    cases f x <;> cases f y <;> simp
  | trans _ _ h1 h2 => exact h1.trans h2
theorem psum_congr {l : List α} {f g : α → Bool} (h : ∀ e ∈ l, f e = g e) : psum l f = psum l g := by
  induction l with
  | nil => rfl
  | cons x r ih =>
    show Bool.xor _ _ = Bool.xor _ _
    rw [h x (List.mem_cons_self ..), ih fun e he => h e (List.mem_cons_of_mem _ he)]
theorem psum_xor (l : List α) (f g : α → Bool) : (psum l fun e => (f e).xor (g e)) = (psum l f).xor (psum l g) := by
  induction l with
  | nil => rfl
  | cons x r ih =>
    show Bool.xor (Bool.xor _ _) _ = Bool.xor (Bool.xor _ _) (Bool.xor _ _)
    rw [ih]
    cases f x <;> cases g x <;> cases psum r f <;> cases psum r g <;> rfl
theorem psum_none {l : List α} {f : α → Bool} (h : ∀ e ∈ l, f e = false) : psum l f = false := by
  induction l with
  | nil => rfl
  | cons x r ih =>
    show Bool.xor _ _ = _
    rw [h x (List.mem_cons_self ..), ih fun e he => h e (List.mem_cons_of_mem _ he)]; rfl
theorem psum_one {l : List α} {e0 : α} {f : α → Bool} (hn : l.Nodup) (he : e0 ∈ l) (h : ∀ e ∈ l, e ≠ e0 → f e = false) : psum l f = f e0 := by
  induction l with
  | nil => simp at he
  | cons x r ih =>
    obtain ⟨h1, h2⟩ := List.nodup_cons.mp hn
    show Bool.xor _ _ = _
    by_cases c : x = e0
    · subst c
      rw [psum_none fun e he => h e (List.mem_cons_of_mem _ he) fun z => h1 (z ▸ he)]; simp
    · rw [h x (List.mem_cons_self ..) c]
      rcases List.mem_cons.mp he with z | z
      · exact absurd z.symm c
      · rw [ih h2 z fun e he => h e (List.mem_cons_of_mem _ he)]; simp
theorem nodup_sub : ∀ {a b : List Nat}, a.Nodup → (∀ x ∈ a, x ∈ b) → a.length ≤ b.length
  | [], _, _, _ => Nat.zero_le _
  | x :: r, b, hn, h => by
    obtain ⟨h1, h2⟩ := List.nodup_cons.mp hn
    have hx := h x (List.mem_cons_self ..)
    have := nodup_sub (a := r) (b := b.erase x) h2 fun y hy => (List.mem_erase_of_ne fun z => h1 (by rw [← z]; exact hy)).mpr (h y (List.mem_cons_of_mem _ hy))
    rw [List.length_erase_of_mem hx] at this
    have := List.length_pos_of_mem hx
    rw [List.length_cons]; omega
end
def cntE (E : Ties) (f : Nat × Nat → Bool) : Nat := (E.filter f).length
theorem cntE_congr {E : Ties} {f g : Nat × Nat → Bool} (h : ∀ e ∈ E, f e = g e) : cntE E f = cntE E g := by
  unfold cntE
  rw [List.filter_congr h]
theorem cntE_not (E : Ties) (f : Nat × Nat → Bool) : cntE E f + cntE E (fun e => !f e) = E.length := by
  unfold cntE
  induction E with
  | nil => rfl
  | cons e r ih =>
    rw [List.filter_cons, List.filter_cons]
    cases f e <;> simp <;> omega
theorem cntE_flip {E : Ties} {e0 : Nat × Nat} {f : Nat × Nat → Bool} (hn : E.Nodup) : cntE E (fun e => (decide (e0 = e)).xor (f e)) ≤ cntE E f + 1 := by
  unfold cntE
  induction E with
  | nil => exact Nat.zero_le _
  | cons e r ih =>
    obtain ⟨h1, h2⟩ := List.nodup_cons.mp hn
    rw [List.filter_cons, List.filter_cons]
    by_cases c : e0 = e
    · have hr : (r.filter fun e => (decide (e0 = e)).xor (f e)) = r.filter f := List.filter_congr fun x hx => by
        rw [decide_eq_false fun z => h1 (by rw [← c, z]; exact hx)]; simp
      rw [hr, decide_eq_true c]
      cases f e <;> simp <;> omega
    · have := ih h2
      rw [decide_eq_false c]
      cases f e <;> simp at this ⊢ <;> omega
/-- the parity of a lot on the ties between two places -/
def parE (T : Ties) (L : List Nat) (e : Nat × Nat) : Bool := xsum L fun k => decide (ends T k = e)
theorem parE_le {T E : Ties} (hn : E.Nodup) (L : List Nat) : cntE E (parE T L) ≤ L.length := by
  induction L with
  | nil =>
    show (E.filter _).length ≤ 0
    rw [List.filter_eq_nil_iff.mpr fun e _ => by simp [parE, xsum]]
    exact Nat.le_refl _
  | cons t r ih =>
    have := cntE_flip (E := E) (e0 := ends T t) (f := parE T r) hn
    show cntE E (fun e => (decide (ends T t = e)).xor (parE T r e)) ≤ r.length + 1
    omega
section
variable {T E : Ties}
theorem xsum_ends (hn : E.Nodup) (hE : ∀ k, k < T.length → ends T k ∈ E) (f : Nat × Nat → Bool) {L : List Nat} (hL : ∀ t ∈ L, t < T.length) : (xsum L fun k => f (ends T k)) = psum E fun e => parE T L e && f e := by
  induction L with
  | nil => exact (psum_none fun e _ => rfl).symm
  | cons t r ih =>
    show Bool.xor (f (ends T t)) (xsum r _) = psum E fun e => (Bool.xor (decide (ends T t = e)) (parE T r e)) && f e
    rw [ih fun x hx => hL x (List.mem_cons_of_mem _ hx)]
    have h1 : (psum E fun e => decide (ends T t = e) && f e) = f (ends T t) := by
      rw [psum_one hn (hE t (hL t (List.mem_cons_self ..))) fun e _ hne => by rw [decide_eq_false fun z => hne z.symm]; rfl, decide_eq_true rfl]; rfl
    rw [← h1, ← psum_xor]
    refine psum_congr fun e _ => ?_
    cases decide (ends T t = e) <;> cases parE T r e <;> cases f e <;> rfl
/-- a lot with given parities, one tie each -/
theorem pick_lot (hn : E.Nodup) (hE : ∀ e ∈ E, ∃ k, k < T.length ∧ ends T k = e) (g : Nat × Nat → Bool) : ∃ L : List Nat, (∀ t ∈ L, t < T.length) ∧ L.length = cntE E g ∧ ∀ e, parE T L e = (decide (e ∈ E) && g e) := by
  induction E with
  | nil => exact ⟨[], fun _ h => by simp at h, rfl, fun e => by simp [parE, xsum]⟩
  | cons a r ih =>
    obtain ⟨h1, h2⟩ := List.nodup_cons.mp hn
    obtain ⟨L, l1, l2, l3⟩ := ih h2 fun e he => hE e (List.mem_cons_of_mem _ he)
    obtain ⟨k, hk, ek⟩ := hE a (List.mem_cons_self ..)
    cases c : g a with
    | true =>
      refine ⟨k :: L, fun t ht => ?_, ?_, fun e => ?_⟩
      · rcases List.mem_cons.mp ht with z | z
        · rw [z]; exact hk
        · exact l1 t z
      · unfold cntE at l2 ⊢
        rw [List.filter_cons, if_pos c, List.length_cons, List.length_cons, l2]
      · show Bool.xor (decide (ends T k = e)) (parE T L e) = _
        rw [l3 e, ek]
        by_cases z : a = e
        · subst z
          simp [h1, c]
        · have : e ≠ a := fun y => z y.symm
          simp [z, this]
    | false =>
      refine ⟨L, l1, ?_, fun e => ?_⟩
      · unfold cntE at l2 ⊢
        rw [List.filter_cons, if_neg (by rw [c]; simp), l2]
      · rw [l3 e]
        by_cases z : e = a
        · subst z
          simp [h1, c]
        · simp [z]
theorem dot_ends (u v : Nat × Nat → Bool) : dot T.length (fun k => u (ends T k)) (fun k => v (ends T k)) = psum T fun e => u e && v e := by
  have key : ∀ j, j ≤ T.length → dot j (fun k => u (ends T k)) (fun k => v (ends T k)) = psum (T.take j) fun e => u e && v e := by
    intro j
    induction j with
    | zero => intro _; rfl
    | succ j ih =>
      intro hj
      have he : ends T j = T[j] := by
        unfold ends
        rw [List.getD_eq_getElem?_getD, List.getElem?_eq_getElem (by omega)]; rfl
      rw [List.take_succ_eq_append_getElem (by omega), psum_app, ← ih (by omega)]
      show Bool.xor _ (u (ends T j) && v (ends T j)) = Bool.xor _ (Bool.xor (u T[j] && v T[j]) false)
      rw [he, Bool.xor_false]
  have := key _ (Nat.le_refl _)
  rwa [List.take_length] at this
end
/-! the pairs of neighbours -/
def phi (s : Nat → Bool) (e : Nat × Nat) : Bool := (s e.1).xor (s e.2)
theorem mem_pairs {ring : Bool} {n : Nat} {e : Nat × Nat} : e ∈ pairsOf ring n ↔ (∃ i, i < n - 1 ∧ e = (i, i + 1)) ∨ (ring = true ∧ e = (0, n - 1)) := by
  unfold pairsOf
  rw [List.mem_append, List.mem_map]
  refine or_congr ⟨fun ⟨i, h, e⟩ => ⟨i, List.mem_range.mp h, e.symm⟩, fun ⟨i, h, e⟩ => ⟨i, List.mem_range.mpr h, e.symm⟩⟩ ?_
  cases ring <;> simp
theorem pairs_nd {ring : Bool} {n : Nat} (h1 : ring = true → 6 ≤ n ∧ n ≤ 9) (h2 : ring = false → 4 ≤ n ∧ n ≤ 5) : (pairsOf ring n).Nodup := by
  cases ring with
  | true =>
    have := h1 rfl
    rcases (by omega : n = 6 ∨ n = 7 ∨ n = 8 ∨ n = 9) with rfl | rfl | rfl | rfl <;> decide
  | false =>
    have := h2 rfl
    rcases (by omega : n = 4 ∨ n = 5) with rfl | rfl <;> decide
theorem ring_phi (n : Nat) (s : Nat → Bool) : psum (pairsOf true n) (phi s) = false := by
  have key : ∀ j, psum ((List.range j).map fun i => (i, i + 1)) (phi s) = (s 0).xor (s j) := by
    intro j
    induction j with
    | zero => show false = _; simp
    | succ j ih =>
      rw [List.range_succ, List.map_append, psum_app, ih]
      show Bool.xor _ (Bool.xor (Bool.xor (s j) (s (j + 1))) false) = _
      cases s 0 <;> cases s j <;> cases s (j + 1) <;> rfl
  unfold pairsOf
  rw [psum_app, key]
  show Bool.xor _ (Bool.xor (Bool.xor (s 0) (s (n - 1))) false) = false
  cases s 0 <;> cases s (n - 1) <;> rfl
theorem psum_bund (ring : Bool) (n : Nat) (f : Nat × Nat → Bool) : psum (bundTies ring n) f = false := by
  unfold bundTies
  cases ring with
  | true =>
    show psum (pairsOf true n ++ (pairsOf true n ++ [])) f = false
    rw [List.append_nil, psum_app]; simp
  | false =>
    show psum (pairsOf false n ++ (pairsOf false n ++ (pairsOf false n ++ (pairsOf false n ++ [])))) f = false
    rw [List.append_nil, psum_app, psum_app, psum_app]
    cases psum (pairsOf false n) f <;> rfl
theorem mem_bund {ring : Bool} {n : Nat} {e : Nat × Nat} : e ∈ bundTies ring n ↔ e ∈ pairsOf ring n := by
  unfold bundTies
  cases ring <;> simp [List.mem_flatten, List.mem_replicate]
theorem count_bund {ring : Bool} {n : Nat} {e : Nat × Nat} (hn : (pairsOf ring n).Nodup) (he : e ∈ pairsOf ring n) : (bundTies ring n).count e = if ring then 2 else 4 := by
  have h1 : (pairsOf ring n).count e = 1 := by
    have := List.nodup_iff_count.mp hn e
    have := List.count_pos_iff.mpr he
    omega
  unfold bundTies
  cases ring with
  | true =>
    show (pairsOf true n ++ (pairsOf true n ++ [])).count e = 2
    rw [List.append_nil, List.count_append, h1]
  | false =>
    show (pairsOf false n ++ (pairsOf false n ++ (pairsOf false n ++ (pairsOf false n ++ [])))).count e = 4
    rw [List.append_nil, List.count_append, List.count_append, List.count_append, h1]
theorem mem_posOf {T : Ties} {e : Nat × Nat} {t : Nat} : t ∈ posOf T e ↔ t < T.length ∧ ends T t = e := by
  unfold posOf
  rw [zip_range, List.mem_map]
  constructor
  · rintro ⟨q, hq, rfl⟩
    obtain ⟨h1, h2⟩ := List.mem_filter.mp hq
    obtain ⟨t, ht, rfl⟩ := List.mem_map.mp h1
    exact ⟨List.mem_range.mp ht, of_decide_eq_true h2⟩
  · rintro ⟨h1, h2⟩
    exact ⟨(ends T t, t), List.mem_filter.mpr ⟨List.mem_map.mpr ⟨t, List.mem_range.mpr h1, rfl⟩, decide_eq_true h2⟩, rfl⟩
theorem posOf_nd (T : Ties) (e : Nat × Nat) : (posOf T e).Nodup := by unfold posOf; exact zipNums_nodup T _
theorem posOf_count (T : Ties) (e : Nat × Nat) : (posOf T e).length = T.count e := by
  unfold posOf
  rw [List.length_map, List.count_eq_length_filter]
  conv => rhs; rw [← List.zipIdx_map_fst 0 T, List.filter_map, List.length_map]
  congr 1
  refine List.filter_congr fun q _ => ?_
  show decide (q.1 = e) = (q.1 == e)
  rw [Bool.eq_iff_iff, decide_eq_true_iff, beq_iff_eq]
end Bw
set_option linter.all false
/-! Rings and rows are mended with as few ties as can be; what the plain law gives. -/
namespace Bw
open Bo
theorem iso_phi (i j : Nat) : phi (fun p => decide (p ≤ i)) (j, j + 1) = decide (j = i) := by
  show Bool.xor (decide (j ≤ i)) (decide (j + 1 ≤ i)) = _
  by_cases c : j ≤ i
  · by_cases d : j + 1 ≤ i
    · rw [decide_eq_true c, decide_eq_true d, decide_eq_false (by omega)]; rfl
    · rw [decide_eq_true c, decide_eq_false d, decide_eq_true (by omega)]; rfl
  · rw [decide_eq_false c, decide_eq_false (by omega), decide_eq_false (by omega)]; rfl
theorem iso_last {n i : Nat} (h : i < n - 1) : phi (fun p => decide (p ≤ i)) (0, n - 1) = true := by
  show Bool.xor (decide (0 ≤ i)) (decide (n - 1 ≤ i)) = true
  rw [decide_eq_true (Nat.zero_le _), decide_eq_false (by omega)]; rfl
/-- what meets all cuts evenly is alike at all pairs -/
theorem pairs_same {ring : Bool} {n : Nat} (hn : (pairsOf ring n).Nodup) {D : Nat × Nat → Bool} (h : ∀ s, (psum (pairsOf ring n) fun e => D e && phi s e) = false) : ∃ c, (ring = false → c = false) ∧ ∀ e ∈ pairsOf ring n, D e = c := by
  have hmap : ∀ i, i < n - 1 → psum ((List.range (n - 1)).map fun i => (i, i + 1)) (fun e => D e && phi (fun p => decide (p ≤ i)) e) = D (i, i + 1) := fun i hi => by
    have hn1 : ((List.range (n - 1)).map fun i => (i, i + 1)).Nodup := by
      unfold pairsOf at hn
      exact (List.nodup_append.mp hn).1
    rw [psum_one hn1 (e0 := (i, i + 1)) (List.mem_map.mpr ⟨i, List.mem_range.mpr hi, rfl⟩), iso_phi, decide_eq_true rfl, Bool.and_true]
    intro e he hne
    obtain ⟨j, _, rfl⟩ := List.mem_map.mp he
    rw [iso_phi, decide_eq_false fun z => hne (by rw [z]), Bool.and_false]
  cases ring with
  | false =>
    refine ⟨false, fun _ => rfl, fun e he => ?_⟩
    rcases mem_pairs.mp he with ⟨i, hi, rfl⟩ | ⟨z, _⟩
    · have := h fun p => decide (p ≤ i)
      unfold pairsOf at this
      rw [psum_app, hmap i hi] at this
      simpa [psum] using this
    · cases z
  | true =>
    refine ⟨D (0, n - 1), fun z => (by cases z), fun e he => ?_⟩
    rcases mem_pairs.mp he with ⟨i, hi, rfl⟩ | ⟨_, rfl⟩
    · have := h fun p => decide (p ≤ i)
      unfold pairsOf at this
      rw [psum_app, hmap i hi] at this
      have this : Bool.xor (D (i, i + 1)) (Bool.xor (D (0, n - 1) && phi (fun p => decide (p ≤ i)) (0, n - 1)) false) = false := this
      rw [iso_last hi] at this
      revert this
      cases D (i, i + 1) <;> cases D (0, n - 1) <;> simp
    · rfl
theorem pairs_meet {ring : Bool} {n : Nat} {D : Nat × Nat → Bool} {c : Bool} (hc : ring = false → c = false) (h : ∀ e ∈ pairsOf ring n, D e = c) (s : Nat → Bool) : (psum (pairsOf ring n) fun e => D e && phi s e) = false := by
  cases c with
  | false => exact psum_none fun e he => by rw [h e he]; rfl
  | true =>
    cases ring with
    | false => cases hc rfl
    | true =>
      rw [psum_congr (g := phi s) fun e he => by rw [h e he, Bool.true_and]]
      exact ring_phi n s
theorem pv_comm (A B : List Int) : pv A B = pv B A := by
  funext k
  show decide _ = decide _
  rw [Bool.eq_iff_iff, decide_eq_true_iff, decide_eq_true_iff]
  omega
theorem pv_odd {one other : List Int} (h : other.length = one.length) : EqM one.length (pv other one) (lotVec (oddTies one other)) := fun k hk => by
  show decide _ = decide _
  rw [Bool.eq_iff_iff, decide_eq_true_iff, decide_eq_true_iff, mem_oddTies h]
  exact ⟨fun z => ⟨hk, z⟩, fun z => z.2⟩
section
variable {ring : Bool} {n : Nat} {T : Ties}
theorem posOf_vec (e : Nat × Nat) : EqM T.length (lotVec (posOf T e)) fun k => decide (ends T k = e) := fun k hk => by
  show decide _ = decide _
  rw [Bool.eq_iff_iff, decide_eq_true_iff, decide_eq_true_iff, mem_posOf]
  exact ⟨fun z => z.2, fun z => ⟨hk, z⟩⟩
theorem odd_ones (A B : List Int) : lOddOnes (bundOf ring n T) A B = cntE (pairsOf ring n) fun e => dot T.length (pv B A) (lotVec (posOf T e)) := by
  unfold lOddOnes bundOf cntE
  rw [List.filter_map, List.length_map]
  congr 1
  refine List.filter_congr fun e _ => ?_
  show decide (((posOf T e).map fun t => B.getD t 0 - A.getD t 0).sum % 2 = 1) = _
  rw [sum_par (fun t => B.getD t 0 - A.getD t 0), dot_comm, dot_lot _ (posOf_nd T e) fun t ht => (mem_posOf.mp ht).1]
  rfl
theorem lot_pos {L : List Nat} (hn : L.Nodup) (hl : ∀ t ∈ L, t < T.length) (e : Nat × Nat) : dot T.length (lotVec L) (lotVec (posOf T e)) = parE T L e := by
  rw [dot_lot _ hn hl, xsum_congr hl (posOf_vec e)]
  rfl
variable (hT : List.Perm T (bundTies ring n)) (h1 : ring = true → 6 ≤ n ∧ n ≤ 9) (h2 : ring = false → 4 ≤ n ∧ n ≤ 5)
include hT h1 h2
theorem bund_ends {k : Nat} (hk : k < T.length) : ends T k ∈ pairsOf ring n := mem_bund.mp (hT.mem_iff.mp (ends_mem hk))
theorem bund_has {e : Nat × Nat} (he : e ∈ pairsOf ring n) : ∃ k, k < T.length ∧ ends T k = e := by
  obtain ⟨k, hk, ek⟩ := List.mem_iff_getElem.mp (hT.mem_iff.mpr (mem_bund.mpr he))
  refine ⟨k, hk, ?_⟩
  unfold ends
  rw [List.getD_eq_getElem?_getD, List.getElem?_eq_getElem hk]
  exact ek
theorem bund_even (s : Nat → Bool) : IsEven n T (cutv T s) := fun p _ => by
  have := dot_ends (T := T) (phi s) (fun e => decide (e.1 = p) || decide (e.2 = p))
  rw [psum_perm hT, psum_bund] at this
  exact this
theorem bund_sum (s : Nat → Bool) {L : List Nat} (hL : ∀ t ∈ L, t < T.length) : xsum L (cutv T s) = psum (pairsOf ring n) fun e => parE T L e && phi s e :=
  xsum_ends (pairs_nd h1 h2) (fun k hk => bund_ends hT h1 h2 hk) (phi s) hL
theorem bund_len {e : Nat × Nat} (he : e ∈ pairsOf ring n) : (posOf T e).length = if ring then 2 else 4 := by
  rw [posOf_count, hT.count_eq, count_bund (pairs_nd h1 h2) he]
theorem bund_thick : thinCut n T = none := by
  have ok := (bund_ok hT h1 h2).1
  cases h : thinCut n T with
  | none => rfl
  | some l =>
    exfalso
    obtain ⟨a, b, c0, c2, s, hs⟩ := thinCut_some ok.web ok.hi h
    have hn : l.Nodup := a.imp fun h => Nat.ne_of_lt h
    have hin : ∀ e ∈ pairsOf ring n, phi s e = true → ∀ t ∈ posOf T e, t ∈ l := fun e he hp t ht => by
      obtain ⟨q1, q2⟩ := mem_posOf.mp ht
      have h3 := hs t q1
      have : lotVec l t = phi s (ends T t) := h3
      rw [q2, hp] at this
      exact of_decide_eq_true this
    obtain ⟨t, ht⟩ : ∃ t, t ∈ l := by
      cases l with
      | nil => exact absurd rfl c0
      | cons t r => exact ⟨t, List.mem_cons_self ..⟩
    have he := bund_ends hT h1 h2 (b t ht)
    have hp : phi s (ends T t) = true := by
      have h3 : lotVec l t = phi s (ends T t) := hs t (b t ht)
      rw [← h3]
      exact decide_eq_true ht
    have hl1 := nodup_sub (posOf_nd T _) (hin _ he hp)
    rw [bund_len hT h1 h2 he] at hl1
    cases ring with
    | false => simp at hl1; omega
    | true =>
      have : ∃ e' ∈ pairsOf true n, e' ≠ ends T t ∧ phi s e' = true := by
        refine Classical.byContradiction fun hc => ?_
        have := psum_one (f := phi s) (pairs_nd h1 h2) he fun e he' hne => by
          cases z : phi s e with
          | false => rfl
          | true => exact absurd ⟨e, he', hne, z⟩ hc
        rw [ring_phi, hp] at this
        cases this
      obtain ⟨e', he', hne, hp'⟩ := this
      have hl2 := nodup_sub (a := posOf T (ends T t) ++ posOf T e') (b := l) (List.nodup_append.mpr ⟨posOf_nd T _, posOf_nd T _, fun x hx y hy z => by
        have q1 := (mem_posOf.mp hx).2
        have q2 := (mem_posOf.mp hy).2
        rw [← z, q1] at q2
        exact hne q2.symm⟩) fun x hx => by
          rcases List.mem_append.mp hx with z | z
          · exact hin _ he hp x z
          · exact hin _ he' hp' x z
      rw [List.length_append, bund_len hT h1 h2 he, bund_len hT h1 h2 he'] at hl2
      simp at hl2
      omega
theorem bund_mend {one other : List Int} (ho : IntsS T.length Bd one) (hl : other.length = T.length) : BundP ring n T one other (mended n T one other) := by
  have ok := (bund_ok hT h1 h2).1
  have w := ok.web
  have hn9 := ok.hi
  have hE := pairs_nd h1 h2
  have L := mendLot_spec w hn9 ho.1 hl
  have hlt : ∀ t ∈ mendLot n T one other, t < one.length := fun t ht => by rw [ho.1]; exact L.lt t ht
  have hol : ∀ t ∈ oddTies one other, t < T.length := fun t ht => by
    have := ((mem_oddTies (by rw [ho.1]; exact hl)).mp ht).1
    rw [ho.1] at this; exact this
  have hpar := mend_par (lot := mendLot n T one other) (one := one) (other := other) (by rw [ho.1]; exact hl) L.nd hlt
  rw [ho.1] at hpar
  have hpar : EqM T.length (pv (mended n T one other) other) (vadd (lotVec (mendLot n T one other)) (lotVec (oddTies one other))) := hpar
  have hodd := pv_odd (one := one) (other := other) (by rw [ho.1]; exact hl)
  rw [ho.1] at hodd
  have hd : diffN one (mended n T one other) = (mendLot n T one other).length := mend_diff L.nd hlt
  obtain ⟨c, hc, hD⟩ := pairs_same hE (D := fun e => (parE T (mendLot n T one other) e).xor (parE T (oddTies one other) e)) fun s => by
    have := L.eq (cutv T s) ⟨s, EqM.rfl⟩ (bund_even hT h1 h2 s)
    rw [bund_sum hT h1 h2 s L.lt, bund_sum hT h1 h2 s hol] at this
    rw [psum_congr (g := fun e => (parE T (mendLot n T one other) e && phi s e).xor (parE T (oddTies one other) e && phi s e)) fun e _ => by
      cases parE T (mendLot n T one other) e <;> cases parE T (oddTies one other) e <;> cases phi s e <;> rfl, psum_xor, this]
    simp
  have k1 : lOddOnes (bundOf ring n T) one other = cntE (pairsOf ring n) (parE T (oddTies one other)) := by
    rw [odd_ones]
    exact cntE_congr fun e _ => by rw [dot_congr hodd EqM.rfl, lot_pos (oddTies_nd one other) hol]
  have k2 : lOddOnes (bundOf ring n T) (mended n T one other) other = cntE (pairsOf ring n) fun _ => c := by
    rw [odd_ones]
    refine cntE_congr fun e he => ?_
    rw [pv_comm, dot_congr hpar EqM.rfl, dot_add, lot_pos L.nd L.lt, lot_pos (oddTies_nd one other) hol]
    exact hD e he
  have bl : (bundOf ring n T).length = (pairsOf ring n).length := by unfold bundOf; rw [List.length_map]
  have up : ∀ d : Bool, (ring = false → d = false) → (mendLot n T one other).length ≤ cntE (pairsOf ring n) fun e => (parE T (oddTies one other) e).xor d := fun d hd => by
    obtain ⟨L', l1, l2, l3⟩ := pick_lot hE (fun e he => bund_has hT h1 h2 he) fun e => (parE T (oddTies one other) e).xor d
    rw [← l2]
    refine L.mn L' l1 fun y hy _ => ?_
    obtain ⟨s, hs⟩ := hy
    rw [xsum_congr l1 hs, xsum_congr hol hs, bund_sum hT h1 h2 s l1, bund_sum hT h1 h2 s hol]
    have := pairs_meet (n := n) (D := fun e => (parE T L' e).xor (parE T (oddTies one other) e)) hd (fun e he => by
      rw [l3 e, decide_eq_true he]
      cases parE T (oddTies one other) e <;> cases d <;> rfl) s
    rw [psum_congr (g := fun e => (parE T L' e && phi s e).xor (parE T (oddTies one other) e && phi s e)) fun e _ => by
      cases parE T L' e <;> cases parE T (oddTies one other) e <;> cases phi s e <;> rfl, psum_xor] at this
    revert this
    cases (psum (pairsOf ring n) fun e => parE T L' e && phi s e) <;> cases (psum (pairsOf ring n) fun e => parE T (oddTies one other) e && phi s e) <;> simp
  have lo := parE_le (T := T) hE (mendLot n T one other)
  have lo : cntE (pairsOf ring n) (fun e => (parE T (oddTies one other) e).xor c) ≤ (mendLot n T one other).length := by
    refine Nat.le_trans (Nat.le_of_eq (cntE_congr fun e he => ?_)) lo
    have := hD e he
    rw [← this]
    cases parE T (mendLot n T one other) e <;> cases parE T (oddTies one other) e <;> rfl
  have x0 : cntE (pairsOf ring n) (fun e => (parE T (oddTies one other) e).xor false) = cntE (pairsOf ring n) (parE T (oddTies one other)) := cntE_congr fun e _ => by simp
  have x1 : cntE (pairsOf ring n) (fun e => (parE T (oddTies one other) e).xor true) = cntE (pairsOf ring n) fun e => !(parE T (oddTies one other) e) := cntE_congr fun e _ => by simp
  have hnot := cntE_not (pairsOf ring n) (parE T (oddTies one other))
  refine ⟨by unfold mended; rw [mend_len]; exact ho.1, mend_bd L.nd hlt ho.2, ?_, ?_⟩
  · rw [k2, bl]
    cases c with
    | false =>
      left
      unfold cntE
      rw [List.filter_eq_nil_iff.mpr fun e _ => by simp]; rfl
    | true =>
      right
      refine ⟨?_, ?_⟩
      · cases ring with
        | true => rfl
        | false => cases hc rfl
      · unfold cntE
        rw [List.filter_eq_self.mpr fun e _ => rfl]
  · rw [hd, k1, bl]
    have u0 := up false fun _ => rfl
    rw [x0] at u0
    cases ring with
    | false =>
      have : c = false := hc rfl
      rw [this, x0] at lo
      show _ = cntE _ _
      omega
    | true =>
      have u1 := up true fun z => by cases z
      rw [x1] at u1
      show _ = min (cntE _ _) (_ - cntE _ _)
      cases c with
      | false => rw [x0] at lo; omega
      | true => rw [x1] at lo; omega
end
theorem lawMath : LawMath where
  tree := fun n T ok => treeOk ok.web ok.hi
  bund := fun ring n T one other hT h1 h2 ho hl => ⟨bund_thick hT h1 h2, bund_mend hT h1 h2 ho hl⟩
  thick := fun n T one other k8 _ ho hl h => ⟨thinL_nil k8 h, thick_ok k8 ho hl h⟩
  thin := fun n T l k8 _ h => thin_ok k8 h
  one := ⟨by decide +kernel, by decide +kernel⟩
end Bw
set_option Elab.async false
set_option linter.all false
set_option maxRecDepth 100000
set_option maxHeartbeats 4000000
/-! repr; the law's def, called from the outside alone. -/
namespace Bw
open PySem PySem.Spec PyProof.Rows L2 Bo
/-- repr(x), x a list or a tuple of short ints and texts -/
def rRepr (K : PySem.W.Frag) : List V → Hp → VK → Prop := fun xs H Q => ∃ (a : Addr) (d : PyData), xs = [.ref a] ∧ Dp K H (.ref a) d ∧ d.showable = true ∧ d.hasDict = false ∧ d.shown.length ≤ sizeLine ∧ d.depth ≤ 60 ∧ Q (.str d.shown) H
theorem cr_repr {X : Cx} (hg : X.A.guards = some []) (hu : X.A.units + 64 < cLine) : CallR X (.builtin "repr") (rRepr X.K) := by
  intro pins s σ H xs us Q I r h
  obtain ⟨a, d, rfl, hx, h1, h2, h3, hdep, q⟩ := h
  rw [Vals.ref1 r]
  obtain ⟨as, rd⟩ := Dp.reads I d (.ref a) (.ref a) hx rfl
  refine PySem.repr_of_reads' rd h1 (fun z => by rw [h2] at z; cases z) hg (by omega) (fun b o e => e) (fun h' u tk hk => ?_) h3
  exact ⟨.str d.shown, H, I.kept (t' := tk) fun b o e => hk b o e, ⟨_, rfl⟩, q⟩
end Bw
set_option Elab.async false
set_option linter.all false
set_option maxRecDepth 100000
set_option maxHeartbeats 4000000
/-! The law's def as the outside calls it (around it nothing runs): there no repr is under way. -/
namespace Bw
open PySem PySem.Spec PyProof.Rows L2 Bo
/-- what a def does when the outside calls it -/
def RunA (P : Program) (w : World) (K : PySem.W.Frag) (mg : Str → Option Value) (f : Addr) (fd : FuncData) (ps : List Str) (sp : Sp) (base : Heap) : Prop :=
  ∀ (s : Shared) (H : Hp) (args : Args) (us : List Value) (vs : List V) (Q : VK) (E : XK), Env0 P w K mg base callerA [] s H → BindsTo s fd args (ps.zip us) → Vals vs us → sp vs H Q E → codeAny (model P w) callerA (.call (.ref f) args) (CR CX0 [] P w H s Q E) s
theorem runA_of {P : Program} {w : World} {K : PySem.W.Frag} {mg : Str → Option Value} {base : Heap} {x qual : Str} {st : Stmt} {f : Addr} {fd : FuncData} {N ps : List Str} {k : Nat} {sp : Sp} (F : Fun K x qual st f fd) (S : FnScope N ps (defScope st)) (hr : Room (k + 1) callerA)
    (len : ∀ vs H Q E, sp vs H Q E → vs.length = ps.length)
    (hbody : ∀ (cdv : Value) (s : Shared) (H : Hp) (vs : List V) (Q : VK) (E : XK), Room k (callerA.deeper (envOfC qual (defScope st) s.heap.objs.size f cdv)) → sp vs H Q E →
      ∃ t, PSs (cxOf CX0 P w K mg base N qual (defScope st) f cdv callerA [] s H E).nox (defBody st) t ∧ t { nx := fun _ H' => Q .non H', rt := Q } (start N vs) H) : RunA P w K mg f fd ps sp base := by
  obtain ⟨oc, od, kV, doc, pm, an, cdv, ct, osl, rfl, lk, hcd⟩ := F.ex
  intro s H args us vs Q E e0 hb r hsp
  have hl := len _ _ _ _ hsp
  have KX : K.In s.heap := e0.mod.kin.keeps fun b o e => (e0.bs b o e).1
  have lim : s.heap.NoLimit := e0.mod.nolimit.keeps fun b o e => (e0.bs b o e).1
  refine codeAny_call_function hr.depth (KX _ _ lk) rfl S.co S.gen rfl (PySem.W.codeRec_of KX hcd) (hb _ _ _ _ ?_)
  refine wpAny_newFunctionEnv_cells S.kind (fun ⟨n, v⟩ hy => ?_) fun env he s1 x => ?_
  · rcases S.par n (List.of_mem_zip hy).1 with q | q
    · exact .inl q
    · exact .inr ⟨q, PySem.W.cellsFrom_some _ _ _ (.inl q)⟩
  subst he
  refine ⟨lim.keeps x.toInCall.keep, codeAny_func ?_⟩
  obtain ⟨t, ht, hq⟩ := hbody cdv s H vs Q E (hr.deeper _) hsp
  have I : Inv (cxOf CX0 P w K mg base N qual (defScope st) f cdv callerA [] s H E) [] (start N vs) H s1 := inv_start S hr.hd e0 hl r x
  refine wpAny_mono ((PSs.nox ht).run [] s1 (start N vs) H _ I hq) (fun fl s' hs => ?_) fun e s' hs => hs
  cases fl with
  | ret u =>
    obtain ⟨v, σ', H', J, rv, q⟩ := hs
    exact ⟨v, H', J.os, J.bare, J.base, J.hok, rv, q⟩
  | next =>
    obtain ⟨σ', H', J, q⟩ := hs
    exact ⟨V.non, H', J.os, J.bare, J.base, J.hok, rfl, q⟩
  | brk => exact hs.elim fun _ h => h.elim fun _ h => h.2.elim
  | cont => exact hs.elim fun _ h => h.elim fun _ h => h.2.elim
end Bw
set_option Elab.async false
set_option linter.all false
set_option maxRecDepth 100000
set_option maxHeartbeats 4000000
/-! From the law's run to the goal that the head leaves. -/
namespace Bw
open PySem PySem.Spec PyProof.Rows L2 Bo
section
variable {P : Program} {w : World} {K : PySem.W.Frag} {mg mb : Str → Option Value} {fa a : Addr} {fd : FuncData} {x : Str} {sp : Sp} {s₁ : Shared} {vs : List Value} {ns : List Int} {H : Hp}
/-- one heap that tracks the script at most -/
theorem law_core (KX : K.In s₁.heap) (hns : s₁.heap.Ns mainGlobals mg) (hb : s₁.heap.Ns builtinsNs mb) (hbb : ∀ x : Str, x ≠ "__name__" → mb x = bootBuiltins x) (hlim : s₁.heap.NoLimit) (hg : s₁.gens = #[])
    (ha : s₁.heap.get? a = some { cls := .type "list", data := .seq vs.toArray })
    (F : ∀ base : Heap, K.In base → base.Ns mainGlobals mg → RunA P w K mg fa fd [x] sp base) (hbind : ∀ (s : Shared) (u : Value), BindsTo s fd ⟨[u], []⟩ [(x, u)])
    (hO : Only H) (hok : HOk P w H s₁.heap) (hA : ∀ b, H b ≠ none → b = a) (hK : H a ≠ none → K.lookup a = none) (hsp : sp [.ref a] H (fun v _ => v = .bl true) fun _ _ _ => False) :
    codeAny (model P w) callerA (.call (.ref fa) ⟨[.ref a], []⟩) (fun r s' => r = .ok (.ret (.bool true)) ∧ OldK s₁.heap s'.heap ∧ s'.os = s₁.os ∧ AllBare s'.gens) s₁ := by
  have here : ∀ {b : Addr} {o : Obj}, s₁.heap.get? b = some o → H b = none → (hidT s₁.heap H).get? b = some o := fun e n => hidT_get e n
  have untr : ∀ {b : Addr} {m : Str → Option Value}, s₁.heap.Ns b m → (hidT s₁.heap H).Ns b m := fun {b m} ⟨o, es, ep, e, d, r⟩ => by
    refine ⟨o, es, ep, here e ?_, d, r⟩
    cases q : H b with
    | none => rfl
    | some u =>
      obtain rfl := hA b (by rw [q]; simp)
      rw [ha] at e; cases e
      cases d
  have hKb : K.In (hidT s₁.heap H) := fun b o e => here (KX b o e) (by
    cases q : H b with
    | none => rfl
    | some u =>
      obtain rfl := hA b (by rw [q]; simp)
      rw [hK (by rw [q]; simp)] at e; cases e)
  obtain ⟨mc, l1, l2⟩ := hlim
  have e0 : Env0 P w K mg (hidT s₁.heap H) callerA [] s₁ H :=
    ⟨rfl, ⟨hKb, untr hns, ⟨mb, untr hb, hbb⟩, ⟨mc, untr l1, l2⟩⟩, fun b o e => of_hidT e, Nat.le_of_eq (hidT_size _ _), trivial, fun b hb => absurd (show b ∈ ([] : List Addr) from hb) (by simp), hok, .of_eq hg⟩
  refine codeAny_mono (F _ hKb (untr hns) s₁ H ⟨[.ref a], []⟩ [.ref a] [.ref a] _ _ e0 (hbind s₁ (.ref a)) (.cons rfl .nil) hsp) fun r s' h => ?_
  match r, h with
  | .ok (.ret u), h =>
    obtain ⟨v, H', os, bare, un, hok', r', q⟩ := h
    have q' : v = .bl true := q
    subst q'
    obtain rfl : u = Value.bool true := r'
    refine ⟨rfl, OldK.of_keep fun b o e => ?_, os, bare⟩
    rcases hO b with q | ⟨ob, xs, z⟩
    · exact un.keep b o e q (fun z => absurd (show b ∈ ([] : List Addr) from z) (by simp)) (by simp)
    · obtain ⟨e1, _⟩ := hok b _ z
      obtain ⟨e2, _⟩ := hok' b _ (un.frzs b ob _ z)
      rw [e] at e1; cases e1
      exact e2
  | .ok .next, h => exact False.elim h
  | .ok .brk, h => exact False.elim h
  | .ok .cont, h => exact False.elim h
  | .error e, h => exact False.elim h
theorem law_callA (KX : K.In s₁.heap) (hns : s₁.heap.Ns mainGlobals mg) (hb : s₁.heap.Ns builtinsNs mb) (hbb : ∀ x : Str, x ≠ "__name__" → mb x = bootBuiltins x) (hlim : s₁.heap.NoLimit) (hg : s₁.gens = #[])
    (ha : s₁.heap.get? a = some { cls := .type "list", data := .seq vs.toArray }) (hi : IntsAre vs ns) (hl : ns.length ≤ sizeLine)
    (F : ∀ base : Heap, K.In base → base.Ns mainGlobals mg → RunA P w K mg fa fd [x] sp base) (hbind : ∀ (s : Shared) (u : Value), BindsTo s fd ⟨[u], []⟩ [(x, u)])
    (hsp : ∀ H : Hp, Only H → SqL K H a (ns.map V.int) → sp [.ref a] H (fun v _ => v = .bl true) fun _ _ _ => False) :
    codeAny (model P w) callerA (.call (.ref fa) ⟨[.ref a], []⟩) (fun r s' => r = .ok (.ret (.bool true)) ∧ OldK s₁.heap s'.heap ∧ s'.os = s₁.os ∧ AllBare s'.gens) s₁ := by
  have rv := vals_ints hi
  have lenV := hi.length
  cases hk : K.lookup a with
  | some o =>
    have e := KX a o hk
    rw [ha] at e
    cases e
    have hO : Only hp0 := fun _ => .inl rfl
    exact law_core KX hns hb hbb hlim hg ha F hbind hO (fun _ _ z => nomatch z) (fun _ z => absurd rfl z) (fun z => absurd rfl z) (hsp hp0 hO (.inr ⟨_, vs.toArray, _, hk, rfl, rfl, rfl, by rw [List.size_toArray, lenV]; exact hl, by simpa using rv⟩))
  | none =>
    have hO : Only (upd hp0 a (.frz { cls := .type "list", data := .seq vs.toArray } (.lst (ns.map V.int)))) := fun b => by
      by_cases h : b = a
      · subst h; exact .inr ⟨_, _, upd_same⟩
      · exact .inl (upd_ne h)
    refine law_core KX hns hb hbb hlim hg ha F hbind hO (fun b u z => ?_) (fun b z => ?_) (fun _ => hk) (hsp _ hO (.inl (.inr ⟨_, upd_same⟩)))
    · by_cases h : b = a
      · subst h
        rw [upd_same] at z; cases z
        exact ⟨ha, by rw [List.length_map]; exact hl, vs, _, rv, ha⟩
      · rw [upd_ne h] at z; cases z
    · by_cases h : b = a
      · exact h
      · exact absurd (upd_ne h) z
end
theorem walk_ofA {l : PySem.W.OpenLaw} {n : Nat} {q : Program} {loose : List Str} {XP : (Str → Option Value) → Heap → Prop} {YP : World → Heap → Prop} {d : DefRec} {K : Params → PySem.W.Frag} {sp : PySem.W.Frag → Sp} {x : Str}
    (hn : l.most = some n) (hn2 : n ≤ sizeLine) (hdf : d.params.defaults = [])
    (hY : ∀ (w : World) (h : Heap), YP w h → (K w.params).In h)
    (F : ∀ (w : World) (mg : Str → Option Value) (fa : Addr) (h : Heap), (K w.params).In h → h.Ns mainGlobals mg → mg d.name = some (.ref fa) →
      ∃ fd : FuncData, (∀ (s : Shared) (u : Value), BindsTo s fd ⟨[u], []⟩ [(x, u)]) ∧ ∀ base : Heap, (K w.params).In base → base.Ns mainGlobals mg → RunA l.prog w (K w.params) mg fa fd [x] (sp (K w.params)) base)
    (hsp : ∀ (K : PySem.W.Frag) (H : Hp) (a : Addr) (ns : List Int), ns.length ≤ n → Only H → SqL K H a (ns.map V.int) → sp K [.ref a] H (fun v _ => v = .bl true) fun _ _ _ => False) :
    PySem.W.WalkO q loose XP YP l.row.toRowW d [] (fun f vs => PySem.call f vs) := by
  refine Att.attach_call hn hdf fun w s₀ s₁ mg mb fa o pm cd doc a vs ns G Y ho hd hcd hmg hobj hints hlen hg => ?_
  have KX := hY w _ Y
  obtain ⟨fd, hb, hF⟩ := F w mg fa _ KX G.T.g hmg
  exact law_callA KX G.T.g G.T.b G.T.builtins G.T.nolimit hg hobj hints (Nat.le_trans hlen hn2) hF hb fun H hO hS => hsp _ H a ns hlen hO hS
end Bw
set_option Elab.async false
set_option linter.all false
set_option maxRecDepth 100000
set_option maxHeartbeats 4000000
namespace Bw
open PySem PySem.Spec PyProof.Rows L2 Bo
section
variable {K : PySem.W.Frag} {σ : L2.St} {G H : Hp} {ta tb tc te : TE}
theorem ed_chainLt {i j k : Int} (ha : ED K ta σ G H (.int i)) (hb : ED K tb σ G H (.int j)) (hc : ED K tc σ G H (.int k)) :
    ED K (tChain (rI0 fun i j => .bl (decide (i < j))) (rI0 fun i j => .bl (decide (i < j))) ta tb tc) σ G H (.bool (decide (i < j) && decide (j < k))) := fun G0 H0 g0 Q q =>
  ha G0 H0 g0 _ fun x G1 H1 g1 hx => hb G1 H1 (g0.trans g1) _ fun y G2 H2 g2 hy => by
    cases hx; cases hy
    refine ⟨i, j, rfl, rfl, _, rfl, ?_⟩
    have g := g1.trans g2
    by_cases c : i < j
    · rw [decide_eq_true c, if_pos rfl]
      refine hc G2 H2 (g0.trans g) _ fun z G3 H3 g3 hz => ?_
      cases hz
      refine ⟨j, k, rfl, rfl, q _ G3 H3 (g.trans g3) ?_⟩
      rw [decide_eq_true c, Bool.true_and]
      exact .bl _
    · rw [decide_eq_false c, if_neg Bool.false_ne_true]
      refine q _ G2 H2 g ?_
      rw [decide_eq_false c, Bool.false_and]
      exact .bl _
theorem ra_repr {d : PyData} (h0 : ∃ ds, d = .list ds) (h1 : d.showable = true) (h2 : d.hasDict = false) (h3 : d.shown.length ≤ sizeLine) (h5 : d.depth ≤ 60) : RA K (rRepr K) [d] (.str d.shown) := fun xs G H s hx Q q => by
  obtain ⟨v, rfl, hv⟩ := dpa1 hx
  obtain ⟨ds, rfl⟩ := h0
  cases hv with
  | @lst a ys _ hs ha => exact ⟨a, _, rfl, .lst (s.seq hs) (dpa_mono s _ _ ha), h1, h2, h3, h5, q _ G H (Gr.refl s) (.str _)⟩
end
section
variable {K : PySem.W.Frag} {σ : L2.St} {G H : Hp} {te : TE} {t u : TT} {d : PyData}
theorem et_andK (h1 : KT t σ G H) (h2 : ET u σ G H false) : ET (tAnd t u) σ G H false := fun G0 H0 g0 Q q => h1 G0 H0 g0 _ fun b G1 H1 g => by
  cases b with
  | true => exact h2 G1 H1 (g0.trans g) _ fun G2 H2 g2 => q G2 H2 (g.trans g2)
  | false => exact q G1 H1 g
theorem ek_draw {i m : Nat} {p : Addr} {E : XK} (hv : σ[i]? = some (some (.ref p))) (hd : Deck H p) (h : ED K te σ G H (natD m)) (hm : 1 ≤ m ∧ m < 1073741824) : EK K (tCall (sp_law_draw K) [] E (tCons (tVar i) (tCons te tNil))) σ G H fun d => ∃ r, r < m ∧ d = natD r := ek_call m hv hd (ea_cons h ea_nil) hm
theorem ed_bundled {i : Nat} {p : Addr} {E : XK} (hv : σ[i]? = some (some (.ref p))) (hd : Deck H p) : ED K (tCall (sp_law_is_bundled K) [] E (tCons (tVar i) tNil)) σ G H (.bool true) := fun G1 H1 g Q q => (ek_call (K := K) () hv hd ea_nil trivial) G1 H1 g Q fun e v G' H' he g' hv => q v G' H' g' (he ▸ hv)
theorem ed_ek (h : EK K te σ G H (· = d)) : ED K te σ G H d := fun G1 H1 g Q q => h G1 H1 g Q fun e v G' H' he g' hv => q v G' H' g' (he ▸ hv)
end
section
variable {K : PySem.W.Frag} {σ : L2.St} {G H : Hp} {i : Nat} {v : V} {l : List Nat}
theorem et_eqNil (hv : σ[i]? = some (some v)) (hd : Dp K G v (natsL l)) : ET (tTest (tOp (rEqD K) (tVar i) (tLst tNil))) σ G H (decide (l = [])) :=
  et_test (K := K) (ed_is (ed_op (ed_var hv hd) (ed_lst ea_nil (by simp)) (rd_eqD (nats_shaped l) (nats_shaped []))) (by cases l <;> rfl))
theorem et_neNilN (hv : σ[i]? = some (some v)) (hd : Dp K G v (natsL l)) : ET (tTest (tOp (rNeD K) (tVar i) (tLst tNil))) σ G H (decide (l ≠ [])) :=
  et_test (K := K) (ed_is (ed_op (ed_var hv hd) (ed_lst ea_nil (by simp)) (rd_neD (nats_shaped l) (nats_shaped []))) (by cases l <;> rfl))
end
theorem rising_len {m : Nat} : ∀ (l : List Nat) (lo : Nat), lo ≤ m → l.Pairwise (· < ·) → (∀ t ∈ l, lo ≤ t ∧ t < m) → lo + l.length ≤ m
  | [], lo, h, _, _ => h
  | a :: r, lo, h, hp, hb => by
    obtain ⟨h1, h2⟩ := List.pairwise_cons.mp hp
    have h3 := hb a (List.mem_cons_self ..)
    have := rising_len r (a + 1) (by omega) h2 fun t ht => ⟨h1 t ht, (hb t (List.mem_cons_of_mem _ ht)).2⟩
    rw [List.length_cons]
    omega
theorem told0_shaped : SeqAt.shaped (.list [.str "told", .tuple []]) = true := by
  unfold SeqAt.shaped
  simp [PyData.canLay0, PyData.canLayAll0, PyData.depth, PyData.depthAll]
  decide +kernel
theorem told0_eqv : PyData.eqv (.list [.str "told", intsT []]) (.list [.str "told", .tuple []]) = true := by
  simp [PyData.eqv, PyData.eqvAll, intsT]
/-- what repr asks of what is told -/
structure ShowOk (d : PyData) : Prop where
  l : ∃ ds, d = .list ds
  h1 : d.showable = true
  h2 : d.hasDict = false
  h3 : d.shown.length ≤ sizeLine
  h5 : d.depth ≤ 60
theorem shown_bd {x : Int} (h : Bd x) : (PyData.shown (.int x)).length ≤ 14 := by
  unfold Bd at h
  by_cases h1 : x.natAbs < 10 ^ 12
  · have := PyData.shown_int_le h1
    omega
  · have : x = 1000000000000 ∨ x = -1000000000000 := by omega
    rcases this with rfl | rfl <;> decide +kernel
theorem told_show (s : Str) (ns : List Int) (hs : (PyData.shown (.str s)).length ≤ 10) (hl : ns.length ≤ 60) (hb : ∀ x ∈ ns, Bd x) : ShowOk (.list [.str s, intsT ns]) := by
  have h1 : PyData.showableAll (ns.map PyData.int) = true := by
    clear hl
    induction ns with
    | nil => rfl
    | cons x r ih =>
      have hx := hb x (List.mem_cons_self ..)
      have hl : x.natAbs.log2 < 1920 := Nat.lt_of_lt_of_le (PySem.Flt.log2_lt_of (k := 60) (by decide) (by unfold Bd at hx; omega)) (by decide)
      simp [PyData.showableAll, PyData.showable, hl, ih fun y hy => hb y (List.mem_cons_of_mem _ hy)]
  have h2 : PyData.hasDictAll (ns.map PyData.int) = false := by
    clear hl h1 hb
    induction ns with
    | nil => rfl
    | cons x r ih => simp [PyData.hasDictAll, PyData.hasDict, ih]
  have h3 : ((PyData.shownAll (ns.map PyData.int)).map (·.length)).sum ≤ 14 * ns.length ∧ (PyData.shownAll (ns.map PyData.int)).length = ns.length := by
    clear hl h1 h2
    induction ns with
    | nil => simp [PyData.shownAll]
    | cons x r ih =>
      have := ih fun y hy => hb y (List.mem_cons_of_mem _ hy)
      have hx := shown_bd (hb x (List.mem_cons_self ..))
      simp only [List.map_cons, PyData.shownAll, List.sum_cons, List.length_cons]
      omega
  have h4 : PyData.depthAll (ns.map PyData.int) ≤ 1 := by
    clear hl h1 hb h2 h3
    induction ns with
    | nil => simp [PyData.depthAll]
    | cons x r ih => simp [PyData.depthAll, PyData.depth] at ih ⊢; omega
  refine ⟨⟨_, rfl⟩, ?_, ?_, ?_, ?_⟩
  · simp [PyData.showable, PyData.showableAll, intsT, h1]
  · simp [PyData.hasDict, PyData.hasDictAll, intsT, h2]
  · have t2 := tupleText_len_le (PyData.shownAll (ns.map PyData.int))
    have t1 := listText_len_le [PyData.shown (.str s), PyData.shown (intsT ns)]
    have e1 : PyData.shown (.list [.str s, intsT ns]) = listText [PyData.shown (.str s), PyData.shown (intsT ns)] := by simp [PyData.shown, PyData.shownAll]
    have e2 : PyData.shown (intsT ns) = tupleText (PyData.shownAll (ns.map PyData.int)) := by simp [intsT, PyData.shown]
    rw [e1, e2]
    have e3 : sizeLine = 16777216 := by decide
    simp only [List.map_cons, List.map_nil, List.sum_cons, List.sum_nil, List.length_cons, List.length_nil] at t1
    rw [e2] at t1
    omega
  · simp [PyData.depth, PyData.depthAll, intsT]
    omega
section
variable {P : Program} {w : World} {K : PySem.W.Frag} {mg : Str → Option Value} {base : Heap}
-- slots of law: 0 _law_script, 1 _law_deck_here, 2 _law_turn, 3 _law_web_here, 4 _law_thin, 5 _law_cut, 6 _law_one, 7 _law_other, 8 _law_told_here
abbrev s_law : Stmt := top 58
abbrev N_law : List Str := ["_law_script", "_law_deck_here", "_law_turn", "_law_web_here", "_law_thin", "_law_cut", "_law_one", "_law_other", "_law_told_here"]
theorem sc_law : FnScope N_law ["_law_script"] (defScope s_law) := ⟨rfl, rfl, rfl, by decide +kernel, rfl, by decide +kernel, by decide +kernel⟩
def sp_law (K : PySem.W.Frag) : Sp := fun vs H Q _ => ∃ (ns : List Int) (a : Addr), vs = [.ref a] ∧ ns.length ≤ 63 ∧ SqL K H a (ns.map V.int) ∧ ∀ H', Q (.bl true) H'
theorem r_law {f : Addr} {fd : FuncData} (T : Txt mg) (L : LawMath) (hr0 : Room 11 callerA) (F : Fd K mg "law" s_law f fd) (C_law_deck : Cal P w K mg base CX0 "_law_deck" 1 ["_law_script"] (sp_law_deck K)) (C_law_draw : Cal P w K mg base CX0 "_law_draw" 1 ["_law_deck_here", "_law_many"] (sp_law_draw K)) (C_law_is_bundled : Cal P w K mg base CX0 "_law_is_bundled" 9 ["_law_deck_here"] (sp_law_is_bundled K)) (C_law_thick : Cal P w K mg base CX0 "_law_thick" 4 ["_law_deck_here"] (sp_law_thick K))
    (C_law_bits : Cal P w K mg base CX0 "_law_bits" 1 ["_law_mask_here"] (sp_law_bits K)) (C_law_cuts : Cal P w K mg base CX0 "_law_cuts" 2 ["_law_web_here"] (sp_law_cuts K)) (C_law_pair : Cal P w K mg base CX0 "_law_pair" 3 ["_law_deck_here", "_law_many"] (sp_law_pair K)) (C_law_told : Cal P w K mg base CX0 "_law_told" 8 ["_law_web_here", "_law_one", "_law_other", "_law_is_named"] (sp_law_told K))
    (C_law_is_right : Cal P w K mg base CX0 "_law_is_right" 6 ["_law_web_here", "_law_one", "_law_other", "_law_told_here"] (sp_law_is_right K)) (C_law_is_lot : Cal P w K mg base CX0 "_law_is_lot" 2 ["_law_thing", "_law_many"] (sp_law_is_lot K)) (C_law_mask : Cal P w K mg base CX0 "_law_mask" 1 ["_law_lot_here"] (sp_law_mask K)) : RunA P w K mg f fd ["_law_script"] (sp_law K) base := by
  refine runA_of F.fn sc_law hr0 (fun vs H Q E h => ?_) (fun cdv s H vs Q E hr h => ?_)
  · obtain ⟨ns, a, rfl, _⟩ := h
    rfl
  obtain ⟨ns, a, rfl, hl, hq, q⟩ := h
  have hgd : (callerA.deeper (envOfC "law" (defScope s_law) s.heap.objs.size f cdv)).guards = some [] := rfl
  have nd := sc_law.nd
  have hu := hr.units
  have hu1 := hu_of hr
  refine ⟨_, (pss_cons (ps_set (i := 1) nd rfl (Or.inl rfl) (pe_cal C_law_deck (hr.mono (by decide)) rfl (pa_cons (pv 0) pa_nil)))
     (pss_cons (ps_if (PW.pt (pw_and (pt_cmpR op_eq (pe_cal C_law_draw (hr.mono (by decide)) rfl (pa_cons (pv 1) (pa_cons pe_int pa_nil))) pe_int (nomark _)) (pw_and1 (pt_not (pt_val (pe_cal C_law_is_bundled (hr.mono (by decide)) rfl (pa_cons (pv 1) pa_nil)))))))
     (pss_one (ps_ret pe_bl))
     pss_nil)
     (pss_cons (ps_for PassesOwn.never rfl (pi_range1 rfl T.range (pa_cons pe_int pa_nil)) (pg_name (i := 2) nd rfl (Or.inl rfl))
     (pss_cons (ps_set (i := 3) nd rfl (Or.inl rfl) (pe_cal C_law_thick (hr.mono (by decide)) rfl (pa_cons (pv 1) pa_nil)))
     (pss_cons (ps_setLc (i := 4) (own := [("_law_cut", 5)]) (g := gName 5) (tt := tTest (tChain (rI0 fun i j => .bl (decide (i < j))) (rI0 fun i j => .bl (decide (i < j))) (tC (.int 0)) (tCall (sp_law_bits K) [] E0 (tCons (tVar 5) (tNil))) (tC (.int 3)))) (te := tVar 5) rfl nd rfl rfl (sw_true rfl rfl rfl (by decide +kernel)) (pi_list (pe_cal C_law_cuts (hr.mono (by decide)) rfl (pa_cons (pv 3) pa_nil))) (blkOk_by (N := N_law) (sc := defScope s_law) (by decide +kernel)) (fun _ _ _ _ _ => (pg_name (i := 5) nd rfl (Or.inl rfl))) (fun _ _ _ _ _ => (pts_one (pt_chain op_lt op_lt pe_int (pe_cal C_law_bits (hr.mono (by decide)) rfl (pa_cons (pv 5) pa_nil)) pe_int))) (fun _ _ _ _ _ => (pv 5)))
     (pss_cons (ps_asg (pe_cal C_law_pair (hr.mono (by decide)) rfl (pa_cons (pv 1) (pa_cons (pe_callB call_len_seq rfl T.len (by decide +kernel) (pa_cons (pe_ix ix_tup (pv 3) pe_int (fun _ _ => rfl)) pa_nil)) pa_nil))) (pg_tup rfl (pgs_cons (pg_name (i := 6) nd rfl (Or.inl rfl)) (pgs_cons (pg_name (i := 7) nd rfl (Or.inl rfl)) pgs_nil))))
     (pss_cons (ps_set (i := 8) nd rfl (Or.inl rfl) (pe_cal C_law_told (hr.mono (by decide)) rfl (pa_cons (pv 3) (pa_cons (pv 6) (pa_cons (pv 7) (pa_cons (pe_cmpR op_eq (pv 2) pe_int (nomark _)) pa_nil))))))
     (pss_cons (ps_if (pt_cmpR op_ne (pe_callB (cr_repr hgd hu) rfl T.repr (by decide +kernel) (pa_cons (pe_cal C_law_told (hr.mono (by decide)) rfl (pa_cons (pv 3) (pa_cons (pv 6) (pa_cons (pv 7) (pa_cons (pe_cmpR op_ne (pv 2) pe_int (nomark _)) pa_nil))))) pa_nil)) (pe_callB (cr_repr hgd hu) rfl T.repr (by decide +kernel) (pa_cons (pv 8) pa_nil)) (nomark _))
     (pss_one (ps_ret pe_bl))
     pss_nil)
     (pss_cons (ps_if (PW.pt (pw_and (pt_cmpR (op_eqD hu) (pv 4) (pe_lst pa_nil) (nomark _)) (pw_and1 (pt_not (pt_val (pe_cal C_law_is_right (hr.mono (by decide)) rfl (pa_cons (pv 3) (pa_cons (pv 6) (pa_cons (pv 7) (pa_cons (pv 8) pa_nil))))))))))
     (pss_one (ps_ret pe_bl))
     pss_nil)
     (pss_cons (ps_if (PW.pt (pw_and (pt_cmpR (op_neD hu) (pv 4) (pe_lst pa_nil) (nomark _)) (pw_and1 (PW.pt (pw_or (pt_cmpR op_ne (pe_ix ix_list (pv 8) pe_int (fun _ _ => rfl)) pe_str (nomark _)) (pw_or1 (pt_not (pt_val (pe_cal C_law_is_lot (hr.mono (by decide)) rfl (pa_cons (pe_ix ix_list (pv 8) pe_int (fun _ _ => rfl)) (pa_cons (pe_callB call_len_seq rfl T.len (by decide +kernel) (pa_cons (pe_ix ix_tup (pv 3) pe_int (fun _ _ => rfl)) pa_nil)) pa_nil)))))))))))
     (pss_one (ps_ret pe_bl))
     pss_nil)
     (pss_one (ps_if (PW.pt (pw_and (pt_cmpR (op_neD hu) (pv 4) (pe_lst pa_nil) (nomark _)) (pw_and1 (pt_cmpR op_notIn_seq (pe_cal C_law_mask (hr.mono (by decide)) rfl (pa_cons (pe_ix ix_list (pv 8) pe_int (fun _ _ => rfl)) pa_nil)) (pv 4) (by rfl)))))
     (pss_one (ps_ret pe_bl))
     pss_nil))))))))))
     (pss_one (ps_ret (pe_cmpR (op_eqD hu) (pe_cal C_law_told (hr.mono (by decide)) rfl (pa_cons (pe_tup (pa_cons pe_int (pa_cons (pe_tup pa_nil) pa_nil))) (pa_cons (pe_tup pa_nil) (pa_cons (pe_tup pa_nil) (pa_cons pe_bl pa_nil))))) (pe_lst (pa_cons pe_str (pa_cons (pe_tup pa_nil) pa_nil))) (nomark _))))))), ?_⟩
  have hs0 : Dp K H (.ref a) (.list (ns.map PyData.int)) := .lst hq (DpAll.ofInts ns)
  refine ⟨_, rfl, ns, H, Same.refl _, .cons hs0 .nil, hl, fun p G1 H1 hdk g1 => ?_⟩
  refine q_if1 (b := false) g1.s (et_andK (kt_test (K := K) (ek_op (S1 := fun d => ∃ k, k < 2 ∧ d = natD k) (S2 := (· = natD 0)) (ek_draw rfl hdk (ed_int (i := 2)) (by decide)) (ek_ed ed_int rfl) ?_)) (et_not (et_B (K := K) (b := true) (ed_bundled rfl hdk)))) (fun z => by cases z) fun _ G2 H2 g2 => ?_
  · rintro _ _ ⟨k, hk, rfl⟩ rfl
    exact ⟨_, ⟨_, rfl⟩, rd_eqN⟩
  refine q_forT (K := K) (Gi := G1) (Hi := H1) (List.range 3) natD (es_rngN ed_int (by decide)) g2 (fun pre σ' G' H' => ∃ (o2 o3 o4 o5 o6 o7 o8 : Option V), σ' = [some (.ref a), some (.ref p), o2, o3, o4, o5, o6, o7, o8]) (fun G' H' g' => ⟨_, _, _, _, _, _, _, rfl⟩) ?_ ?_
  · rintro pre i post x σ' G3 H3 G4 H4 hsp g3 s3 ⟨o2, o3, o4, o5, o6, o7, o8, rfl⟩ g4 hx
    cases hx
    have hi : i < 3 := List.mem_range.mp (by rw [hsp]; simp)
    have hdk4 := hdk.same (g3.trans g4).h
    refine g_nm ?_
    refine q_setK (K := K) (S := WebS) g4.s (ek_call () rfl hdk4 ea_nil trivial) fun d v3 G5 H5 hS g5 h3 => ?_
    obtain ⟨n, W, rfl, ok8, hn2⟩ := hS
    have ok := ok8.ok
    have h8 := ok8.t8
    have hcl := lCuts_len n W
    have hn4 := ok8.n4
    have hp2 : 2 ^ (n - 1) ≤ 8 := by
      have : n - 1 ≤ 3 := by omega
      exact Nat.pow_le_pow_right (by decide) this
    refine q_set (K := K) (d := natsL (thinL n W)) g5.s (ed_is (ed_lc (lCuts n W) natD (fun c => decide ((0 : Int) < (lBits c : Nat)) && decide (((lBits c : Nat) : Int) < 3)) natD (es_list (ed_call (n, W) (ea_cons (ed_var rfl h3) ea_nil) ok)) (by omega) fun c hc x G' H' g' hx => ?_) rfl) fun v4 G6 H6 g6 h4 => ?_
    · cases hx
      have hc2 := lCuts_lt c hc
      have h256 : 2 ^ W.length ≤ 256 := Nat.pow_le_pow_right (by decide) h8
      exact ⟨_, fun Q q => q, rfl, et_test (K := K) (ed_chainLt ed_int (ed_call c (ea_cons (ed_var rfl (.int _)) ea_nil) (by show c < 256; omega)) ed_int), fun _ => ed_var rfl (.int _)⟩
    have g46 := g4.trans (g5.trans g6)
    have hlen : ∀ {σ : L2.St} {G' H' : Hp}, σ[3]? = some (some v3) → Same G5 G' → ED K (tCB (rLenS K) (tCons (tOp (rIxT K) (tVar 3) (tC (.int 1))) tNil)) σ G' H' (natD W.length) := fun h s => ed_is (ed_cb (ea_cons (ed_op (ed_var h (dp_mono s _ _ h3)) ed_int (rd_ixT (j := 1) rfl rfl)) ea_nil) ra_lenT) (by rw [List.length_map])
    refine q_asgK (K := K) (S := PairS W.length) g6.s (ek_call W.length rfl (hdk.same (g3.trans g46).h) (ea_cons (hlen rfl g6.g) ea_nil) (by show W.length ≤ 1000; omega)) fun d v G7 H7 hS g7 hd => ?_
    obtain ⟨one, other, hone, hother, rfl⟩ := hS
    refine g_un2 g7.s hd fun v6 v7 h6 h7 => ?_
    have tP : (Ok n W ∧ TreeOk n W) ∧ one.length = W.length ∧ other.length = W.length := ⟨⟨ok, L.tree n W ok⟩, hone.1, hother.1⟩
    refine q_set (K := K) (d := toldD n W one other) g7.s (ed_call ((n, W), (one, other), decide ((i : Int) = 1)) (ea_cons (ed_var rfl (dp_mono (g6.trans g7).g _ _ h3)) (ea_cons (ed_var rfl h6) (ea_cons (ed_var rfl h7) (ea_cons (ed_op (ed_var rfl (.int _)) ed_int rd_eqI) ea_nil)))) (by exact tP)) fun v8 G8 H8 g8 h8' => ?_
    have sh : ShowOk (toldD n W one other) := by
      unfold toldD
      cases hc : thinCut n W with
      | none =>
        obtain ⟨_, hR⟩ := L.thick n W one other ok8 hn2 hone hother.1 hc
        exact told_show _ _ (by decide +kernel) (by have := hR.l3; omega) hR.bd
      | some l =>
        obtain ⟨hl1, hl2, _⟩ := L.thin n W l ok8 hn2 hc
        have := rising_len l 0 (Nat.zero_le _) hl1 fun t ht => ⟨Nat.zero_le _, hl2 t ht⟩
        have e : natsT l = intsT (l.map fun k : Nat => (k : Int)) := by rw [natsT, natD_ints]
        show ShowOk (.list [.str "Thin", natsT l])
        rw [e]
        refine told_show _ _ (by decide +kernel) (by rw [List.length_map]; omega) fun x hx => ?_
        obtain ⟨k, hk, rfl⟩ := List.mem_map.mp hx
        have := hl2 k hk
        unfold Bd
        omega
    have ra := ra_repr (K := K) sh.l sh.h1 sh.h2 sh.h3 sh.h5
    have g68 := (g6.trans g7).trans g8
    refine q_if1 (b := false) g8.s (et_test (K := K) (ed_is (ed_op (ed_cb (ea_cons (ed_call ((n, W), (one, other), !decide ((i : Int) = 1)) (ea_cons (ed_var rfl (dp_mono g68.g _ _ h3)) (ea_cons (ed_var rfl (dp_mono g8.g _ _ h6)) (ea_cons (ed_var rfl (dp_mono g8.g _ _ h7)) (ea_cons (ed_op (ed_var rfl (.int _)) ed_int rd_neI) ea_nil)))) (by exact tP)) ea_nil) ra) (ed_cb (ea_cons (ed_var rfl h8') ea_nil) ra) rd_neS) (by rw [decide_eq_true rfl]; rfl))) (fun z => by cases z) fun _ G9 H9 g9 => ?_
    have g49 := ((g46.trans g7).trans g8).trans g9
    have h8 := dp_mono g9.g _ _ h8'
    have h4 := dp_mono ((g7.trans g8).trans g9).g _ _ h4
    have h3' := dp_mono (g68.trans g9).g _ _ h3
    have h6 := dp_mono (g8.trans g9).g _ _ h6
    have h7 := dp_mono (g8.trans g9).g _ _ h7
    cases hc : thinCut n W with
    | none =>
      obtain ⟨e4, hR⟩ := L.thick n W one other ok8 hn2 hone hother.1 hc
      rw [toldD, hc] at h8
      rw [e4] at h4
      refine q_if1 (b := false) g9.s (et_is (et_and (et_eqNil (K := K) rfl h4) fun _ => et_not (et_B (K := K) (b := true) (ed_call ((n, W), one, other, mended n W one other) (ea_cons (ed_var rfl h3') (ea_cons (ed_var rfl h6) (ea_cons (ed_var rfl h7) (ea_cons (ed_var rfl h8) ea_nil)))) (by exact hR)))) rfl) (fun z => by cases z) fun _ G10 H10 g10 => ?_
      refine q_if1 (b := false) g10.s (et_is (et_and (b := false) (et_neNilN (K := K) rfl (dp_mono g10.g _ _ h4)) fun z => by simp at z) rfl) (fun z => by cases z) fun _ G11 H11 g11 => ?_
      have g1011 := g10.trans g11
      refine s_if (b := false) g11.s (et_is (et_and (b := false) (et_neNilN (K := K) rfl (dp_mono g1011.g _ _ h4)) fun z => by simp at z) rfl) (fun z => by cases z) fun _ G12 H12 g12 => ?_
      exact ⟨G12, g3.trans (g49.trans (g1011.trans g12)), (g49.trans (g1011.trans g12)).g, _, _, _, _, _, _, _, rfl⟩
    | some l =>
      obtain ⟨hl1, hl2, hl3⟩ := L.thin n W l ok8 hn2 hc
      have hne : thinL n W ≠ [] := fun z => by rw [z] at hl3; simp at hl3
      have hll : l.length ≤ 60 := by
        have := rising_len l 0 (Nat.zero_le _) hl1 fun t ht => ⟨Nat.zero_le _, hl2 t ht⟩
        omega
      rw [toldD, hc] at h8
      refine q_if1 (b := false) g9.s (et_is (et_and (b := false) (et_eqNil (K := K) rfl h4) fun z => absurd (of_decide_eq_true z) hne) (by rw [decide_eq_false hne]; rfl)) (fun z => by cases z) fun _ G10 H10 g10 => ?_
      have h8 := dp_mono g10.g _ _ h8
      have h4 := dp_mono g10.g _ _ h4
      refine q_if1 (b := false) g10.s (et_is (et_and (et_neNilN (K := K) rfl h4) fun _ => et_or (et_test (K := K) (ed_op (ed_op (ed_var rfl h8) ed_int (rd_ixL (j := 0) (z := .str "Thin") rfl rfl)) ed_str rd_neS)) fun _ => et_not (et_B (K := K) (b := true) (ed_call (l, W.length) (ea_cons (ed_op (ed_var rfl h8) ed_int (rd_ixL (j := 1) rfl rfl)) (ea_cons (hlen rfl ((g68.trans g9).trans g10).g) ea_nil)) (by exact ⟨hl1, hl2, hll⟩)))) (by rw [decide_eq_true rfl]; simp)) (fun z => by cases z) fun _ G11 H11 g11 => ?_
      have h8 := dp_mono g11.g _ _ h8
      have h4 := dp_mono g11.g _ _ h4
      refine s_if (b := false) g11.s (et_is (et_and (et_neNilN (K := K) rfl h4) fun _ => et_test (K := K) (ed_op (ed_mask (.inr (ea_cons (ed_op (ed_var rfl h8) ed_int (rd_ixL (j := 1) rfl rfl)) ea_nil)) ⟨by omega, fun t ht => by have := hl2 t ht; omega⟩) (ed_var rfl h4) (rd_inLN (neg := true)))) (by rw [decide_eq_true hl3]; simp)) (fun z => by cases z) fun _ G12 H12 g12 => ?_
      exact ⟨G12, g3.trans (g49.trans ((g10.trans g11).trans g12)), (g49.trans ((g10.trans g11).trans g12)).g, _, _, _, _, _, _, _, rfl⟩
  · rintro σ' G3 H3 g3 s3 ⟨o2, o3, o4, o5, o6, o7, o8, rfl⟩
    have ok1 : Ok 1 [] := ⟨fun e he => by simp at he, by decide, by decide, by decide⟩
    have e1 : toldD 1 [] [] [] = .list [.str "told", intsT []] := by unfold toldD; rw [L.one.1, L.one.2]
    refine s_ret (K := K) (d := .bool true) g3.s (ed_is (ed_op (ed_is (ed_call ((1, []), ([], []), false) (ea_cons (ed_tup (ea_cons ed_int (ea_cons (ed_tup ea_nil (by simp)) ea_nil)) (by simp)) (ea_cons (ed_tup ea_nil (by simp)) (ea_cons (ed_tup ea_nil (by simp)) (ea_cons ed_bl ea_nil)))) (by exact ⟨⟨ok1, L.tree 1 [] ok1⟩, rfl, rfl⟩)) e1) (ed_lst (ea_cons ed_str (ea_cons (ed_tup ea_nil (by simp)) ea_nil)) (by simp)) (rd_eqD told0_shaped told0_shaped)) (by rw [told0_eqv])) fun v G' H' g' hd => ?_
    cases hd
    exact q H'
end
end Bw
set_option Elab.async false
set_option linter.all false
set_option maxRecDepth 100000
set_option maxHeartbeats 4000000
/-! The defs one behind another; what the program's top must have left. -/
namespace Bw
open PySem PySem.Spec PyProof.Rows L2 Bo
/-- a def of the top stands under its name -/
def In1 (K : PySem.W.Frag) (mg : Str → Option Value) (x : Str) (st : Stmt) : Prop := ∃ (f : Addr) (fd : FuncData), Fd K mg x st f fd
theorem in1_mk {K : PySem.W.Frag} {h : Heap} {mg : Str → Option Value} {x : Str} {st : Stmt} {f : Addr} {oc : Value} {od an : Option Addr} {osl : Array (Option Value)} {kV doc pm cdv ct : Value} (X : K.In h) (G : h.Ns mainGlobals mg) (a : PySem.W.nsIn K mainGlobals x = some (some (.ref f)))
    (l : K.lookup f = some ⟨oc, od, .func (PySem.W.fnOf x x (defArgs st) (defBody st) (defScope st) .none kV doc pm an cdv ct), osl⟩) (c : PySem.W.codeIn K cdv x = true) (k : PySem.W.keepIn K (.ref f) = true) : In1 K mg x st :=
  ⟨f, _, fun_mk l c k, PySem.W.mg_of X G a⟩
section
variable {P : Program} {w : World} {K : PySem.W.Frag} {mg : Str → Option Value} {base : Heap} {BE TH fI : Addr} {fdI : FuncData}
theorem law_run (T : Txt mg) (Th : ThK K mg BE TH fI fdI)
    (F_law_deck : In1 K mg "_law_deck" s_law_deck)
    (F_law_draw : In1 K mg "_law_draw" s_law_draw)
    (F_first_tree : In1 K mg "first_tree" s_first_tree)
    (F_goal_of : In1 K mg "goal_of" s_goal_of)
    (F_way_in_tree : In1 K mg "way_in_tree" s_way_in_tree)
    (F_tree_rounds : In1 K mg "tree_rounds" s_tree_rounds)
    (F_thin_cut : In1 K mg "thin_cut" s_thin_cut)
    (F_need_thick : In1 K mg "need_thick" s_need_thick)
    (F_tie_bit : In1 K mg "tie_bit" s_tie_bit)
    (F_greatest : In1 K mg "greatest" s_greatest)
    (F_reduced_bits : In1 K mg "reduced_bits" s_reduced_bits)
    (F_ties_at : In1 K mg "ties_at" s_ties_at)
    (F_bits_of : In1 K mg "bits_of" s_bits_of)
    (F_lot_parities : In1 K mg "lot_parities" s_lot_parities)
    (F_parities_left : In1 K mg "parities_left" s_parities_left)
    (F_parity_rows : In1 K mg "parity_rows" s_parity_rows)
    (F_base_bits : In1 K mg "base_bits" s_base_bits)
    (F_few_bits : In1 K mg "few_bits" s_few_bits)
    (F_columns_of : In1 K mg "columns_of" s_columns_of)
    (F_rest_of : In1 K mg "rest_of" s_rest_of)
    (F_shortest_lots : In1 K mg "shortest_lots" s_shortest_lots)
    (F_mended : In1 K mg "mended" s_mended)
    (F_law_told : In1 K mg "_law_told" s_law_told)
    (F_law_pick : In1 K mg "_law_pick" s_law_pick)
    (F_law_pair : In1 K mg "_law_pair" s_law_pair)
    (F_law_is_whole : In1 K mg "_law_is_whole" s_law_is_whole)
    (F_law_is_standing : In1 K mg "_law_is_standing" s_law_is_standing)
    (F_law_mixed : In1 K mg "_law_mixed" s_law_mixed)
    (F_law_bundles : In1 K mg "_law_bundles" s_law_bundles)
    (F_law_odd_ones : In1 K mg "_law_odd_ones" s_law_odd_ones)
    (F_law_is_bundled : In1 K mg "_law_is_bundled" s_law_is_bundled)
    (F_law_web : In1 K mg "_law_web" s_law_web)
    (F_law_thick : In1 K mg "_law_thick" s_law_thick)
    (F_law_bits : In1 K mg "_law_bits" s_law_bits)
    (F_law_mask : In1 K mg "_law_mask" s_law_mask)
    (F_law_cuts : In1 K mg "_law_cuts" s_law_cuts)
    (F_law_lot : In1 K mg "_law_lot" s_law_lot)
    (F_law_stars : In1 K mg "_law_stars" s_law_stars)
    (F_law_evens : In1 K mg "_law_evens" s_law_evens)
    (F_law_rounds : In1 K mg "_law_rounds" s_law_rounds)
    (F_law_both : In1 K mg "_law_both" s_law_both)
    (F_law_span : In1 K mg "_law_span" s_law_span)
    (F_law_gaps : In1 K mg "_law_gaps" s_law_gaps)
    (F_law_is_right : In1 K mg "_law_is_right" s_law_is_right)
    (F_law_is_lot : In1 K mg "_law_is_lot" s_law_is_lot)
    {f : Addr} {fd : FuncData} (F_law : Fd K mg "law" s_law f fd) : RunA P w K mg f fd ["_law_script"] (sp_law K) base := by
  obtain ⟨_, _, F_law_deck⟩ := F_law_deck
  obtain ⟨_, _, F_law_draw⟩ := F_law_draw
  obtain ⟨_, _, F_first_tree⟩ := F_first_tree
  obtain ⟨_, _, F_goal_of⟩ := F_goal_of
  obtain ⟨_, _, F_way_in_tree⟩ := F_way_in_tree
  obtain ⟨_, _, F_tree_rounds⟩ := F_tree_rounds
  obtain ⟨_, _, F_thin_cut⟩ := F_thin_cut
  obtain ⟨_, _, F_need_thick⟩ := F_need_thick
  obtain ⟨_, _, F_tie_bit⟩ := F_tie_bit
  obtain ⟨_, _, F_greatest⟩ := F_greatest
  obtain ⟨_, _, F_reduced_bits⟩ := F_reduced_bits
  obtain ⟨_, _, F_ties_at⟩ := F_ties_at
  obtain ⟨_, _, F_bits_of⟩ := F_bits_of
  obtain ⟨_, _, F_lot_parities⟩ := F_lot_parities
  obtain ⟨_, _, F_parities_left⟩ := F_parities_left
  obtain ⟨_, _, F_parity_rows⟩ := F_parity_rows
  obtain ⟨_, _, F_base_bits⟩ := F_base_bits
  obtain ⟨_, _, F_few_bits⟩ := F_few_bits
  obtain ⟨_, _, F_columns_of⟩ := F_columns_of
  obtain ⟨_, _, F_rest_of⟩ := F_rest_of
  obtain ⟨_, _, F_shortest_lots⟩ := F_shortest_lots
  obtain ⟨_, _, F_mended⟩ := F_mended
  obtain ⟨_, _, F_law_told⟩ := F_law_told
  obtain ⟨_, _, F_law_pick⟩ := F_law_pick
  obtain ⟨_, _, F_law_pair⟩ := F_law_pair
  obtain ⟨_, _, F_law_is_whole⟩ := F_law_is_whole
  obtain ⟨_, _, F_law_is_standing⟩ := F_law_is_standing
  obtain ⟨_, _, F_law_mixed⟩ := F_law_mixed
  obtain ⟨_, _, F_law_bundles⟩ := F_law_bundles
  obtain ⟨_, _, F_law_odd_ones⟩ := F_law_odd_ones
  obtain ⟨_, _, F_law_is_bundled⟩ := F_law_is_bundled
  obtain ⟨_, _, F_law_web⟩ := F_law_web
  obtain ⟨_, _, F_law_thick⟩ := F_law_thick
  obtain ⟨_, _, F_law_bits⟩ := F_law_bits
  obtain ⟨_, _, F_law_mask⟩ := F_law_mask
  obtain ⟨_, _, F_law_cuts⟩ := F_law_cuts
  obtain ⟨_, _, F_law_lot⟩ := F_law_lot
  obtain ⟨_, _, F_law_stars⟩ := F_law_stars
  obtain ⟨_, _, F_law_evens⟩ := F_law_evens
  obtain ⟨_, _, F_law_rounds⟩ := F_law_rounds
  obtain ⟨_, _, F_law_both⟩ := F_law_both
  obtain ⟨_, _, F_law_span⟩ := F_law_span
  obtain ⟨_, _, F_law_gaps⟩ := F_law_gaps
  obtain ⟨_, _, F_law_is_right⟩ := F_law_is_right
  obtain ⟨_, _, F_law_is_lot⟩ := F_law_is_lot
  have C_law_deck := c_law_deck (P := P) (w := w) (base := base) T F_law_deck
  have C_law_draw := c_law_draw (P := P) (w := w) (base := base) T F_law_draw
  have C_first_tree := c_first_tree (P := P) (w := w) (base := base) T F_first_tree
  have C_goal_of := c_goal_of (P := P) (w := w) (base := base) T F_goal_of
  have C_way_in_tree := c_way_in_tree (P := P) (w := w) (base := base) T F_way_in_tree C_goal_of
  have C_tree_rounds := c_tree_rounds (P := P) (w := w) (base := base) T F_tree_rounds C_first_tree C_way_in_tree
  have C_thin_cut := c_thin_cut (P := P) (w := w) (base := base) T F_thin_cut C_tree_rounds
  have C_need_thick := c_need_thick (P := P) (w := w) (base := base) T Th F_need_thick C_thin_cut
  have C_tie_bit := c_tie_bit (P := P) (w := w) (base := base) T F_tie_bit
  have C_greatest := c_greatest (P := P) (w := w) (base := base) T F_greatest
  have C_reduced_bits := c_reduced_bits (P := P) (w := w) (base := base) T F_reduced_bits C_greatest
  have C_ties_at := c_ties_at (P := P) (w := w) (base := base) T F_ties_at
  have C_bits_of := c_bits_of (P := P) (w := w) (base := base) T F_bits_of C_tie_bit
  have C_lot_parities := c_lot_parities (P := P) (w := w) (base := base) T F_lot_parities
  have C_parities_left := c_parities_left (P := P) (w := w) (base := base) T F_parities_left
  have C_parity_rows := c_parity_rows (P := P) (w := w) (base := base) T F_parity_rows C_ties_at C_bits_of C_lot_parities C_parities_left
  have C_base_bits := c_base_bits (P := P) (w := w) (base := base) T F_base_bits C_reduced_bits C_parity_rows
  have C_few_bits := c_few_bits (P := P) (w := w) (base := base) T F_few_bits C_base_bits
  have C_columns_of := c_columns_of (P := P) (w := w) (base := base) T F_columns_of C_tie_bit C_few_bits
  have C_rest_of := c_rest_of (P := P) (w := w) (base := base) T F_rest_of
  have C_shortest_lots := c_shortest_lots (P := P) (w := w) (base := base) T F_shortest_lots
  have C_mended := f_mended (P := P) (w := w) (base := base) T F_mended C_need_thick C_columns_of C_rest_of C_shortest_lots
  have C_law_told := c_law_told (P := P) (w := w) (base := base) T Th F_law_told F_mended C_mended
  have C_law_pick := c_law_pick (P := P) (w := w) (base := base) T F_law_pick C_law_draw
  have C_law_pair := c_law_pair (P := P) (w := w) (base := base) T F_law_pair C_law_draw C_law_pick
  have C_law_is_whole := c_law_is_whole (P := P) (w := w) (base := base) T F_law_is_whole
  have C_law_is_standing := c_law_is_standing (P := P) (w := w) (base := base) T F_law_is_standing C_law_is_whole
  have C_law_mixed := c_law_mixed (P := P) (w := w) (base := base) T F_law_mixed C_law_draw
  have C_law_bundles := c_law_bundles (P := P) (w := w) (base := base) T F_law_bundles C_law_draw C_law_mixed
  have C_law_odd_ones := c_law_odd_ones (P := P) (w := w) (base := base) T F_law_odd_ones
  have C_law_is_bundled := c_law_is_bundled (P := P) (w := w) (base := base) T lawMath F_law_is_bundled C_law_told C_law_pair C_law_is_standing C_law_bundles C_law_odd_ones
  have C_law_web := c_law_web (P := P) (w := w) (base := base) T F_law_web C_law_draw C_law_pick C_law_mixed
  have C_law_thick := c_law_thick (P := P) (w := w) (base := base) T F_law_thick C_law_draw C_law_pick C_law_mixed C_law_web
  have C_law_bits := c_law_bits (P := P) (w := w) (base := base) T F_law_bits
  have C_law_mask := c_law_mask (P := P) (w := w) (base := base) T F_law_mask
  have C_law_cuts := c_law_cuts (P := P) (w := w) (base := base) T F_law_cuts C_law_mask
  have C_law_lot := c_law_lot (P := P) (w := w) (base := base) T F_law_lot
  have C_law_stars := c_law_stars (P := P) (w := w) (base := base) T F_law_stars C_law_mask
  have C_law_evens := c_law_evens (P := P) (w := w) (base := base) T F_law_evens C_law_bits C_law_stars
  have C_law_rounds := c_law_rounds (P := P) (w := w) (base := base) T F_law_rounds
  have C_law_both := c_law_both (P := P) (w := w) (base := base) T F_law_both C_law_bits C_law_evens C_law_rounds
  have C_law_span := c_law_span (P := P) (w := w) (base := base) T F_law_span C_law_evens C_law_cuts
  have C_law_gaps := c_law_gaps (P := P) (w := w) (base := base) T F_law_gaps F_law_bits C_law_bits C_law_span
  have C_law_is_right := c_law_is_right (P := P) (w := w) (base := base) T F_law_is_right C_law_mask C_law_lot C_law_both C_law_gaps C_law_is_standing
  have C_law_is_lot := c_law_is_lot (P := P) (w := w) (base := base) T F_law_is_lot C_law_is_whole
  exact r_law T lawMath ⟨rfl, by decide, by decide⟩ F_law C_law_deck C_law_draw C_law_is_bundled C_law_thick C_law_bits C_law_cuts C_law_pair C_law_told C_law_is_right C_law_is_lot C_law_mask
end
theorem txt_mk {K : PySem.W.Frag} {h : Heap} {mg : Str → Option Value} {t : Nat} (X : K.In h) (G : h.Ns mainGlobals mg)
   (z0 : PySem.W.nsIn K mainGlobals "tuple" = some none) (z1 : PySem.W.nsIn K mainGlobals "list" = some none) (z2 : PySem.W.nsIn K mainGlobals "int" = some none) (z3 : PySem.W.nsIn K mainGlobals "set" = some none) (z4 : PySem.W.nsIn K mainGlobals "bool" = some none) (z5 : PySem.W.nsIn K mainGlobals "len" = some none) (z6 : PySem.W.nsIn K mainGlobals "sum" = some none) (z7 : PySem.W.nsIn K mainGlobals "abs" = some none) (z8 : PySem.W.nsIn K mainGlobals "min" = some none) (z9 : PySem.W.nsIn K mainGlobals "max" = some none) (z10 : PySem.W.nsIn K mainGlobals "any" = some none) (z11 : PySem.W.nsIn K mainGlobals "sorted" = some none) (z12 : PySem.W.nsIn K mainGlobals "range" = some none) (z13 : PySem.W.nsIn K mainGlobals "enumerate" = some none) (z14 : PySem.W.nsIn K mainGlobals "zip" = some none) (z15 : PySem.W.nsIn K mainGlobals "repr" = some none) (z16 : PySem.W.nsIn K mainGlobals "isinstance" = some none) (mx : PySem.W.nsIn K mainGlobals "MAX_GAP" = some (some (.int 10 t))) : Txt mg :=
  ⟨PySem.W.mg_none_of X G z0, PySem.W.mg_none_of X G z1, PySem.W.mg_none_of X G z2, PySem.W.mg_none_of X G z3, PySem.W.mg_none_of X G z4, PySem.W.mg_none_of X G z5, PySem.W.mg_none_of X G z6, PySem.W.mg_none_of X G z7, PySem.W.mg_none_of X G z8, PySem.W.mg_none_of X G z9, PySem.W.mg_none_of X G z10, PySem.W.mg_none_of X G z11, PySem.W.mg_none_of X G z12, PySem.W.mg_none_of X G z13, PySem.W.mg_none_of X G z14, PySem.W.mg_none_of X G z15, PySem.W.mg_none_of X G z16, ⟨t, PySem.W.mg_of X G mx⟩⟩
theorem exm_self {K : PySem.W.Frag} {S : Addr} (h1 : PySem.W.subIn K (.ref S) (.type "BaseException") = some true) (h2 : PySem.W.isClsIn K S = true) (h3 : PySem.W.typeIn K (.ref S) = some (.type "type")) (h4 : PySem.W.subIn K (.ref S) (.ref S) = some true) : PySem.W.exmOne K (.ref S) (.ref S) = some true := by
  have e1 : (PySem.W.subIn K (.ref S) (.type "BaseException") == some true) = true := by rw [h1] <;> rfl
  have e2 : ((PySem.W.clsIn K S).isSome && PySem.W.typeIn K (.ref S) == some (.type "type")) = true := by
    have h2' : (PySem.W.clsIn K S).isSome = true := h2
    rw [h2', h3] <;> rfl
  show (if (PySem.W.subIn K (.ref S) (.type "BaseException") == some true) = true then (if ((PySem.W.clsIn K S).isSome && PySem.W.typeIn K (.ref S) == some (.type "type")) = true then PySem.W.subIn K (.ref S) (.ref S) else none) else none) = some true
  rw [if_pos e1, if_pos e2]
  exact h4
theorem thk_mk {K : PySem.W.Frag} {h : Heap} {mg : Str → Option Value} {BE TH fI N : Addr} (X : K.In h) (G : h.Ns mainGlobals mg)
    {nm q : Str} {bs sub : List Value} {sn : List Str} {ab : Bool} {col : Option Bool} {dd : Option Addr} {k0 k1 k2 k3 k5 : Option Value} {oc kV doc pm cdv ct : Value} {od an : Option Addr} {osl : Array (Option Value)}
    (aB : PySem.W.nsIn K mainGlobals "BothError" = some (some (.ref BE))) (rd : PySem.W.readsIn K BE (.type "type") = true) (gB : PySem.W.specialIn K (.ref BE) "__getattribute__" = some (some (.builtin "type.__getattribute__"))) (ini : PySem.W.findCls K (.ref BE) (.type "type") "__init__" = some (.val (.builtin "ValueError.__init__")))
    (aT : PySem.W.nsIn K mainGlobals "Thin" = some (some (.ref TH))) (xL : K.lookup TH = some (excClassObj nm q TH N bs [.ref BE, .type "ValueError", .type "Exception", .type "BaseException", .type "object"] true sn sub ab col dd k0 k1 k2 k3 k5 "ValueError.__new__"))
    (sa : PySem.W.findIn K (.ref TH) "__setattr__" = some (some (.builtin "object.__setattr__"))) (exC : PySem.W.subIn K (.ref TH) (.type "BaseException") = some true) (tyC : PySem.W.typeIn K (.ref TH) = some (.type "type")) (kC : PySem.W.keepIn K (.ref TH) = true)
    (noLot : PySem.W.findIn K (.ref TH) "lot" = some none) (iC : PySem.W.findIn K (.ref TH) "__init__" = some (some (.ref fI))) (tI : PySem.W.typeIn K (.ref fI) = some (.type "function"))
    (lI : K.lookup fI = some ⟨oc, od, .func (PySem.W.fnOf "__init__" "Thin.__init__" (defArgs s_thin_init) (defBody s_thin_init) (defScope s_thin_init) .none kV doc pm an cdv ct), osl⟩) (cI : PySem.W.codeIn K cdv "Thin.__init__" = true) (kI : PySem.W.keepIn K (.ref fI) = true)
    (ga : PySem.W.findIn K (.ref TH) "__getattribute__" = some (some (.builtin "BaseException.__getattribute__"))) (gg : PySem.W.findIn K (.ref TH) "__getattr__" = some none) (hdC : PySem.W.hasDictIn K TH = true) (isC : PySem.W.isClsIn K TH = true) (sC : PySem.W.subIn K (.ref TH) (.ref TH) = some true) :
    ThK K mg BE TH fI (PySem.W.fnOf "__init__" "Thin.__init__" (defArgs s_thin_init) (defBody s_thin_init) (defScope s_thin_init) .none kV doc pm an cdv ct) where
  be := ⟨PySem.W.mg_of X G aB, rd, gB, ini⟩
  mTH := PySem.W.mg_of X G aT
  T := ⟨⟨nm, q, N, bs, _, sn, sub, ab, col, dd, k0, k1, k2, k3, k5, xL, by show PySem.HandSPX.refsVE [.type "ValueError", .type "Exception", .type "BaseException", .type "object"] = true; decide +kernel⟩, sa, exC, tyC, kC⟩
  noLot := noLot
  iC := iC
  tI := tI
  fn := fun_mk lI cI kI
  xf := ⟨ga, gg, exC, hdC⟩
  te := exm_self exC isC tyC sC
theorem all_mk {P : Program} {w : World} {K : PySem.W.Frag} {h : Heap} {mg : Str → Option Value} {fa f BE TH fI : Addr} {fdI : FuncData} {oc kV doc pm cdv ct : Value} {od an : Option Addr} {osl : Array (Option Value)} (X : K.In h) (G : h.Ns mainGlobals mg) (hfa : mg "law" = some (.ref fa)) (T : Txt mg) (Th : ThK K mg BE TH fI fdI)
    (F_law_deck : In1 K mg "_law_deck" s_law_deck)
    (F_law_draw : In1 K mg "_law_draw" s_law_draw)
    (F_first_tree : In1 K mg "first_tree" s_first_tree)
    (F_goal_of : In1 K mg "goal_of" s_goal_of)
    (F_way_in_tree : In1 K mg "way_in_tree" s_way_in_tree)
    (F_tree_rounds : In1 K mg "tree_rounds" s_tree_rounds)
    (F_thin_cut : In1 K mg "thin_cut" s_thin_cut)
    (F_need_thick : In1 K mg "need_thick" s_need_thick)
    (F_tie_bit : In1 K mg "tie_bit" s_tie_bit)
    (F_greatest : In1 K mg "greatest" s_greatest)
    (F_reduced_bits : In1 K mg "reduced_bits" s_reduced_bits)
    (F_ties_at : In1 K mg "ties_at" s_ties_at)
    (F_bits_of : In1 K mg "bits_of" s_bits_of)
    (F_lot_parities : In1 K mg "lot_parities" s_lot_parities)
    (F_parities_left : In1 K mg "parities_left" s_parities_left)
    (F_parity_rows : In1 K mg "parity_rows" s_parity_rows)
    (F_base_bits : In1 K mg "base_bits" s_base_bits)
    (F_few_bits : In1 K mg "few_bits" s_few_bits)
    (F_columns_of : In1 K mg "columns_of" s_columns_of)
    (F_rest_of : In1 K mg "rest_of" s_rest_of)
    (F_shortest_lots : In1 K mg "shortest_lots" s_shortest_lots)
    (F_mended : In1 K mg "mended" s_mended)
    (F_law_told : In1 K mg "_law_told" s_law_told)
    (F_law_pick : In1 K mg "_law_pick" s_law_pick)
    (F_law_pair : In1 K mg "_law_pair" s_law_pair)
    (F_law_is_whole : In1 K mg "_law_is_whole" s_law_is_whole)
    (F_law_is_standing : In1 K mg "_law_is_standing" s_law_is_standing)
    (F_law_mixed : In1 K mg "_law_mixed" s_law_mixed)
    (F_law_bundles : In1 K mg "_law_bundles" s_law_bundles)
    (F_law_odd_ones : In1 K mg "_law_odd_ones" s_law_odd_ones)
    (F_law_is_bundled : In1 K mg "_law_is_bundled" s_law_is_bundled)
    (F_law_web : In1 K mg "_law_web" s_law_web)
    (F_law_thick : In1 K mg "_law_thick" s_law_thick)
    (F_law_bits : In1 K mg "_law_bits" s_law_bits)
    (F_law_mask : In1 K mg "_law_mask" s_law_mask)
    (F_law_cuts : In1 K mg "_law_cuts" s_law_cuts)
    (F_law_lot : In1 K mg "_law_lot" s_law_lot)
    (F_law_stars : In1 K mg "_law_stars" s_law_stars)
    (F_law_evens : In1 K mg "_law_evens" s_law_evens)
    (F_law_rounds : In1 K mg "_law_rounds" s_law_rounds)
    (F_law_both : In1 K mg "_law_both" s_law_both)
    (F_law_span : In1 K mg "_law_span" s_law_span)
    (F_law_gaps : In1 K mg "_law_gaps" s_law_gaps)
    (F_law_is_right : In1 K mg "_law_is_right" s_law_is_right)
    (F_law_is_lot : In1 K mg "_law_is_lot" s_law_is_lot)
    (a : PySem.W.nsIn K mainGlobals "law" = some (some (.ref f))) (l : K.lookup f = some ⟨oc, od, .func (PySem.W.fnOf "law" "law" (defArgs s_law) (defBody s_law) (defScope s_law) .none kV doc pm an cdv ct), osl⟩) (c : PySem.W.codeIn K cdv "law" = true) (k : PySem.W.keepIn K (.ref f) = true) :
    ∃ fd : FuncData, (∀ (s : Shared) (u : Value), BindsTo s fd ⟨[u], []⟩ [("_law_script", u)]) ∧ ∀ base : Heap, K.In base → base.Ns mainGlobals mg → RunA P w K mg fa fd ["_law_script"] (sp_law K) base := by
  have e := hfa.symm.trans (PySem.W.mg_of X G a)
  cases e
  exact ⟨_, fun s v => .of_eq rfl, fun base _ _ => law_run T Th F_law_deck F_law_draw F_first_tree F_goal_of F_way_in_tree F_tree_rounds F_thin_cut F_need_thick F_tie_bit F_greatest F_reduced_bits F_ties_at F_bits_of F_lot_parities F_parities_left F_parity_rows F_base_bits F_few_bits F_columns_of F_rest_of F_shortest_lots F_mended F_law_told F_law_pick F_law_pair F_law_is_whole F_law_is_standing F_law_mixed F_law_bundles F_law_odd_ones F_law_is_bundled F_law_web F_law_thick F_law_bits F_law_mask F_law_cuts F_law_lot F_law_stars F_law_evens F_law_rounds F_law_both F_law_span F_law_gaps F_law_is_right F_law_is_lot ⟨fun_mk (st := s_law) l c k, hfa⟩⟩
end Bw
set_option Elab.async false
open PySem PySem.W PyProof.Rows
set_option maxRecDepth 100000 in
set_option maxHeartbeats 8000000 in
theorem PySem.Challenge.cw_botheven_k78_whole_standings_mended_holds : PySem.Challenge.rw_botheven_k78_whole_standings_mended.Holds := by
  w_on; o_law; k_head; (case hw => w_witness2)
  k_fill
  refine Bw.walk_ofA (l := PySem.Challenge.rw_botheven_k78_whole_standings_mended) (n := 63) (x := "_law_script") (sp := Bw.sp_law) rfl (by decide) rfl (fun w h Y => PySem.W.kIn_of Y) ?F ?S
  case F =>
    intro w mg fa h KX G hmg
    refine' Bw.all_mk KX G hmg (Bw.txt_mk KX G ?z0 ?z1 ?z2 ?z3 ?z4 ?z5 ?z6 ?z7 ?z8 ?z9 ?z10 ?z11 ?z12 ?z13 ?z14 ?z15 ?z16 ?mx) (Bw.thk_mk KX G ?t_aB ?t_rd ?t_gB ?t_ini ?t_aT ?t_xL ?t_sa ?t_exC ?t_tyC ?t_kC ?t_noLot ?t_iC ?t_tI ?t_lI ?t_cI ?t_kI ?t_ga ?t_gg ?t_hdC ?t_isC ?t_sC)
      (Bw.in1_mk KX G ?a0 ?l0 ?c0 ?k0)
      (Bw.in1_mk KX G ?a1 ?l1 ?c1 ?k1)
      (Bw.in1_mk KX G ?a2 ?l2 ?c2 ?k2)
      (Bw.in1_mk KX G ?a3 ?l3 ?c3 ?k3)
      (Bw.in1_mk KX G ?a4 ?l4 ?c4 ?k4)
      (Bw.in1_mk KX G ?a5 ?l5 ?c5 ?k5)
      (Bw.in1_mk KX G ?a6 ?l6 ?c6 ?k6)
      (Bw.in1_mk KX G ?a7 ?l7 ?c7 ?k7)
      (Bw.in1_mk KX G ?a8 ?l8 ?c8 ?k8)
      (Bw.in1_mk KX G ?a9 ?l9 ?c9 ?k9)
      (Bw.in1_mk KX G ?a10 ?l10 ?c10 ?k10)
      (Bw.in1_mk KX G ?a11 ?l11 ?c11 ?k11)
      (Bw.in1_mk KX G ?a12 ?l12 ?c12 ?k12)
      (Bw.in1_mk KX G ?a13 ?l13 ?c13 ?k13)
      (Bw.in1_mk KX G ?a14 ?l14 ?c14 ?k14)
      (Bw.in1_mk KX G ?a15 ?l15 ?c15 ?k15)
      (Bw.in1_mk KX G ?a16 ?l16 ?c16 ?k16)
      (Bw.in1_mk KX G ?a17 ?l17 ?c17 ?k17)
      (Bw.in1_mk KX G ?a18 ?l18 ?c18 ?k18)
      (Bw.in1_mk KX G ?a19 ?l19 ?c19 ?k19)
      (Bw.in1_mk KX G ?a20 ?l20 ?c20 ?k20)
      (Bw.in1_mk KX G ?a21 ?l21 ?c21 ?k21)
      (Bw.in1_mk KX G ?a22 ?l22 ?c22 ?k22)
      (Bw.in1_mk KX G ?a23 ?l23 ?c23 ?k23)
      (Bw.in1_mk KX G ?a24 ?l24 ?c24 ?k24)
      (Bw.in1_mk KX G ?a25 ?l25 ?c25 ?k25)
      (Bw.in1_mk KX G ?a26 ?l26 ?c26 ?k26)
      (Bw.in1_mk KX G ?a27 ?l27 ?c27 ?k27)
      (Bw.in1_mk KX G ?a28 ?l28 ?c28 ?k28)
      (Bw.in1_mk KX G ?a29 ?l29 ?c29 ?k29)
      (Bw.in1_mk KX G ?a30 ?l30 ?c30 ?k30)
      (Bw.in1_mk KX G ?a31 ?l31 ?c31 ?k31)
      (Bw.in1_mk KX G ?a32 ?l32 ?c32 ?k32)
      (Bw.in1_mk KX G ?a33 ?l33 ?c33 ?k33)
      (Bw.in1_mk KX G ?a34 ?l34 ?c34 ?k34)
      (Bw.in1_mk KX G ?a35 ?l35 ?c35 ?k35)
      (Bw.in1_mk KX G ?a36 ?l36 ?c36 ?k36)
      (Bw.in1_mk KX G ?a37 ?l37 ?c37 ?k37)
      (Bw.in1_mk KX G ?a38 ?l38 ?c38 ?k38)
      (Bw.in1_mk KX G ?a39 ?l39 ?c39 ?k39)
      (Bw.in1_mk KX G ?a40 ?l40 ?c40 ?k40)
      (Bw.in1_mk KX G ?a41 ?l41 ?c41 ?k41)
      (Bw.in1_mk KX G ?a42 ?l42 ?c42 ?k42)
      (Bw.in1_mk KX G ?a43 ?l43 ?c43 ?k43)
      (Bw.in1_mk KX G ?a44 ?l44 ?c44 ?k44)
      ?aL ?lL ?cL ?kL
    (case z0 => k_is)
    (case z1 => k_is)
    (case z2 => k_is)
    (case z3 => k_is)
    (case z4 => k_is)
    (case z5 => k_is)
    (case z6 => k_is)
    (case z7 => k_is)
    (case z8 => k_is)
    (case z9 => k_is)
    (case z10 => k_is)
    (case z11 => k_is)
    (case z12 => k_is)
    (case z13 => k_is)
    (case z14 => k_is)
    (case z15 => k_is)
    (case z16 => k_is)
    (case mx => k_is)
    (case t_aB => k_is)
    (case t_rd => k_is)
    (case t_gB => k_is)
    (case t_ini => k_is)
    (case t_aT => k_is)
    (case t_xL => k_is)
    (case t_sa => k_is)
    (case t_exC => k_is)
    (case t_tyC => k_is)
    (case t_kC => k_is)
    (case t_noLot => k_is)
    (case t_iC => k_is)
    (case t_tI => k_is)
    (case t_lI => k_is)
    (case t_cI => k_is)
    (case t_kI => k_is)
    (case t_ga => k_is)
    (case t_gg => k_is)
    (case t_hdC => k_is)
    (case t_isC => k_is)
    (case t_sC => first | k_is | rfl)
    (case a0 => k_is)
    (case l0 => k_is)
    (case c0 => k_is)
    (case k0 => k_is)
    (case a1 => k_is)
    (case l1 => k_is)
    (case c1 => k_is)
    (case k1 => k_is)
    (case a2 => k_is)
    (case l2 => k_is)
    (case c2 => k_is)
    (case k2 => k_is)
    (case a3 => k_is)
    (case l3 => k_is)
    (case c3 => k_is)
    (case k3 => k_is)
    (case a4 => k_is)
    (case l4 => k_is)
    (case c4 => k_is)
    (case k4 => k_is)
    (case a5 => k_is)
    (case l5 => k_is)
    (case c5 => k_is)
    (case k5 => k_is)
    (case a6 => k_is)
    (case l6 => k_is)
    (case c6 => k_is)
    (case k6 => k_is)
    (case a7 => k_is)
    (case l7 => k_is)
    (case c7 => k_is)
    (case k7 => k_is)
    (case a8 => k_is)
    (case l8 => k_is)
    (case c8 => k_is)
    (case k8 => k_is)
    (case a9 => k_is)
    (case l9 => k_is)
    (case c9 => k_is)
    (case k9 => k_is)
    (case a10 => k_is)
    (case l10 => k_is)
    (case c10 => k_is)
    (case k10 => k_is)
    (case a11 => k_is)
    (case l11 => k_is)
    (case c11 => k_is)
    (case k11 => k_is)
    (case a12 => k_is)
    (case l12 => k_is)
    (case c12 => k_is)
    (case k12 => k_is)
    (case a13 => k_is)
    (case l13 => k_is)
    (case c13 => k_is)
    (case k13 => k_is)
    (case a14 => k_is)
    (case l14 => k_is)
    (case c14 => k_is)
    (case k14 => k_is)
    (case a15 => k_is)
    (case l15 => k_is)
    (case c15 => k_is)
    (case k15 => k_is)
    (case a16 => k_is)
    (case l16 => k_is)
    (case c16 => k_is)
    (case k16 => k_is)
    (case a17 => k_is)
    (case l17 => k_is)
    (case c17 => k_is)
    (case k17 => k_is)
    (case a18 => k_is)
    (case l18 => k_is)
    (case c18 => k_is)
    (case k18 => k_is)
    (case a19 => k_is)
    (case l19 => k_is)
    (case c19 => k_is)
    (case k19 => k_is)
    (case a20 => k_is)
    (case l20 => k_is)
    (case c20 => k_is)
    (case k20 => k_is)
    (case a21 => k_is)
    (case l21 => k_is)
    (case c21 => k_is)
    (case k21 => k_is)
    (case a22 => k_is)
    (case l22 => k_is)
    (case c22 => k_is)
    (case k22 => k_is)
    (case a23 => k_is)
    (case l23 => k_is)
    (case c23 => k_is)
    (case k23 => k_is)
    (case a24 => k_is)
    (case l24 => k_is)
    (case c24 => k_is)
    (case k24 => k_is)
    (case a25 => k_is)
    (case l25 => k_is)
    (case c25 => k_is)
    (case k25 => k_is)
    (case a26 => k_is)
    (case l26 => k_is)
    (case c26 => k_is)
    (case k26 => k_is)
    (case a27 => k_is)
    (case l27 => k_is)
    (case c27 => k_is)
    (case k27 => k_is)
    (case a28 => k_is)
    (case l28 => k_is)
    (case c28 => k_is)
    (case k28 => k_is)
    (case a29 => k_is)
    (case l29 => k_is)
    (case c29 => k_is)
    (case k29 => k_is)
    (case a30 => k_is)
    (case l30 => k_is)
    (case c30 => k_is)
    (case k30 => k_is)
    (case a31 => k_is)
    (case l31 => k_is)
    (case c31 => k_is)
    (case k31 => k_is)
    (case a32 => k_is)
    (case l32 => k_is)
    (case c32 => k_is)
    (case k32 => k_is)
    (case a33 => k_is)
    (case l33 => k_is)
    (case c33 => k_is)
    (case k33 => k_is)
    (case a34 => k_is)
    (case l34 => k_is)
    (case c34 => k_is)
    (case k34 => k_is)
    (case a35 => k_is)
    (case l35 => k_is)
    (case c35 => k_is)
    (case k35 => k_is)
    (case a36 => k_is)
    (case l36 => k_is)
    (case c36 => k_is)
    (case k36 => k_is)
    (case a37 => k_is)
    (case l37 => k_is)
    (case c37 => k_is)
    (case k37 => k_is)
    (case a38 => k_is)
    (case l38 => k_is)
    (case c38 => k_is)
    (case k38 => k_is)
    (case a39 => k_is)
    (case l39 => k_is)
    (case c39 => k_is)
    (case k39 => k_is)
    (case a40 => k_is)
    (case l40 => k_is)
    (case c40 => k_is)
    (case k40 => k_is)
    (case a41 => k_is)
    (case l41 => k_is)
    (case c41 => k_is)
    (case k41 => k_is)
    (case a42 => k_is)
    (case l42 => k_is)
    (case c42 => k_is)
    (case k42 => k_is)
    (case a43 => k_is)
    (case l43 => k_is)
    (case c43 => k_is)
    (case k43 => k_is)
    (case a44 => k_is)
    (case l44 => k_is)
    (case c44 => k_is)
    (case k44 => k_is)
    (case aL => k_is)
    (case lL => k_is)
    (case cL => k_is)
    (case kL => k_is)
  case S =>
    intro K H a ns hl hO hS
    exact ⟨ns, a, rfl, hl, hS, fun _ => rfl⟩
