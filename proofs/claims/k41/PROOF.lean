import PyProof.Rows.All
import Wide.All
import OpenK.AllK
import Wide.FinOn
import HandS.ForMost
import HandS.TupAny
import HandS.Wide
import HandS.Gcd
import HandS.Style
import HandS.Conv
import HandS.Codes
import HandS.IsInst
import HandS.Zip
import HandS.Flow
import KE.GoesMore
import KE.GoesEnum
import PyProof.ReprRoads
import PyProof.Rows.RuleB_pow
import KE.LtData
import PyProof.ZipIter
import PyProof.CallType
import PyProof.Walk
import PyProof.WalkLemmas
import PyProof.RangeIter
import PyProof.RulesTry
import KE.KDictKeyed
import KE.KDictDisplayH
import KE.KeyNested
import HandS.Ends
import HandS.Words
import HandS.List
import HandS.Small
import PyProof.ReprReads
import PyProof.ReprLen
import PyProof.Rows.ReprOcc
import HandS.Text
import PySem.Challenge.RW_neverhalves_k41_whole_rows_to_boards_and
set_option Elab.async false
set_option linter.all false
set_option maxRecDepth 100000
set_option maxHeartbeats 4000000
/-! GL: data over a ghost part of the heap; expressions by what they are worth, statements by what they leave. -/
namespace N41
open PySem PySem.Spec PyProof.Rows L2

/-! ### data -/
mutual
inductive Da (G : Hp) : V → PyData → Prop
  | non : Da G .non .none
  | bl (b : Bool) : Da G (.bl b) (.bool b)
  | int (i : Int) : Da G (.int i) (.int i)
  | str (x : Str) : Da G (.str x) (.str x)
  | lst {a : Addr} {xs : List V} {ds : List PyData} : G a = some (.lst xs) → Das G xs ds → Da G (.ref a) (.list ds)
  | tup {a : Addr} {xs : List V} {ds : List PyData} : G a = some (.tup xs) → Das G xs ds → Da G (.ref a) (.tuple ds)
inductive Das (G : Hp) : List V → List PyData → Prop
  | nil : Das G [] []
  | cons {v : V} {vs : List V} {d : PyData} {ds : List PyData} : Da G v d → Das G vs ds → Das G (v :: vs) (d :: ds)
end
section
variable {G G' : Hp}
mutual
theorem Da.mono (e : Same G G') : ∀ (d : PyData) (v : V), Da G v d → Da G' v d
  | .none, _, h => by cases h; exact .non
  | .bool b, _, h => by cases h; exact .bl b
  | .int i, _, h => by cases h; exact .int i
  | .str x, _, h => by cases h; exact .str x
  | .list ds, _, h => by
    cases h with
    | lst ha hs => exact .lst (e _ _ ha) (Das.mono e ds _ hs)
  | .tuple ds, _, h => by
    cases h with
    | tup ha hs => exact .tup (e _ _ ha) (Das.mono e ds _ hs)
  | .dict _, _, h => by cases h
theorem Das.mono (e : Same G G') : ∀ (ds : List PyData) (vs : List V), Das G vs ds → Das G' vs ds
  | [], _, h => by cases h; exact .nil
  | d :: ds, _, h => by
    cases h with
    | cons h1 h2 => exact .cons (Da.mono e d _ h1) (Das.mono e ds _ h2)
end
mutual
theorem Da.dp (K : PySem.W.Frag) : ∀ (d : PyData) (v : V), Da G v d → Dp K G v d
  | .none, _, h => by cases h; exact .non
  | .bool b, _, h => by cases h; exact .bl b
  | .int i, _, h => by cases h; exact .int i
  | .str x, _, h => by cases h; exact .str x
  | .list ds, _, h => by
    cases h with
    | lst ha hs => exact .lst (SqL.of ha) (Das.dp K ds _ hs)
  | .tuple ds, _, h => by
    cases h with
    | tup ha hs => exact .tup (SqT.of ha) (Das.dp K ds _ hs)
  | .dict _, _, h => by cases h
theorem Das.dp (K : PySem.W.Frag) : ∀ (ds : List PyData) (vs : List V), Das G vs ds → DpAll K G vs ds
  | [], _, h => by cases h; exact .nil
  | d :: ds, _, h => by
    cases h with
    | cons h1 h2 => exact .cons (Da.dp K d _ h1) (Das.dp K ds _ h2)
end
theorem Da.inv_tup {v : V} {ds : List PyData} (h : Da G v (.tuple ds)) : ∃ a xs, v = .ref a ∧ G a = some (.tup xs) ∧ Das G xs ds := by
  cases h with
  | tup h1 h2 => exact ⟨_, _, rfl, h1, h2⟩
theorem Da.inv_lst {v : V} {ds : List PyData} (h : Da G v (.list ds)) : ∃ a xs, v = .ref a ∧ G a = some (.lst xs) ∧ Das G xs ds := by
  cases h with
  | lst h1 h2 => exact ⟨_, _, rfl, h1, h2⟩
theorem Da.inv_int {v : V} {i : Int} (h : Da G v (.int i)) : v = .int i := by cases h; rfl
theorem Da.inv_bl {v : V} {i : Bool} (h : Da G v (.bool i)) : v = .bl i := by cases h; rfl
theorem Da.inv_str {v : V} {i : Str} (h : Da G v (.str i)) : v = .str i := by cases h; rfl
theorem Da.inv_non {v : V} (h : Da G v .none) : v = .non := by cases h; rfl
theorem Das.length : ∀ {ds : List PyData} {vs : List V}, Das G vs ds → vs.length = ds.length
  | [], _, h => by cases h; rfl
  | d :: ds, _, h => by
    cases h with
    | cons h1 h2 => rw [List.length_cons, List.length_cons, Das.length h2]
theorem Das.get : ∀ {ds : List PyData} {vs : List V} {i : Nat} {d : PyData}, Das G vs ds → ds[i]? = some d → ∃ v, vs[i]? = some v ∧ Da G v d
  | [], _, _, _, _, e => by simp at e
  | d :: ds, _, i, d', h, e => by
    cases h with
    | cons h1 h2 =>
      cases i with
      | zero =>
        simp only [List.getElem?_cons_zero, Option.some.injEq] at e
        subst e
        exact ⟨_, rfl, h1⟩
      | succ i =>
        rw [List.getElem?_cons_succ] at e
        obtain ⟨v, e1, e2⟩ := Das.get h2 e
        exact ⟨v, by rw [List.getElem?_cons_succ]; exact e1, e2⟩
theorem Das.getV {ds : List PyData} {vs : List V} {i : Nat} {v : V} (h : Das G vs ds) (e : vs[i]? = some v) : ∃ d, ds[i]? = some d ∧ Da G v d := by
  have hi : i < ds.length := by rw [← h.length]; exact (List.getElem?_eq_some_iff.mp e).1
  obtain ⟨v', e1, e2⟩ := h.get (List.getElem?_eq_getElem hi)
  rw [e] at e1
  cases e1
  exact ⟨_, List.getElem?_eq_getElem hi, e2⟩
theorem Das.append : ∀ {ds es : List PyData} {vs ws : List V}, Das G vs ds → Das G ws es → Das G (vs ++ ws) (ds ++ es)
  | [], _, _, _, h, h' => by cases h; exact h'
  | d :: ds, _, _, _, h, h' => by
    cases h with
    | cons h1 h2 => exact .cons h1 (Das.append h2 h')
theorem Das.snoc {ds : List PyData} {d : PyData} {vs : List V} {v : V} (h : Das G vs ds) (h' : Da G v d) : Das G (vs ++ [v]) (ds ++ [d]) := h.append (.cons h' .nil)
theorem Das.take : ∀ {ds : List PyData} {vs : List V} (n : Nat), Das G vs ds → Das G (vs.take n) (ds.take n)
  | _, _, 0, _ => by rw [List.take_zero, List.take_zero]; exact .nil
  | [], _, n + 1, h => by cases h; exact .nil
  | d :: ds, _, n + 1, h => by
    cases h with
    | cons h1 h2 => exact .cons h1 (Das.take n h2)
theorem Das.drop : ∀ {ds : List PyData} {vs : List V} (n : Nat), Das G vs ds → Das G (vs.drop n) (ds.drop n)
  | _, _, 0, h => h
  | [], _, n + 1, h => by cases h; exact .nil
  | d :: ds, _, n + 1, h => by
    cases h with
    | cons h1 h2 => exact Das.drop n h2
theorem Das.set : ∀ {ds : List PyData} {vs : List V} (n : Nat) {v : V} {d : PyData}, Das G vs ds → Da G v d → Das G (vs.set n v) (ds.set n d)
  | [], _, n, _, _, h, _ => by cases h; exact .nil
  | d :: ds, _, 0, _, _, h, q => by
    cases h with
    | cons h1 h2 => exact .cons q h2
  | d :: ds, _, n + 1, _, _, h, q => by
    cases h with
    | cons h1 h2 => exact .cons h1 (Das.set n h2 q)
theorem Das.eraseIdx : ∀ {ds : List PyData} {vs : List V} (n : Nat), Das G vs ds → Das G (vs.eraseIdx n) (ds.eraseIdx n)
  | [], _, n, h => by cases h; exact .nil
  | d :: ds, _, 0, h => by
    cases h with
    | cons h1 h2 => exact h2
  | d :: ds, _, n + 1, h => by
    cases h with
    | cons h1 h2 => exact .cons h1 (Das.eraseIdx n h2)
theorem das_ints : ∀ ns : List Int, Das G (ns.map V.int) (ns.map PyData.int)
  | [] => .nil
  | n :: ns => .cons (.int n) (das_ints ns)
theorem Das.inv_ints : ∀ {ns : List Int} {vs : List V}, Das G vs (ns.map PyData.int) → vs = ns.map V.int
  | [], _, h => by cases h; rfl
  | n :: ns, _, h => by
    cases h with
    | cons h1 h2 =>
      cases h1
      rw [Das.inv_ints h2]
      rfl
theorem das_bools : ∀ ns : List Bool, Das G (ns.map V.bl) (ns.map PyData.bool)
  | [] => .nil
  | n :: ns => .cons (.bl n) (das_bools ns)
theorem Das.inv_bools : ∀ {ns : List Bool} {vs : List V}, Das G vs (ns.map PyData.bool) → vs = ns.map V.bl
  | [], _, h => by cases h; rfl
  | n :: ns, _, h => by
    cases h with
    | cons h1 h2 =>
      cases h1
      rw [Das.inv_bools h2]
      rfl
end

/-! ### steps: what is known grows, what stands stays but at m, nothing that stood becomes known -/
structure Stp (m : List Addr) (G H G' H' : Hp) : Prop where
  g : Same G G'
  h : ∀ a o, a ∉ m → H a = some o → H' a = some o
  t : ∀ a, H a ≠ none → H' a ≠ none
  i : Same G' H'
  n : ∀ a, H a ≠ none → G' a = G a
def Own (G H : Hp) (l : Addr) (o : HO) : Prop := G l = none ∧ H l = some o
section
variable {m m' : List Addr} {G H G1 H1 G2 H2 : Hp} {v : V} {d : PyData} {vs : List V} {ds : List PyData} {l p : Addr} {o o' : HO}
theorem Stp.refl (e : Same G H) : Stp m G H G H := ⟨Same.refl G, fun _ _ _ h => h, fun _ h => h, e, fun _ _ => rfl⟩
theorem Stp.trans (a : Stp m G H G1 H1) (b : Stp m G1 H1 G2 H2) : Stp m G H G2 H2 :=
  ⟨a.g.trans b.g, fun c u hc e => b.h c u hc (a.h c u hc e), fun c e => b.t c (a.t c e), b.i, fun c e => (b.n c (a.t c e)).trans (a.n c e)⟩
theorem Stp.weak (a : Stp m G H G1 H1) (s : ∀ c ∈ m, c ∈ m') : Stp m' G H G1 H1 := ⟨a.g, fun c u hc e => a.h c u (fun z => hc (s c z)) e, a.t, a.i, a.n⟩
/-- m' of the second step: in m, or not there ahead of the first -/
theorem Stp.comp (a : Stp m G H G1 H1) (b : Stp m' G1 H1 G2 H2) (s : ∀ c ∈ m', c ∈ m ∨ H c = none) : Stp m G H G2 H2 :=
  ⟨a.g.trans b.g, fun c u hc e => b.h c u (fun z => (s c z).elim hc fun q => by rw [q] at e; cases e) (a.h c u hc e), fun c e => b.t c (a.t c e), b.i, fun c e => (b.n c (a.t c e)).trans (a.n c e)⟩
theorem Stp.up (a : Stp m G H G1 H1) (b : Stp [] G1 H1 G2 H2) : Stp m G H G2 H2 := a.comp b fun _ z => absurd z (by simp)
theorem Stp.of0 (a : Stp [] G H G1 H1) : Stp m G H G1 H1 := a.weak fun _ z => absurd z (by simp)
theorem Stp.hs (a : Stp [] G H G1 H1) : Same H H1 := fun b o e => a.h b o (by simp) e
theorem Stp.da (s : Stp m G H G1 H1) (h : Da G v d) : Da G1 v d := h.mono s.g
theorem Stp.das (s : Stp m G H G1 H1) (h : Das G vs ds) : Das G1 vs ds := h.mono s.g
theorem Stp.own (s : Stp [] G H G1 H1) (h : Own G H l o) : Own G1 H1 l o := ⟨by rw [s.n l (by rw [h.2]; exact fun z => nomatch z)]; exact h.1, s.h l o (by simp) h.2⟩
theorem Stp.ownM (s : Stp m G H G1 H1) (hm : l ∉ m) (h : Own G H l o) : Own G1 H1 l o := ⟨by rw [s.n l (by rw [h.2]; exact fun z => nomatch z)]; exact h.1, s.h l o hm h.2⟩
theorem Stp.gone (s : Stp m G H G1 H1) (h : Own G H l o) : G1 l = none := by rw [s.n l (by rw [h.2]; exact fun z => nomatch z)]; exact h.1
theorem Stp.free (s : Stp m G H G1 H1) (h : H1 p = none) : H p = none := by
  cases q : H p with
  | none => rfl
  | some u => exact absurd h (s.t p (by rw [q]; exact fun z => nomatch z))
theorem Same.back {G H : Hp} (e : Same G H) {p : Addr} (h : H p = none) : G p = none := Same.free e h
/-- a new object, known -/
theorem Stp.new (e : Same G H) (hp : H p = none) : Stp m G H (upd G p o) (upd H p o) := by
  have gp : G p = none := Same.free e hp
  refine ⟨fun a u q => ?_, fun a u _ q => ?_, fun a q => ?_, fun a u q => ?_, fun a q => ?_⟩
  · rw [upd_ne (ne_of_none q gp)]; exact q
  · rw [upd_ne (ne_of_none q hp)]; exact q
  · intro z
    by_cases ha : a = p
    · subst ha; exact q hp
    · rw [upd_ne ha] at z; exact q z
  · by_cases ha : a = p
    · subst ha; rw [upd_same] at q ⊢; exact q
    · rw [upd_ne ha] at q ⊢; exact e a u q
  · have ha : a ≠ p := fun z => by subst z; exact q hp
    rw [upd_ne ha]
/-- a new object, owned -/
theorem Stp.newO (e : Same G H) (hp : H p = none) : Stp m G H G (upd H p o) := by
  refine ⟨Same.refl G, fun a u _ q => ?_, fun a q z => ?_, fun a u q => ?_, fun a q => rfl⟩
  · rw [upd_ne (ne_of_none q hp)]; exact q
  · by_cases ha : a = p
    · subst ha; exact q hp
    · rw [upd_ne ha] at z; exact q z
  · rw [upd_ne (ne_of_none (e a u q) hp)]; exact e a u q
/-- what is owned is written -/
theorem Stp.put (e : Same G H) (ho : Own G H l o) (hl : l ∈ m) : Stp m G H G (upd H l o') := by
  refine ⟨Same.refl G, fun a u ha q => ?_, fun a q z => ?_, fun a u q => ?_, fun a q => rfl⟩
  · rw [upd_ne (fun z => ha (by rw [z]; exact hl))]; exact q
  · by_cases ha : a = l
    · subst ha; rw [upd_same] at z; cases z
    · rw [upd_ne ha] at z; exact q z
  · rw [upd_ne (ne_of_none q ho.1)]; exact e a u q
theorem Own.put (h : Own G H l o) : Own G (upd H l o') l o' := ⟨h.1, upd_same⟩
theorem Own.putN (h : Own G H p o) (n : p ≠ l) : Own G (upd H l o') p o := ⟨h.1, by rw [upd_ne n]; exact h.2⟩
/-- what is owned becomes known -/
theorem Own.know (e : Same G H) (h : Own G H l o) : Same (upd G l o) H ∧ Same G (upd G l o) := by
  refine ⟨fun a u q => ?_, fun a u q => ?_⟩
  · by_cases ha : a = l
    · subst ha; rw [upd_same] at q; rw [h.2]; exact q
    · rw [upd_ne ha] at q; exact e a u q
  · rw [upd_ne (ne_of_none q h.1)]; exact q
/-- .. if it did not stand at the start -/
theorem Stp.know (s : Stp m G H G1 H1) (h : Own G1 H1 l o) (n : H l = none) : Stp m G H (upd G1 l o) H1 := by
  obtain ⟨k1, k2⟩ := h.know s.i
  refine ⟨s.g.trans k2, s.h, s.t, k1, fun a q => ?_⟩
  have ha : a ≠ l := fun z => by subst z; exact q n
  rw [upd_ne ha]
  exact s.n a q
theorem Own.ne {q : Addr} (h : Own G H l o) (hq : H q = none) : l ≠ q := ne_of_none h.2 hq
end

/-! ### the ground: what is known stands; what is owned -/
structure Cn (Γ : List (Addr × HO)) (G H : Hp) : Prop where
  i : Same G H
  o : ∀ p ∈ Γ, Own G H p.1 p.2
theorem Cn.up {Γ : List (Addr × HO)} {G H G1 H1 : Hp} (c : Cn Γ G H) (s : Stp [] G H G1 H1) : Cn Γ G1 H1 := ⟨s.i, fun p hp => s.own (c.o p hp)⟩
theorem Cn.nil {G H : Hp} (e : Same G H) : Cn [] G H := ⟨e, fun _ h => absurd h (by simp)⟩
theorem Cn.one {G H : Hp} {l : Addr} {u : HO} (e : Same G H) (o : Own G H l u) : Cn [(l, u)] G H := ⟨e, fun p hp => by
  have : p = (l, u) := by simpa using hp
  subst this
  exact o⟩
theorem Cn.two {G H : Hp} {l l' : Addr} {u u' : HO} (e : Same G H) (o : Own G H l u) (o' : Own G H l' u') : Cn [(l, u), (l', u')] G H := ⟨e, fun p hp => by
  have : p = (l, u) ∨ p = (l', u') := by simpa using hp
  rcases this with rfl | rfl
  · exact o
  · exact o'⟩
theorem Cn.three {G H : Hp} {l l' l2 : Addr} {u u' u2 : HO} (e : Same G H) (o : Own G H l u) (o' : Own G H l' u') (o2 : Own G H l2 u2) : Cn [(l, u), (l', u'), (l2, u2)] G H := ⟨e, fun p hp => by
  have : p = (l, u) ∨ p = (l', u') ∨ p = (l2, u2) := by simpa using hp
  rcases this with rfl | rfl | rfl
  · exact o
  · exact o'
  · exact o2⟩

/-! ### what evaluates to what -/
def EvD (Γ : List (Addr × HO)) (te : TE) (σ : L2.St) (G : Hp) (d : PyData) : Prop := ∀ G1 H1, Same G G1 → Cn Γ G1 H1 → ∀ Q : VK, (∀ v G2 H2, Stp [] G1 H1 G2 H2 → Da G2 v d → Q v H2) → te σ H1 Q
/-- a new list -/
def EvL (Γ : List (Addr × HO)) (te : TE) (σ : L2.St) (G : Hp) (ds : List PyData) : Prop := ∀ G1 H1, Same G G1 → Cn Γ G1 H1 → ∀ Q : VK, (∀ p xs G2 H2, Stp [] G1 H1 G2 H2 → H1 p = none → Own G2 H2 p (.lst xs) → Das G2 xs ds → Q (.ref p) H2) → te σ H1 Q
def EvB (Γ : List (Addr × HO)) (tt : TT) (σ : L2.St) (G : Hp) (b : Bool) : Prop := ∀ G1 H1, Same G G1 → Cn Γ G1 H1 → ∀ Q : Bool → Hp → Prop, (∀ G2 H2, Stp [] G1 H1 G2 H2 → Q b H2) → tt σ H1 Q
def EvA (Γ : List (Addr × HO)) (ta : TA) (σ : L2.St) (G : Hp) (ds : List PyData) : Prop := ∀ G1 H1, Same G G1 → Cn Γ G1 H1 → ∀ Q : List V → Hp → Prop, (∀ vs G2 H2, Stp [] G1 H1 G2 H2 → Das G2 vs ds → Q vs H2) → ta σ H1 Q
def EvO (Γ : List (Addr × HO)) (to : TO) (σ : L2.St) (G : Hp) (o : Option Int) : Prop := ∀ G1 H1, Same G G1 → Cn Γ G1 H1 → ∀ Q : Option Int → Hp → Prop, (∀ G2 H2, Stp [] G1 H1 G2 H2 → Q o H2) → to σ H1 Q
structure Yields (J : It) (G : Hp) (ds : List PyData) : Prop where
  stop : ∀ G' H', Same G G' → Same G' H' → J.stop ds.length H'
  go : ∀ i d G' H', ds[i]? = some d → Same G G' → Same G' H' → J.go i H' ∧ ∀ x H'', J.yld i H' x H'' → ∃ G'', Stp [] G' H' G'' H'' ∧ Da G'' x d
def EvI (Γ : List (Addr × HO)) (wi : TI) (σ : L2.St) (G : Hp) (ds : List PyData) : Prop := ∀ G1 H1, Same G G1 → Cn Γ G1 H1 → ∀ R : It → Hp → Prop, (∀ J G2 H2, Stp [] G1 H1 G2 H2 → Yields J G2 ds → R J H2) → wi σ H1 R

section
variable {K : PySem.W.Frag} {Γ : List (Addr × HO)} {σ : L2.St} {G G' H : Hp} {ta tb tc te tx : TE} {t u : TT} {x y z v : V} {r : R2} {d d' e : PyData} {ds ds' es : List PyData} {vs : List V}
theorem EvD.mono (e : Same G G') (h : EvD Γ te σ G d) : EvD Γ te σ G' d := fun G1 H1 a b Q q => h G1 H1 (e.trans a) b Q q
theorem EvL.mono (e : Same G G') (h : EvL Γ te σ G ds) : EvL Γ te σ G' ds := fun G1 H1 a b Q q => h G1 H1 (e.trans a) b Q q
theorem EvB.mono {b : Bool} (e : Same G G') (h : EvB Γ t σ G b) : EvB Γ t σ G' b := fun G1 H1 a b Q q => h G1 H1 (e.trans a) b Q q
theorem EvA.mono {ta : TA} (e : Same G G') (h : EvA Γ ta σ G ds) : EvA Γ ta σ G' ds := fun G1 H1 a b Q q => h G1 H1 (e.trans a) b Q q
theorem EvI.mono {wi : TI} (e : Same G G') (h : EvI Γ wi σ G ds) : EvI Γ wi σ G' ds := fun G1 H1 a b Q q => h G1 H1 (e.trans a) b Q q
theorem EvL.toD (h : EvL Γ te σ G ds) : EvD Γ te σ G (.list ds) := fun G1 H1 a b Q q => h G1 H1 a b Q fun p xs G2 H2 s np o ha =>
  q _ _ H2 (s.know o np) (.lst upd_same (ha.mono (o.know s.i).2))
theorem EvD.eq (h : EvD Γ te σ G d) (e : d = d') : EvD Γ te σ G d' := e ▸ h
theorem EvL.eq (h : EvL Γ te σ G ds) (e : ds = ds') : EvL Γ te σ G ds' := e ▸ h
theorem EvB.eq {b b' : Bool} (h : EvB Γ t σ G b) (e : b = b') : EvB Γ t σ G b' := e ▸ h
theorem EvI.eq {wi : TI} (h : EvI Γ wi σ G ds) (e : ds = ds') : EvI Γ wi σ G ds' := e ▸ h

theorem e_var {i : Nat} (h : σ[i]? = some (some v)) (hd : Da G v d) : EvD Γ (tVar i) σ G d := fun G1 H1 a b _ q => ⟨v, h, q v G1 H1 (Stp.refl b.i) (hd.mono a)⟩
theorem e_int {i : Int} : EvD Γ (tC (.int i)) σ G (.int i) := fun G1 H1 a b _ q => q _ G1 H1 (Stp.refl b.i) (.int i)
theorem e_bl {i : Bool} : EvD Γ (tC (.bl i)) σ G (.bool i) := fun G1 H1 a b _ q => q _ G1 H1 (Stp.refl b.i) (.bl i)
theorem e_str {i : Str} : EvD Γ (tC (.str i)) σ G (.str i) := fun G1 H1 a b _ q => q _ G1 H1 (Stp.refl b.i) (.str i)
theorem e_non : EvD Γ (tC .non) σ G .none := fun G1 H1 a b _ q => q _ G1 H1 (Stp.refl b.i) .non

/-- two operands -/
theorem e_two (ha : EvD Γ ta σ G d) (hb : EvD Γ tb σ G e) {G1 H1 : Hp} (a : Same G G1) (b : Cn Γ G1 H1) {Q : VK}
    (q : ∀ x y G2 H2, Stp [] G1 H1 G2 H2 → Da G2 x d → Da G2 y e → r x y H2 Q) : tOp r ta tb σ H1 Q :=
  ha G1 H1 a b _ fun x G2 H2 s1 dx => hb G2 H2 (a.trans s1.g) (b.up s1) _ fun y G3 H3 s2 dy => q x y G3 H3 (s1.trans s2) (dx.mono s2.g) dy
theorem e_I0 {f : Int → Int → Int} {i j : Int} (ha : EvD Γ ta σ G (.int i)) (hb : EvD Γ tb σ G (.int j)) : EvD Γ (tOp (rI0 fun i j => .int (f i j)) ta tb) σ G (.int (f i j)) := fun G1 H1 a b Q q =>
  e_two ha hb a b fun x y G2 H2 s dx dy => ⟨i, j, dx.inv_int, dy.inv_int, q _ G2 H2 s (.int _)⟩
theorem e_I {C : Int → Int → Prop} {f : Int → Int → Int} {i j : Int} (ha : EvD Γ ta σ G (.int i)) (hb : EvD Γ tb σ G (.int j)) (hc : C i j) : EvD Γ (tOp (rI C fun i j => .int (f i j)) ta tb) σ G (.int (f i j)) := fun G1 H1 a b Q q =>
  e_two ha hb a b fun x y G2 H2 s dx dy => ⟨i, j, dx.inv_int, dy.inv_int, hc, q _ G2 H2 s (.int _)⟩
theorem e_B0 {f : Int → Int → Bool} {i j : Int} (ha : EvD Γ ta σ G (.int i)) (hb : EvD Γ tb σ G (.int j)) : EvD Γ (tOp (rI0 fun i j => .bl (f i j)) ta tb) σ G (.bool (f i j)) := fun G1 H1 a b Q q =>
  e_two ha hb a b fun x y G2 H2 s dx dy => ⟨i, j, dx.inv_int, dy.inv_int, q _ G2 H2 s (.bl _)⟩
theorem e_neg {i : Int} (ha : EvD Γ ta σ G (.int i)) : EvD Γ (tUn (rU fun i => .int (-i)) ta) σ G (.int (-i)) := fun G1 H1 a b Q q =>
  ha G1 H1 a b _ fun x G2 H2 s dx => ⟨i, dx.inv_int, q _ G2 H2 s (.int _)⟩
theorem dec_ii {i j : Int} : decide (V.int i = V.int j) = decide (i = j) := by
  by_cases h : i = j
  · subst h; simp
  · rw [decide_eq_false h, decide_eq_false fun z => h (V.int.inj z)]
theorem dec_ss {i j : Str} : decide (V.str i = V.str j) = decide (i = j) := by
  by_cases h : i = j
  · subst h; simp
  · rw [decide_eq_false h, decide_eq_false fun z => h (V.str.inj z)]
theorem e_eqI {i j : Int} (ha : EvD Γ ta σ G (.int i)) (hb : EvD Γ tb σ G (.int j)) : EvD Γ (tOp rEq ta tb) σ G (.bool (decide (i = j))) := fun G1 H1 a b Q q =>
  e_two ha hb a b fun x y G2 H2 s dx dy => by
    cases dx.inv_int; cases dy.inv_int
    exact ⟨rfl, by rw [dec_ii]; exact q _ G2 H2 s (.bl _)⟩
theorem e_neI {i j : Int} (ha : EvD Γ ta σ G (.int i)) (hb : EvD Γ tb σ G (.int j)) : EvD Γ (tOp rNe ta tb) σ G (.bool (!decide (i = j))) := fun G1 H1 a b Q q =>
  e_two ha hb a b fun x y G2 H2 s dx dy => by
    cases dx.inv_int; cases dy.inv_int
    exact ⟨rfl, by rw [dec_ii]; exact q _ G2 H2 s (.bl _)⟩
theorem e_eqS {i j : Str} (ha : EvD Γ ta σ G (.str i)) (hb : EvD Γ tb σ G (.str j)) : EvD Γ (tOp rEq ta tb) σ G (.bool (decide (i = j))) := fun G1 H1 a b Q q =>
  e_two ha hb a b fun x y G2 H2 s dx dy => by
    cases dx.inv_str; cases dy.inv_str
    exact ⟨rfl, by rw [dec_ss]; exact q _ G2 H2 s (.bl _)⟩
theorem e_neS {i j : Str} (ha : EvD Γ ta σ G (.str i)) (hb : EvD Γ tb σ G (.str j)) : EvD Γ (tOp rNe ta tb) σ G (.bool (!decide (i = j))) := fun G1 H1 a b Q q =>
  e_two ha hb a b fun x y G2 H2 s dx dy => by
    cases dx.inv_str; cases dy.inv_str
    exact ⟨rfl, by rw [dec_ss]; exact q _ G2 H2 s (.bl _)⟩
theorem e_eqD (ha : EvD Γ ta σ G d) (hb : EvD Γ tb σ G e) (sd : SeqAt.shaped d = true) (se : SeqAt.shaped e = true) : EvD Γ (tOp (rEqD K) ta tb) σ G (.bool (PyData.eqv d e)) := fun G1 H1 a b Q q =>
  e_two ha hb a b fun x y G2 H2 s dx dy => ⟨d, e, (dx.mono s.i).dp K, (dy.mono s.i).dp K, sd, se, q _ G2 H2 s (.bl _)⟩
theorem e_neD (ha : EvD Γ ta σ G d) (hb : EvD Γ tb σ G e) (sd : SeqAt.shaped d = true) (se : SeqAt.shaped e = true) : EvD Γ (tOp (rNeD K) ta tb) σ G (.bool (!PyData.eqv d e)) := fun G1 H1 a b Q q =>
  e_two ha hb a b fun x y G2 H2 s dx dy => ⟨d, e, (dx.mono s.i).dp K, (dy.mono s.i).dp K, sd, se, q _ G2 H2 s (.bl _)⟩
def isNone : PyData → Bool
  | .none => true
  | _ => false
theorem Da.dec_non (h : Da G x d) : decide (x = .non) = isNone d := by
  cases h <;> first | rfl | exact decide_eq_false fun z => nomatch z
def rIsN : R2 := fun x y H Q => y = .non ∧ Q (.bl (decide (x = .non))) H
def rNotN : R2 := fun x y H Q => y = .non ∧ Q (.bl (!decide (x = .non))) H
theorem o_isN {X : Cx} : OpR X (compareOp .Is) rIsN := op_isN
theorem o_notN {X : Cx} : OpR X (compareOp .IsNot) rNotN := op_notN
theorem e_isN (ha : EvD Γ ta σ G d) : EvD Γ (tOp rIsN ta (tC .non)) σ G (.bool (isNone d)) := fun G1 H1 a b Q q =>
  ha G1 H1 a b _ fun x G2 H2 s dx => ⟨rfl, by rw [dx.dec_non]; exact q _ G2 H2 s (.bl _)⟩
theorem e_notN (ha : EvD Γ ta σ G d) : EvD Γ (tOp rNotN ta (tC .non)) σ G (.bool (!isNone d)) := fun G1 H1 a b Q q =>
  ha G1 H1 a b _ fun x G2 H2 s dx => ⟨rfl, by rw [dx.dec_non]; exact q _ G2 H2 s (.bl _)⟩

/-! ### subscripts -/
theorem e_ixT {j : Nat} (ha : EvD Γ ta σ G (.tuple ds)) (hb : EvD Γ tb σ G (.int (j : Int))) (hj : ds[j]? = some d) : EvD Γ (tOp (rIxT K) ta tb) σ G d := fun G1 H1 a b Q q =>
  e_two ha hb a b fun x y G2 H2 s dx dy => by
    obtain ⟨p, xs, rfl, hp, hs⟩ := dx.inv_tup
    obtain ⟨w, hw, dw⟩ := hs.get hj
    exact ⟨p, xs, (j : Int), w, rfl, dy.inv_int, SqT.of (s.i _ _ hp), atI_nat hw, q w G2 H2 s dw⟩
theorem e_ixL {j : Nat} (ha : EvD Γ ta σ G (.list ds)) (hb : EvD Γ tb σ G (.int (j : Int))) (hj : ds[j]? = some d) : EvD Γ (tOp (rIxL K) ta tb) σ G d := fun G1 H1 a b Q q =>
  e_two ha hb a b fun x y G2 H2 s dx dy => by
    obtain ⟨p, xs, rfl, hp, hs⟩ := dx.inv_lst
    obtain ⟨w, hw, dw⟩ := hs.get hj
    exact ⟨p, xs, (j : Int), w, rfl, dy.inv_int, SqL.of (s.i _ _ hp), atI_nat hw, q w G2 H2 s dw⟩
/-- the last item -/
theorem e_ixLast (ha : EvD Γ ta σ G (.list ds)) (hb : EvD Γ tb σ G (.int (-1))) (hj : ds[ds.length - 1]? = some d) : EvD Γ (tOp (rIxL K) ta tb) σ G d := fun G1 H1 a b Q q =>
  e_two ha hb a b fun x y G2 H2 s dx dy => by
    obtain ⟨p, xs, rfl, hp, hs⟩ := dx.inv_lst
    obtain ⟨w, hw, dw⟩ := hs.get hj
    refine ⟨p, xs, -1, w, rfl, dy.inv_int, SqL.of (s.i _ _ hp), ?_, q w G2 H2 s dw⟩
    have hl := hs.length
    have hlt : ds.length - 1 < ds.length := (List.getElem?_eq_some_iff.mp hj).1
    have hne : xs ≠ [] := fun z => by subst z; simp at hl; omega
    have e1 : xs = xs.dropLast ++ [xs.getLast hne] := (List.dropLast_concat_getLast hne).symm
    have e2 : xs[ds.length - 1]? = some (xs.getLast hne) := by rw [← hl, ← List.getLast?_eq_getElem?, List.getLast?_eq_getLast hne]
    rw [hw] at e2
    cases e2
    have e3 := atI_last xs.dropLast (xs.getLast hne)
    rw [List.dropLast_concat_getLast hne] at e3
    exact e3
/-! ### displays, calls -/
theorem a_nil : EvA Γ tNil σ G [] := fun G1 H1 a b Q q => q [] G1 H1 (Stp.refl b.i) .nil
theorem a_cons {tr : TA} (h : EvD Γ ta σ G d) (hr : EvA Γ tr σ G ds) : EvA Γ (tCons ta tr) σ G (d :: ds) := fun G1 H1 a b Q q =>
  h G1 H1 a b _ fun x G2 H2 s1 dx => hr G2 H2 (a.trans s1.g) (b.up s1) _ fun xs G3 H3 s2 dxs => q _ G3 H3 (s1.trans s2) (.cons (dx.mono s2.g) dxs)
theorem e_tup {ta : TA} (h : EvA Γ ta σ G ds) (hz : ds.length ≤ sizeLine) : EvD Γ (tTup ta) σ G (.tuple ds) := fun G1 H1 a b Q q =>
  h G1 H1 a b _ fun xs G2 H2 s dxs => ⟨by rw [dxs.length]; exact hz, fun p hp => q _ _ _ (s.trans (Stp.new s.i hp)) (.tup upd_same (dxs.mono (Stp.new (m := []) s.i hp).g))⟩
theorem l_lst {ta : TA} (h : EvA Γ ta σ G ds) (hz : ds.length ≤ sizeLine) : EvL Γ (tLst ta) σ G ds := fun G1 H1 a b Q q =>
  h G1 H1 a b _ fun xs G2 H2 s dxs => ⟨by rw [dxs.length]; exact hz, fun p hp => q p xs G2 _ (s.trans (Stp.newO s.i hp)) (s.free hp) ⟨Same.free s.i hp, upd_same⟩ dxs⟩
/-- a def whose promise is a value of data -/
def SpF {ι : Type} (args : ι → List PyData) (pre : ι → Prop) (res : ι → PyData) : Sp := fun vs H Q _ =>
  ∃ x G, Same G H ∧ Das G vs (args x) ∧ pre x ∧ ∀ v G2 H2, Stp [] G H G2 H2 → Da G2 v (res x) → Q v H2
theorem e_call {ι : Type} {args : ι → List PyData} {pre : ι → Prop} {res : ι → PyData} {E : XK} {ta : TA} (x : ι) (h : EvA Γ ta σ G (args x)) (hp : pre x) : EvD Γ (tCall (SpF args pre res) [] E ta) σ G (res x) := fun G1 H1 a b Q q =>
  h G1 H1 a b _ fun vs G2 H2 s dvs => ⟨x, G2, s.i, by rw [List.append_nil]; exact dvs, hp, fun v G3 H3 s2 dv => q v G3 H3 (s.trans s2) dv⟩
theorem e_cb {rr : List V → Hp → VK → Prop} {ta : TA} (h : EvA Γ ta σ G ds) (hr : ∀ vs G1 H1, Same G G1 → Same G1 H1 → Das G1 vs ds → ∀ Q : VK, (∀ v G2 H2, Stp [] G1 H1 G2 H2 → Da G2 v d → Q v H2) → rr vs H1 Q) : EvD Γ (tCB rr ta) σ G d := fun G1 H1 a b Q q =>
  h G1 H1 a b _ fun vs G2 H2 s dvs => hr vs G2 H2 (a.trans s.g) s.i dvs Q fun v G3 H3 s2 dv => q v G3 H3 (s.trans s2) dv
/-- a built-in's call that makes nothing -/
theorem e_cb0 {rr : List V → Hp → VK → Prop} {ta : TA} (h : EvA Γ ta σ G ds) (hr : ∀ vs G1 H1, Same G1 H1 → Das G1 vs ds → ∀ Q : VK, (∀ v, Da G1 v d → Q v H1) → rr vs H1 Q) : EvD Γ (tCB rr ta) σ G d :=
  e_cb h fun vs G1 H1 _ b dvs Q q => hr vs G1 H1 b dvs Q fun v dv => q v G1 H1 (Stp.refl b) dv
theorem Das.inv1 (h : Das G vs [d]) : ∃ v, vs = [v] ∧ Da G v d := by
  cases h with
  | cons h1 h2 => cases h2; exact ⟨_, rfl, h1⟩
theorem Das.inv2 (h : Das G vs [d, e]) : ∃ v w, vs = [v, w] ∧ Da G v d ∧ Da G w e := by
  cases h with
  | cons h1 h2 =>
    obtain ⟨w, rfl, h3⟩ := h2.inv1
    exact ⟨_, _, rfl, h1, h3⟩
def rLen (K : PySem.W.Frag) : List V → Hp → VK → Prop := fun xs H Q => ∃ p ys, xs = [.ref p] ∧ (SqL K H p ys ∨ SqT K H p ys) ∧ Q (.int ys.length) H
theorem c_len {X : Cx} : CallR X (.builtin "len") (rLen X.K) := call_len_seq
theorem e_lenL {n : Nat} (h : EvD Γ ta σ G (.list ds)) (hn : ds.length = n) : EvD Γ (tCB (rLen K) (tCons ta tNil)) σ G (.int (n : Int)) := e_cb0 (a_cons h a_nil) fun vs G1 H1 b dvs Q q => by
  obtain ⟨v, rfl, dv⟩ := dvs.inv1
  obtain ⟨p, xs, rfl, hp, hs⟩ := dv.inv_lst
  exact ⟨p, xs, rfl, .inl (SqL.of (b _ _ hp)), by rw [hs.length, hn]; exact q _ (.int _)⟩
theorem e_lenT {n : Nat} (h : EvD Γ ta σ G (.tuple ds)) (hn : ds.length = n) : EvD Γ (tCB (rLen K) (tCons ta tNil)) σ G (.int (n : Int)) := e_cb0 (a_cons h a_nil) fun vs G1 H1 b dvs Q q => by
  obtain ⟨v, rfl, dv⟩ := dvs.inv1
  obtain ⟨p, xs, rfl, hp, hs⟩ := dv.inv_tup
  exact ⟨p, xs, rfl, .inr (SqT.of (b _ _ hp)), by rw [hs.length, hn]; exact q _ (.int _)⟩
def rAbs : List V → Hp → VK → Prop := fun xs H Q => ∃ i, xs = [.int i] ∧ Q (.int (if i < 0 then -i else i)) H
theorem c_abs {X : Cx} : CallR X (.builtin "abs") rAbs := call_abs
theorem abs_eq (i : Int) : (if i < 0 then -i else i) = ((i.natAbs : Nat) : Int) := by split <;> omega
theorem e_abs {i : Int} (h : EvD Γ ta σ G (.int i)) : EvD Γ (tCB rAbs (tCons ta tNil)) σ G (.int ((i.natAbs : Nat) : Int)) := e_cb0 (a_cons h a_nil) fun vs G1 H1 b dvs Q q => by
  obtain ⟨v, rfl, dv⟩ := dvs.inv1
  cases dv.inv_int
  exact ⟨i, rfl, by rw [abs_eq]; exact q _ (.int _)⟩
def rInt1 : List V → Hp → VK → Prop := fun xs H Q => (∃ i, xs = [.int i] ∧ Q (.int i) H) ∨ ∃ k, xs = [.bl k] ∧ Q (.int (if k then 1 else 0)) H
theorem c_int {X : Cx} : CallR X (.type "int") rInt1 := call_int1
theorem e_toInt {i : Int} (h : EvD Γ ta σ G (.int i)) : EvD Γ (tCB rInt1 (tCons ta tNil)) σ G (.int i) := e_cb0 (a_cons h a_nil) fun vs G1 H1 b dvs Q q => by
  obtain ⟨v, rfl, dv⟩ := dvs.inv1
  cases dv.inv_int
  exact .inl ⟨i, rfl, q _ (.int _)⟩
def rMax2 : List V → Hp → VK → Prop := fun xs H Q => ∃ i j, xs = [.int i, .int j] ∧ Q (.int (if j > i then j else i)) H
theorem c_max2 {X : Cx} (hc : X.calm = true) : CallR X (.builtin "max") rMax2 := call_max2 hc
theorem max_eq (i j : Int) : (if j > i then j else i) = max i j := by rw [Int.max_def]; split <;> split <;> omega
theorem e_max2 {i j : Int} (h : EvD Γ ta σ G (.int i)) (h2 : EvD Γ tb σ G (.int j)) : EvD Γ (tCB rMax2 (tCons ta (tCons tb tNil))) σ G (.int (max i j)) := e_cb0 (a_cons h (a_cons h2 a_nil)) fun vs G1 H1 b dvs Q q => by
  obtain ⟨v, w, rfl, dv, dw⟩ := dvs.inv2
  cases dv.inv_int
  cases dw.inv_int
  exact ⟨i, j, rfl, by rw [max_eq]; exact q _ (.int _)⟩
def rMin2 : List V → Hp → VK → Prop := fun xs H Q => ∃ i j, xs = [.int i, .int j] ∧ Q (.int (if j < i then j else i)) H
theorem c_min2 {X : Cx} (hc : X.calm = true) : CallR X (.builtin "min") rMin2 := call_min2 hc
theorem min_eq (i j : Int) : (if j < i then j else i) = min i j := by rw [Int.min_def]; split <;> split <;> omega
theorem e_min2 {i j : Int} (h : EvD Γ ta σ G (.int i)) (h2 : EvD Γ tb σ G (.int j)) : EvD Γ (tCB rMin2 (tCons ta (tCons tb tNil))) σ G (.int (min i j)) := e_cb0 (a_cons h (a_cons h2 a_nil)) fun vs G1 H1 b dvs Q q => by
  obtain ⟨v, w, rfl, dv, dw⟩ := dvs.inv2
  cases dv.inv_int
  cases dw.inv_int
  exact ⟨i, j, rfl, by rw [min_eq]; exact q _ (.int _)⟩
theorem e_gcd {i j : Int} (h : EvD Γ ta σ G (.int i)) (h2 : EvD Γ tb σ G (.int j)) : EvD Γ (tCB rGcd (tCons ta (tCons tb tNil))) σ G (.int ((Nat.gcd i.natAbs j.natAbs : Nat) : Int)) := e_cb0 (a_cons h (a_cons h2 a_nil)) fun vs G1 H1 b dvs Q q => by
  obtain ⟨v, w, rfl, dv, dw⟩ := dvs.inv2
  cases dv.inv_int
  cases dw.inv_int
  exact ⟨i, j, rfl, q _ (.int _)⟩
theorem e_any {bs : List Bool} (h : EvD Γ ta σ G (.list (bs.map PyData.bool))) : EvD Γ (tCB (rAny K) (tCons ta tNil)) σ G (.bool (bs.any id)) := e_cb0 (a_cons h a_nil) fun vs G1 H1 b dvs Q q => by
  obtain ⟨v, rfl, dv⟩ := dvs.inv1
  obtain ⟨p, xs, rfl, hp, hs⟩ := dv.inv_lst
  cases hs.inv_bools
  exact ⟨p, bs, rfl, SqL.of (b _ _ hp), q _ (.bl _)⟩
theorem e_all {bs : List Bool} (h : EvD Γ ta σ G (.list (bs.map PyData.bool))) : EvD Γ (tCB (rAll K) (tCons ta tNil)) σ G (.bool (bs.all id)) := e_cb0 (a_cons h a_nil) fun vs G1 H1 b dvs Q q => by
  obtain ⟨v, rfl, dv⟩ := dvs.inv1
  obtain ⟨p, xs, rfl, hp, hs⟩ := dv.inv_lst
  cases hs.inv_bools
  exact ⟨p, bs, rfl, SqL.of (b _ _ hp), q _ (.bl _)⟩
theorem e_sum {ns : List Int} (h : EvD Γ ta σ G (.list (ns.map PyData.int))) : EvD Γ (tCB (rSum K) (tCons ta tNil)) σ G (.int ns.sum) := e_cb0 (a_cons h a_nil) fun vs G1 H1 b dvs Q q => by
  obtain ⟨v, rfl, dv⟩ := dvs.inv1
  obtain ⟨p, xs, rfl, hp, hs⟩ := dv.inv_lst
  cases hs.inv_ints
  exact ⟨p, ns, rfl, SqL.of (b _ _ hp), q _ (.int _)⟩
/-- the greatest of some ints -/
def IsMax (ns : List Int) (m : Int) : Prop := m ∈ ns ∧ ∀ y, y ∈ ns → y ≤ m
theorem IsMax.unique {ns : List Int} {a b : Int} (h : IsMax ns a) (h' : IsMax ns b) : a = b := Int.le_antisymm (h'.2 a h.1) (h.2 b h'.1)
theorem e_max {ns : List Int} {m : Int} (h : EvD Γ ta σ G (.list (ns.map PyData.int))) (hm : IsMax ns m) : EvD Γ (tCB (rMax K) (tCons ta tNil)) σ G (.int m) := e_cb0 (a_cons h a_nil) fun vs G1 H1 b dvs Q q => by
  obtain ⟨v, rfl, dv⟩ := dvs.inv1
  obtain ⟨p, xs, rfl, hp, hs⟩ := dv.inv_lst
  cases hs.inv_ints
  refine ⟨p, ns, rfl, SqL.of (b _ _ hp), List.length_pos_of_mem hm.1, fun k h1 h2 => ?_⟩
  cases (IsMax.unique ⟨h1, h2⟩ hm)
  exact q _ (.int _)
def rTup (K : PySem.W.Frag) : List V → Hp → VK → Prop := fun xs H Q => ∃ p ys, xs = [.ref p] ∧ ((SqL K H p ys ∧ ∀ l, H l = none → Q (.ref l) (upd H l (.tup ys))) ∨ (SqT K H p ys ∧ Q (.ref p) H))
theorem c_tup {X : Cx} : CallR X (.type "tuple") (rTup X.K) := call_tuple_of
theorem e_tupleL (h : EvD Γ ta σ G (.list ds)) : EvD Γ (tCB (rTup K) (tCons ta tNil)) σ G (.tuple ds) := e_cb (a_cons h a_nil) fun vs G1 H1 _ b dvs Q q => by
  obtain ⟨v, rfl, dv⟩ := dvs.inv1
  obtain ⟨p, xs, rfl, hp, hs⟩ := dv.inv_lst
  exact ⟨p, xs, rfl, .inl ⟨SqL.of (b _ _ hp), fun l hl => q _ _ _ (Stp.new b hl) (.tup upd_same (hs.mono (Stp.new (m := []) b hl).g))⟩⟩
def rList (K : PySem.W.Frag) : List V → Hp → VK → Prop := fun xs H Q => ∃ p ys, xs = [.ref p] ∧ (SqL K H p ys ∨ SqT K H p ys) ∧ ∀ l, H l = none → Q (.ref l) (upd H l (.lst ys))
theorem c_list {X : Cx} : CallR X (.type "list") (rList X.K) := call_list_of
theorem l_cb {rr : List V → Hp → VK → Prop} {ta : TA} (h : EvA Γ ta σ G ds) (hr : ∀ vs G1 H1, Same G1 H1 → Das G1 vs ds → ∀ Q : VK, (∀ p xs, H1 p = none → Das G1 xs es → Q (.ref p) (upd H1 p (.lst xs))) → rr vs H1 Q) : EvL Γ (tCB rr ta) σ G es := fun G1 H1 a b Q q =>
  h G1 H1 a b _ fun vs G2 H2 s dvs => hr vs G2 H2 s.i dvs Q fun p xs hp dx => q p xs G2 _ (s.trans (Stp.newO s.i hp)) (s.free hp) ⟨Same.free s.i hp, upd_same⟩ dx
theorem l_listL (h : EvD Γ ta σ G (.list ds)) : EvL Γ (tCB (rList K) (tCons ta tNil)) σ G ds := l_cb (a_cons h a_nil) fun vs G1 H1 b dvs Q q => by
  obtain ⟨v, rfl, dv⟩ := dvs.inv1
  obtain ⟨p, xs, rfl, hp, hs⟩ := dv.inv_lst
  exact ⟨p, xs, rfl, .inl (SqL.of (b _ _ hp)), fun l hl => q l xs hl hs⟩
theorem l_listT (h : EvD Γ ta σ G (.tuple ds)) : EvL Γ (tCB (rList K) (tCons ta tNil)) σ G ds := l_cb (a_cons h a_nil) fun vs G1 H1 b dvs Q q => by
  obtain ⟨v, rfl, dv⟩ := dvs.inv1
  obtain ⟨p, xs, rfl, hp, hs⟩ := dv.inv_tup
  exact ⟨p, xs, rfl, .inr (SqT.of (b _ _ hp)), fun l hl => q l xs hl hs⟩
/-- sorted, of ints -/
theorem l_sorted {ns ms : List Int} (h : EvD Γ ta σ G (.list (ns.map PyData.int))) (h64 : ns.length < 64) (hp : ms.Perm ns) (hs : ms.Pairwise (· ≤ ·)) : EvL Γ (tCB (rSorted K) (tCons ta tNil)) σ G (ms.map PyData.int) := l_cb (a_cons h a_nil) fun vs G1 H1 b dvs Q q => by
  obtain ⟨v, rfl, dv⟩ := dvs.inv1
  obtain ⟨p, xs, rfl, hp', hs'⟩ := dv.inv_lst
  cases hs'.inv_ints
  refine ⟨p, ns, rfl, SqL.of (b _ _ hp'), h64, fun ns' l p1 p2 hl => ?_⟩
  have e : ns' = ms := List.Perm.eq_of_pairwise (le := (· ≤ ·)) (fun a b _ _ h1 h2 => Int.le_antisymm h1 h2) p2 hs (p1.trans hp.symm)
  subst e
  exact q l _ hl (das_ints _)

/-! ### tuples and lists put together -/
theorem e_catT (ha : EvD Γ ta σ G (.tuple ds)) (hb : EvD Γ tb σ G (.tuple es)) (hz : ds.length + es.length ≤ sizeLine) : EvD Γ (tOp (rCatA K) ta tb) σ G (.tuple (ds ++ es)) := fun G1 H1 a b Q q =>
  e_two ha hb a b fun x y G2 H2 s dx dy => by
    obtain ⟨p, xs, rfl, hp, hs⟩ := dx.inv_tup
    obtain ⟨p', ys, rfl, hp', hs'⟩ := dy.inv_tup
    refine ⟨p, p', xs, ys, rfl, rfl, SqT.of (s.i _ _ hp), SqT.of (s.i _ _ hp'), by rw [hs.length, hs'.length]; exact hz, fun z => ?_, fun _ z => ?_, fun _ _ l hl => ?_⟩
    · subst z
      cases hs
      exact q _ G2 H2 s (.tup hp' hs')
    · subst z
      cases hs'
      rw [List.append_nil] at q
      exact q _ G2 H2 s (.tup hp hs)
    · exact q _ _ _ (s.trans (Stp.new s.i hl)) (.tup upd_same ((hs.append hs').mono (Stp.new (m := []) s.i hl).g))
theorem l_cat (ha : EvD Γ ta σ G (.list ds)) (hb : EvD Γ tb σ G (.list es)) (hz : ds.length + es.length ≤ sizeLine) : EvL Γ (tOp rCat ta tb) σ G (ds ++ es) := fun G1 H1 a b Q q =>
  e_two ha hb a b fun x y G2 H2 s dx dy => by
    obtain ⟨p, xs, rfl, hp, hs⟩ := dx.inv_lst
    obtain ⟨p', ys, rfl, hp', hs'⟩ := dy.inv_lst
    exact ⟨p, p', xs, ys, rfl, rfl, s.i _ _ hp, s.i _ _ hp', by rw [hs.length, hs'.length]; exact hz, fun l hl =>
      q l _ G2 _ (s.trans (Stp.newO s.i hl)) (s.free hl) ⟨Same.free s.i hl, upd_same⟩ (hs.append hs')⟩
theorem o_none : EvO Γ tNoPart σ G none := fun G1 H1 a b Q q => q G1 H1 (Stp.refl b.i)
theorem o_some {i : Int} (h : EvD Γ te σ G (.int i)) : EvO Γ (tPart te) σ G (some i) := fun G1 H1 a b Q q => h G1 H1 a b _ fun v G2 H2 s dv => ⟨i, dv.inv_int, q G2 H2 s⟩
theorem Das.cut {lo hi : Option Int} {vs : List V} (h : Das G vs ds) : Das G (cutV vs lo hi) ((ds.drop (HT.sIx ds.length 0 lo)).take (HT.sIx ds.length ds.length hi - HT.sIx ds.length 0 lo)) := by
  have e : cutV vs lo hi = (vs.drop (HT.sIx vs.length 0 lo)).take (HT.sIx vs.length vs.length hi - HT.sIx vs.length 0 lo) := rfl
  rw [e, h.length]
  exact (h.drop _).take _
theorem Das.nth {n : Nat} {vs : List V} (h : Das G vs ds) : cutV vs none (some (n : Int)) = vs.take n := by
  have e : cutV vs none (some (n : Int)) = (vs.drop (HT.sIx vs.length 0 none)).take (HT.sIx vs.length vs.length (some (n : Int)) - HT.sIx vs.length 0 none) := rfl
  rw [e, HT.sIx_none, HT.sIx_nat, List.drop_zero, Nat.sub_zero]
  by_cases hn : n ≤ vs.length
  · rw [Nat.min_eq_left hn]
  · rw [Nat.min_eq_right (by omega), List.take_of_length_le (Nat.le_refl _), List.take_of_length_le (by omega)]
/-- t[:n] -/
theorem e_slT {tl : TO} {n : Nat} (ha : EvD Γ ta σ G (.tuple ds)) (hl : EvO Γ tl σ G (some (n : Int))) : EvD Γ (tSl (rSlA K) ta tNoPart tl) σ G (.tuple (ds.take n)) := fun G1 H1 a b Q q =>
  ha G1 H1 a b _ fun x G2 H2 s dx => hl G2 H2 (a.trans s.g) (b.up s) _ fun G3 H3 s3 => by
    obtain ⟨p, xs, rfl, hp, hs⟩ := (s3.da dx).inv_tup
    refine ⟨p, xs, rfl, SqT.of (s3.i _ _ hp), fun z => ?_, fun _ l hl => ?_⟩
    · have hn : xs.length ≤ n := by
        have z2 := z.2
        rw [HT.sIx_nat] at z2
        omega
      rw [List.take_of_length_le (by rw [← hs.length]; exact hn)] at q
      exact q _ G3 H3 (s.trans s3) (.tup hp hs)
    · rw [hs.nth]
      exact q _ _ _ ((s.trans s3).trans (Stp.new s3.i hl)) (.tup upd_same ((hs.take n).mono (Stp.new (m := []) s3.i hl).g))
/-- t[n:] -/
theorem e_slTd {tl : TO} {n : Nat} (ha : EvD Γ ta σ G (.tuple ds)) (hl : EvO Γ tl σ G (some (n : Int))) : EvD Γ (tSl (rSlA K) ta tl tNoPart) σ G (.tuple (ds.drop n)) := fun G1 H1 a b Q q =>
  ha G1 H1 a b _ fun x G2 H2 s dx => hl G2 H2 (a.trans s.g) (b.up s) _ fun G3 H3 s3 => by
    obtain ⟨p, xs, rfl, hp, hs⟩ := (s3.da dx).inv_tup
    have e : cutV xs (some (n : Int)) none = xs.drop n := by
      have e : cutV xs (some (n : Int)) none = (xs.drop (HT.sIx xs.length 0 (some (n : Int)))).take (HT.sIx xs.length xs.length none - HT.sIx xs.length 0 (some (n : Int))) := rfl
      rw [e, HT.sIx_none, HT.sIx_nat]
      by_cases hn : n ≤ xs.length
      · rw [Nat.min_eq_left hn, List.take_of_length_le (by rw [List.length_drop]; omega)]
      · rw [Nat.min_eq_right (by omega), List.drop_of_length_le (Nat.le_refl _), List.drop_of_length_le (by omega)]
        simp
    refine ⟨p, xs, rfl, SqT.of (s3.i _ _ hp), fun z => ?_, fun _ l hl => ?_⟩
    · have z1 := z.1
      rw [HT.sIx_nat] at z1
      have z2 : n = 0 ∨ xs.length = 0 := by omega
      have e2 : ds.drop n = ds := by
        rcases z2 with z2 | z2
        · rw [z2, List.drop_zero]
        · have : ds = [] := List.eq_nil_of_length_eq_zero (by rw [← hs.length]; exact z2)
          rw [this, List.drop_nil]
      rw [e2] at q
      exact q _ G3 H3 (s.trans s3) (.tup hp hs)
    · rw [e]
      exact q _ _ _ ((s.trans s3).trans (Stp.new s3.i hl)) (.tup upd_same ((hs.drop n).mono (Stp.new (m := []) s3.i hl).g))
/-- xs[:n] -/
theorem l_slL {tl : TO} {n : Nat} (ha : EvD Γ ta σ G (.list ds)) (hl : EvO Γ tl σ G (some (n : Int))) : EvL Γ (tSl (rSlL K) ta tNoPart tl) σ G (ds.take n) := fun G1 H1 a b Q q =>
  ha G1 H1 a b _ fun x G2 H2 s dx => hl G2 H2 (a.trans s.g) (b.up s) _ fun G3 H3 s3 => by
    obtain ⟨p, xs, rfl, hp, hs⟩ := (s3.da dx).inv_lst
    refine ⟨p, xs, rfl, SqL.of (s3.i _ _ hp), fun l hl => ?_⟩
    rw [hs.nth]
    exact q l _ G3 _ ((s.trans s3).trans (Stp.newO s3.i hl)) ((s.trans s3).free hl) ⟨Same.free s3.i hl, upd_same⟩ (hs.take n)
theorem das_replicate {v : V} (h : Da G v d) : ∀ n, Das G (List.replicate n v) (List.replicate n d)
  | 0 => .nil
  | n + 1 => .cons h (das_replicate h n)
theorem inV_ints {i : Int} : ∀ {ns : List Int}, inV (.int i) (ns.map V.int) = decide (i ∈ ns)
  | [] => by simp [inV]
  | n :: ns => by
    have ih := inV_ints (i := i) (ns := ns)
    have e : inV (.int i) ((n :: ns).map V.int) = (eqV (.int n) (.int i) || inV (.int i) (ns.map V.int)) := by
      first | rfl | simp [inV, List.any_cons]
    rw [e, ih]
    by_cases h : i = n
    · subst h
      simp [eqV]
    · have h2 : ¬ n = i := fun z => h z.symm
      simp [eqV, h, h2]
theorem flat_ints : ∀ ns : List Int, (ns.map V.int).all flatV = true
  | [] => rfl
  | n :: ns => by
    rw [List.map_cons, List.all_cons, flat_ints ns]
    rfl
theorem e_inL {neg : Bool} {i : Int} {ns : List Int} (ha : EvD Γ ta σ G (.int i)) (hb : EvD Γ tb σ G (.list (ns.map PyData.int))) : EvD Γ (tOp (rIn K neg) ta tb) σ G (.bool (if neg then !decide (i ∈ ns) else decide (i ∈ ns))) := fun G1 H1 a b Q q =>
  e_two ha hb a b fun x y G2 H2 s dx dy => by
    obtain ⟨p, xs, rfl, hp, hs⟩ := dy.inv_lst
    cases hs.inv_ints
    cases dx.inv_int
    exact ⟨p, _, rfl, .inl (SqL.of (s.i _ _ hp)), rfl, flat_ints ns, by rw [inV_ints]; exact q _ G2 H2 s (.bl _)⟩
theorem e_inT {neg : Bool} {i : Int} {ns : List Int} (ha : EvD Γ ta σ G (.int i)) (hb : EvD Γ tb σ G (.tuple (ns.map PyData.int))) : EvD Γ (tOp (rIn K neg) ta tb) σ G (.bool (if neg then !decide (i ∈ ns) else decide (i ∈ ns))) := fun G1 H1 a b Q q =>
  e_two ha hb a b fun x y G2 H2 s dx dy => by
    obtain ⟨p, xs, rfl, hp, hs⟩ := dy.inv_tup
    cases hs.inv_ints
    cases dx.inv_int
    exact ⟨p, _, rfl, .inr (SqT.of (s.i _ _ hp)), rfl, flat_ints ns, by rw [inV_ints]; exact q _ G2 H2 s (.bl _)⟩

/-! ### tests -/
theorem b_test {b : Bool} (h : EvD Γ te σ G (.bool b)) : EvB Γ (tTest te) σ G b := fun G1 H1 a c Q q => h G1 H1 a c _ fun v G2 H2 s dv => ⟨b, dv.inv_bl, q G2 H2 s⟩
theorem b_B {b : Bool} (h : EvD Γ te σ G (.bool b)) : EvB Γ (tB te) σ G b := fun G1 H1 a c Q q => h G1 H1 a c _ fun v G2 H2 s dv => ⟨b, dv.inv_bl, q G2 H2 s⟩
theorem b_not {b : Bool} (h : EvB Γ t σ G b) : EvB Γ (tNot t) σ G (!b) := fun G1 H1 a c Q q => h G1 H1 a c _ fun G2 H2 s => q G2 H2 s
theorem b_yes : EvB Γ tYes σ G true := fun G1 H1 a c Q q => q G1 H1 (Stp.refl c.i)
theorem b_and {p k : Bool} (h1 : EvB Γ t σ G p) (h2 : p = true → EvB Γ u σ G k) : EvB Γ (tAnd t u) σ G (p && k) := fun G1 H1 a c Q q => h1 G1 H1 a c _ fun G2 H2 s => by
  cases p with
  | true =>
    show u σ H2 Q
    exact h2 rfl G2 H2 (a.trans s.g) (c.up s) _ fun G3 H3 s3 => q G3 H3 (s.trans s3)
  | false =>
    show Q false H2
    exact q G2 H2 s
theorem b_or {p k : Bool} (h1 : EvB Γ t σ G p) (h2 : p = false → EvB Γ u σ G k) : EvB Γ (tOr t u) σ G (p || k) := fun G1 H1 a c Q q => h1 G1 H1 a c _ fun G2 H2 s => by
  cases p with
  | true =>
    show Q true H2
    exact q G2 H2 s
  | false =>
    show u σ H2 Q
    exact h2 rfl G2 H2 (a.trans s.g) (c.up s) _ fun G3 H3 s3 => q G3 H3 (s.trans s3)
theorem e_if {b : Bool} (h : EvB Γ t σ G b) (h1 : b = true → EvD Γ ta σ G d) (h2 : b = false → EvD Γ tb σ G d) : EvD Γ (tIf t ta tb) σ G d := fun G1 H1 a c Q q => h G1 H1 a c _ fun G2 H2 s => by
  cases b with
  | true =>
    show ta σ H2 Q
    exact h1 rfl G2 H2 (a.trans s.g) (c.up s) _ fun v G3 H3 s3 dv => q v G3 H3 (s.trans s3) dv
  | false =>
    show tb σ H2 Q
    exact h2 rfl G2 H2 (a.trans s.g) (c.up s) _ fun v G3 H3 s3 dv => q v G3 H3 (s.trans s3) dv
theorem e_andV {p k : Bool} (h1 : EvD Γ ta σ G (.bool p)) (h2 : p = true → EvD Γ tb σ G (.bool k)) : EvD Γ (tAndV ta tb) σ G (.bool (p && k)) := fun G1 H1 a c Q q => h1 G1 H1 a c _ fun v G2 H2 s dv => ⟨p, dv.inv_bl, by
  cases p with
  | true =>
    show tb σ H2 Q
    exact h2 rfl G2 H2 (a.trans s.g) (c.up s) _ fun v G3 H3 s3 dv => q v G3 H3 (s.trans s3) dv
  | false =>
    show Q (.bl false) H2
    exact q _ G2 H2 s (.bl _)⟩
theorem e_orV {p k : Bool} (h1 : EvD Γ ta σ G (.bool p)) (h2 : p = false → EvD Γ tb σ G (.bool k)) : EvD Γ (tOrV ta tb) σ G (.bool (p || k)) := fun G1 H1 a c Q q => h1 G1 H1 a c _ fun v G2 H2 s dv => ⟨p, dv.inv_bl, by
  cases p with
  | true =>
    show Q (.bl true) H2
    exact q _ G2 H2 s (.bl _)
  | false =>
    show tb σ H2 Q
    exact h2 rfl G2 H2 (a.trans s.g) (c.up s) _ fun v G3 H3 s3 dv => q v G3 H3 (s.trans s3) dv⟩
theorem e_notV {p : Bool} (h1 : EvD Γ ta σ G (.bool p)) : EvD Γ (tNotV ta) σ G (.bool (!p)) := fun G1 H1 a c Q q => h1 G1 H1 a c _ fun v G2 H2 s dv => ⟨p, dv.inv_bl, q _ G2 H2 s (.bl _)⟩
/-- 0 <= x < n -/
theorem e_chain {f g : Int → Int → Bool} {i j k : Int} (ha : EvD Γ ta σ G (.int i)) (hb : EvD Γ tb σ G (.int j)) (hc : EvD Γ tc σ G (.int k)) :
    EvD Γ (tChain (rI0 fun i j => .bl (f i j)) (rI0 fun i j => .bl (g i j)) ta tb tc) σ G (.bool (f i j && g j k)) := fun G1 H1 a b Q q =>
  ha G1 H1 a b _ fun x G2 H2 s1 dx => hb G2 H2 (a.trans s1.g) (b.up s1) _ fun y G3 H3 s2 dy => ⟨i, j, dx.inv_int, dy.inv_int, f i j, rfl, by
    cases h : f i j with
    | true =>
      rw [if_pos rfl]
      rw [h] at q
      exact hc G3 H3 (a.trans (s1.g.trans s2.g)) ((b.up s1).up s2) _ fun z G4 H4 s3 dz => ⟨j, k, dy.inv_int, dz.inv_int, q _ G4 H4 ((s1.trans s2).trans s3) (.bl _)⟩
    | false =>
      rw [if_neg Bool.false_ne_true]
      rw [h] at q
      exact q _ G3 H3 (s1.trans s2) (.bl _)⟩

/-! ### what is walked -/
theorem i_list (h : EvD Γ te σ G (.list ds)) : EvI Γ (iList K te) σ G ds := fun G1 H1 a b R q => h G1 H1 a b _ fun v G2 H2 s dv => by
  obtain ⟨p, xs, rfl, hp, hs⟩ := dv.inv_lst
  refine ⟨p, rfl, ⟨xs, SqL.of (s.i _ _ hp)⟩, q _ G2 H2 s ⟨fun G' H' e1 e2 => ⟨xs, SqL.of (e2 _ _ (e1 _ _ hp)), by rw [hs.length]; exact Nat.le_refl _⟩, fun i d G' H' hi e1 e2 => ?_⟩⟩
  obtain ⟨w, hw, dw⟩ := hs.get hi
  have hq : SqL K H' p xs := SqL.of (e2 _ _ (e1 _ _ hp))
  refine ⟨⟨xs, w, hq, hw⟩, fun x H'' y => ?_⟩
  obtain ⟨rfl, y⟩ := y
  have e := y xs hq
  rw [hw] at e
  cases e
  exact ⟨G', Stp.refl e2, dw.mono e1⟩
theorem i_tup (h : EvD Γ te σ G (.tuple ds)) : EvI Γ (iTup K te) σ G ds := fun G1 H1 a b R q => h G1 H1 a b _ fun v G2 H2 s dv => by
  obtain ⟨p, xs, rfl, hp, hs⟩ := dv.inv_tup
  refine ⟨p, rfl, ⟨xs, SqT.of (s.i _ _ hp)⟩, q _ G2 H2 s ⟨fun G' H' e1 e2 => ⟨xs, SqT.of (e2 _ _ (e1 _ _ hp)), by rw [hs.length]; exact Nat.le_refl _⟩, fun i d G' H' hi e1 e2 => ?_⟩⟩
  obtain ⟨w, hw, dw⟩ := hs.get hi
  have hq : SqT K H' p xs := SqT.of (e2 _ _ (e1 _ _ hp))
  refine ⟨⟨xs, w, hq, hw⟩, fun x H'' y => ?_⟩
  obtain ⟨rfl, y⟩ := y
  have e := y xs hq
  rw [hw] at e
  cases e
  exact ⟨G', Stp.refl e2, dw.mono e1⟩
def natD (i : Nat) : PyData := .int (i : Int)
theorem get_range {n i : Nat} {d : PyData} (h : ((List.range n).map natD)[i]? = some d) : i < n ∧ d = natD i := by
  rw [List.getElem?_map] at h
  cases e : (List.range n)[i]? with
  | none => rw [e] at h; cases h
  | some j =>
    rw [e] at h
    obtain ⟨h1, h2⟩ := List.getElem?_eq_some_iff.mp e
    rw [List.getElem_range] at h2
    rw [List.length_range] at h1
    exact ⟨h1, by rw [h2]; exact (Option.some.inj h).symm⟩
theorem i_rng {ta : TA} {n : Nat} (h : EvA Γ ta σ G [.int (n : Int)]) (hn : n ≤ 100000000) : EvI Γ (iRng1 ta) σ G ((List.range n).map natD) := fun G1 H1 a b R q => h G1 H1 a b _ fun vs G2 H2 s dvs => by
  obtain ⟨v, rfl, dv⟩ := dvs.inv1
  cases dv.inv_int
  refine ⟨(n : Int), rfl, by omega, by omega, q _ G2 H2 s ⟨fun G' H' e1 e2 => ?_, fun i d G' H' hi e1 e2 => ?_⟩⟩
  · show (n : Int).toNat ≤ ((List.range n).map natD).length
    rw [List.length_map, List.length_range]
    omega
  · obtain ⟨hi1, rfl⟩ := get_range hi
    refine ⟨by show i < (n : Int).toNat; omega, fun x H'' y => ?_⟩
    obtain ⟨rfl, rfl⟩ := y
    refine ⟨G', Stp.refl e2, ?_⟩
    rw [Int.zero_add]
    exact .int _
def pairD (i : Nat) (d : PyData) : PyData := .tuple [.int (i : Int), d]
end
end N41
/-! GS: owned lists, comprehensions, statements, loops. -/
namespace N41
open PySem PySem.Spec PyProof.Rows L2
section
variable {K : PySem.W.Frag} {Γ : List (Addr × HO)} {σ : L2.St} {G G' H : Hp} {ta tb tc te tx : TE} {t u : TT} {x y z v : V} {r : R2} {d d' e : PyData} {ds ds' es : List PyData} {vs xs : List V} {l : Addr}

/-! ### owned lists read -/
theorem e_ixO {i j : Nat} (hm : (l, HO.lst xs) ∈ Γ) (hi : σ[i]? = some (some (.ref l))) (hx : Das G xs ds) (hb : EvD Γ tb σ G (.int (j : Int))) (hj : ds[j]? = some d) : EvD Γ (tOp (rIxL K) (tVar i) tb) σ G d := fun G1 H1 a b Q q =>
  ⟨_, hi, hb G1 H1 a b _ fun y G2 H2 s dy => by
    obtain ⟨w, hw, dw⟩ := (hx.mono (a.trans s.g)).get hj
    exact ⟨l, xs, (j : Int), w, rfl, dy.inv_int, SqL.of ((b.up s).o _ hm).2, atI_nat hw, q w G2 H2 s dw⟩⟩
theorem e_lenO {i n : Nat} (hm : (l, HO.lst xs) ∈ Γ) (hi : σ[i]? = some (some (.ref l))) (hn : xs.length = n) : EvD Γ (tCB (rLen K) (tCons (tVar i) tNil)) σ G (.int (n : Int)) := fun G1 H1 a b Q q =>
  ⟨_, hi, l, xs, rfl, .inl (SqL.of (b.o _ hm).2), by rw [hn]; exact q _ G1 H1 (Stp.refl b.i) (.int _)⟩
theorem e_inO {neg : Bool} {i : Nat} {k : Int} {ns : List Int} (hm : (l, HO.lst (ns.map V.int)) ∈ Γ) (hi : σ[i]? = some (some (.ref l))) (ha : EvD Γ ta σ G (.int k)) :
    EvD Γ (tOp (rIn K neg) ta (tVar i)) σ G (.bool (if neg then !decide (k ∈ ns) else decide (k ∈ ns))) := fun G1 H1 a b Q q =>
  ha G1 H1 a b _ fun x G2 H2 s dx => ⟨_, hi, by
    cases dx.inv_int
    exact ⟨l, _, rfl, .inl (SqL.of ((b.up s).o _ hm).2), rfl, flat_ints ns, by rw [inV_ints]; exact q _ G2 H2 s (.bl _)⟩⟩
theorem i_listO {i : Nat} (hm : (l, HO.lst xs) ∈ Γ) (hi : σ[i]? = some (some (.ref l))) (hx : Das G xs ds) :
    ∀ G1 H1, Same G G1 → Cn Γ G1 H1 → ∀ R : It → Hp → Prop, (∀ J : It, (∀ i d G' H', ds[i]? = some d → Same G1 G' → Same G' H' → Own G' H' l (.lst xs) → J.go i H' ∧ ∀ x H'', J.yld i H' x H'' → H'' = H' ∧ Da G' x d) →
      (∀ G' H', Same G1 G' → Same G' H' → Own G' H' l (.lst xs) → J.stop ds.length H') → R J H1) → iList K (tVar i) σ H1 R := fun G1 H1 a b R q =>
  ⟨_, hi, l, rfl, ⟨xs, SqL.of (b.o _ hm).2⟩, q _ (fun i d G' H' he e1 e2 o => by
    obtain ⟨w, hw, dw⟩ := (hx.mono (a.trans e1)).get he
    refine ⟨⟨xs, w, SqL.of o.2, hw⟩, fun x H'' y => ?_⟩
    obtain ⟨rfl, y⟩ := y
    have e := y xs (SqL.of o.2)
    rw [hw] at e
    cases e
    exact ⟨rfl, dw⟩) fun G' H' e1 e2 o => ⟨xs, SqL.of o.2, by rw [hx.length]; exact Nat.le_refl _⟩⟩

/-! ### a comprehension -/
theorem take_succ_filter {α β : Type} {L : List α} {i : Nat} {a : α} (p : α → Bool) (h : α → β) (hi : L[i]? = some a) :
    ((L.take (i + 1)).filter p).map h = ((L.take i).filter p).map h ++ (if p a then [h a] else []) := by
  rw [List.take_add_one, hi, List.filter_append, List.map_append]
  cases hp : p a with
  | true => simp [hp]
  | false => simp [hp]
theorem l_lc {α : Type} {wi : TI} {g : TG} {tt : TT} {ws : List Nat} (L : List α) (enc : α → PyData) (p : α → Bool) (h : α → PyData) (hi : EvI Γ wi σ G (L.map enc)) (hz : L.length < sizeLine)
    (turn : ∀ a G1 H x, a ∈ L → Same G G1 → Cn Γ G1 H → Da G1 x (enc a) → ∀ Q : L2.St → Hp → Prop, (∀ σ2, wipe σ2 ws = wipe σ ws → EvB Γ tt σ2 G1 (p a) → (p a = true → EvD Γ te σ2 G1 (h a)) → Q σ2 H) → g x (wipe σ ws) H Q) :
    EvL Γ (tLc wi g tt te ws) σ G ((L.filter p).map h) := fun G1 H1 a b Q q => hi G1 H1 a b _ fun J G2 H2 s Y D hD => by
  have gD : G2 D = none := Same.free s.i hD
  have start : Stp [] G2 H2 G2 (upd H2 D (.lst [])) := Stp.newO s.i hD
  refine ⟨fun i m H' => m = L.length - i ∧ i ≤ L.length ∧ ∃ G' xs, Stp [D] G2 (upd H2 D (.lst [])) G' H' ∧ Own G' H' D (.lst xs) ∧ Das G' xs (((L.take i).filter p).map h), ⟨L.length, rfl, Nat.zero_le _, G2, [], Stp.refl start.i, ⟨gD, upd_same⟩, .nil⟩, ?_⟩
  rintro i m H' ⟨rfl, hiL, G', xs, st, ow, dx⟩
  have cn : Cn Γ G' H' := ⟨st.i, fun pr hp => by
    have o1 := ((b.up s).up start).o pr hp
    refine st.ownM (fun z => ?_) o1
    have z' : pr.1 = D := by simpa using z
    have o2 := (b.up s).o pr hp
    rw [z'] at o2
    have o3 := o2.2
    rw [hD] at o3
    cases o3⟩
  by_cases hlt : i < L.length
  · have e : L[i]? = some L[i] := List.getElem?_eq_getElem hlt
    obtain ⟨go, yl⟩ := Y.go i (enc L[i]) G' H' (by rw [List.getElem?_map, e]; rfl) st.g st.i
    refine .inr ⟨go, fun H'' => i + 1 ≤ L.length ∧ ∃ G' xs, Stp [D] G2 (upd H2 D (.lst [])) G' H'' ∧ Own G' H'' D (.lst xs) ∧ Das G' xs (((L.take (i + 1)).filter p).map h), fun H'' z => ⟨L.length - (i + 1), by omega, rfl, z.1, z.2⟩, fun x H'' y => ?_⟩
    obtain ⟨G'', s2, dx2⟩ := yl x H'' y
    have ow2 := s2.own ow
    have cn2 := cn.up s2
    refine turn L[i] G'' H'' x (List.getElem_mem hlt) (a.trans (s.g.trans (st.g.trans s2.g))) cn2 dx2 _ fun σ2 hw hb he => ⟨hw, hb G'' H'' (Same.refl _) cn2 _ fun G3 H3 s3 => ?_⟩
    have st3 : Stp [D] G2 (upd H2 D (.lst [])) G3 H3 := (st.up s2).up s3
    cases hp : p L[i] with
    | false =>
      rw [if_neg Bool.false_ne_true]
      refine ⟨hlt, G3, xs, st3, s3.own ow2, ?_⟩
      rw [take_succ_filter p h e, hp, if_neg Bool.false_ne_true, List.append_nil]
      exact s3.das (s2.das dx)
    | true =>
      rw [if_pos rfl]
      refine he hp G3 H3 s3.g (cn2.up s3) _ fun y G4 H4 s4 dy => ?_
      have ow4 := s4.own (s3.own ow2)
      have dx4 := s4.das (s3.das (s2.das dx))
      refine ⟨xs, ow4.2, ?_, hlt, G4, xs ++ [y], (st3.up s4).trans (Stp.put s4.i ow4 (by simp)), ow4.put, ?_⟩
      · have h1 := dx.length
        have h2 : (((L.take i).filter p).map h).length ≤ i := by
          rw [List.length_map]
          refine Nat.le_trans (List.length_filter_le _ _) ?_
          rw [List.length_take]
          exact Nat.min_le_left _ _
        exact Nat.lt_of_le_of_lt (by omega) hz
      · rw [take_succ_filter p h e, hp, if_pos rfl]
        exact dx4.snoc dy
  · have ei : i = L.length := by omega
    subst ei
    refine .inl ⟨?_, ?_⟩
    · have z := Y.stop G' H' st.g st.i
      rw [List.length_map] at z
      exact z
    · rw [List.take_length] at dx
      exact q D xs G' H' ((s.trans start).comp st fun c hc => .inr (by have : c = D := by simpa using hc
                                                                       subst this; exact s.free hD)) (s.free hD) ow dx
/-- .. whose target is a name -/
theorem l_lcN {α : Type} {wi : TI} {j : Nat} {tt : TT} {ws : List Nat} (L : List α) (enc : α → PyData) (p : α → Bool) (h : α → PyData) (hi : EvI Γ wi σ G (L.map enc)) (hz : L.length < sizeLine) (hw : ∀ x, wipe ((wipe σ ws).set j (some x)) ws = wipe σ ws)
    (turn : ∀ a G1 x, a ∈ L → Same G G1 → Da G1 x (enc a) → EvB Γ tt ((wipe σ ws).set j (some x)) G1 (p a) ∧ (p a = true → EvD Γ te ((wipe σ ws).set j (some x)) G1 (h a))) :
    EvL Γ (tLc wi (gName j) tt te ws) σ G ((L.filter p).map h) :=
  l_lc L enc p h hi hz fun a G1 H x ha e c dx Q q => q _ (hw x) (turn a G1 x ha e dx).1 (turn a G1 x ha e dx).2
/-- .. without a test -/
theorem l_lcM {α : Type} {wi : TI} {j : Nat} {ws : List Nat} (L : List α) (enc : α → PyData) (h : α → PyData) (hi : EvI Γ wi σ G (L.map enc)) (hz : L.length < sizeLine) (hw : ∀ x, wipe ((wipe σ ws).set j (some x)) ws = wipe σ ws)
    (turn : ∀ a G1 x, a ∈ L → Same G G1 → Da G1 x (enc a) → EvD Γ te ((wipe σ ws).set j (some x)) G1 (h a)) :
    EvL Γ (tLc wi (gName j) tYes te ws) σ G (L.map h) := by
  have z := l_lcN (tt := tYes) (te := te) L enc (fun _ => true) h hi hz hw fun a G1 x ha e dx => ⟨b_yes, fun _ => turn a G1 x ha e dx⟩
  rw [List.filter_eq_self.mpr (fun _ _ => rfl)] at z
  exact z
/-- a pair's target -/
theorem g_pair {i j : Nat} {Q : L2.St → Hp → Prop} (e1 : Same G H) (dx : Da G v (.tuple [d, e])) (q : ∀ x y, Da G x d → Da G y e → Q ((σ.set i (some x)).set j (some y)) H) :
    gTup K 2 (gCons (gName i) (gCons (gName j) gNil)) v σ H Q := by
  obtain ⟨p, xs, rfl, hp, hs⟩ := dx.inv_tup
  obtain ⟨x, y, rfl, d1, d2⟩ := hs.inv2
  exact ⟨p, [x, y], rfl, SqT.of (e1 _ _ hp), rfl, x, [y], rfl, y, [], rfl, rfl, q x y d1 d2⟩
theorem g_four {i j k m : Nat} {d1 d2 d3 d4 : PyData} {Q : L2.St → Hp → Prop} (e1 : Same G H) (dx : Da G v (.tuple [d1, d2, d3, d4])) (q : ∀ x y z w, Da G x d1 → Da G y d2 → Da G z d3 → Da G w d4 → Q ((((σ.set i (some x)).set j (some y)).set k (some z)).set m (some w)) H) :
    gTup K 4 (gCons (gName i) (gCons (gName j) (gCons (gName k) (gCons (gName m) gNil)))) v σ H Q := by
  obtain ⟨p, xs, rfl, hp, hs⟩ := dx.inv_tup
  cases hs with
  | cons h1 hs =>
    cases hs with
    | cons h2 hs =>
      obtain ⟨x, y, rfl, h3, h4⟩ := hs.inv2
      exact ⟨p, _, rfl, SqT.of (e1 _ _ hp), rfl, _, _, rfl, _, _, rfl, _, _, rfl, _, _, rfl, rfl, q _ _ _ _ h1 h2 h3 h4⟩
theorem l_lcP {α : Type} {wi : TI} {i j : Nat} {tt : TT} {ws : List Nat} (L : List α) (enc1 enc2 : α → PyData) (p : α → Bool) (h : α → PyData) (hi : EvI Γ wi σ G (L.map fun a => .tuple [enc1 a, enc2 a])) (hz : L.length < sizeLine)
    (hw : ∀ x y, wipe (((wipe σ ws).set i (some x)).set j (some y)) ws = wipe σ ws)
    (turn : ∀ a G1 x y, a ∈ L → Same G G1 → Da G1 x (enc1 a) → Da G1 y (enc2 a) → EvB Γ tt (((wipe σ ws).set i (some x)).set j (some y)) G1 (p a) ∧ (p a = true → EvD Γ te (((wipe σ ws).set i (some x)).set j (some y)) G1 (h a))) :
    EvL Γ (tLc wi (gTup K 2 (gCons (gName i) (gCons (gName j) gNil))) tt te ws) σ G ((L.filter p).map h) :=
  l_lc L _ p h hi hz fun a G1 H x ha e c dx Q q => g_pair c.i dx fun x y dx dy => q _ (hw x y) (turn a G1 x y ha e dx dy).1 (turn a G1 x y ha e dx dy).2

/-! ### statements -/
variable {D : Ends} {tu tw tz : TS} {g : TG} {H1 : Hp}
theorem sq (h : tu { D with nx := tz D } σ H) : tSeq tu tz D σ H := h
theorem s_asg {i : Nat} (c : Cn Γ G H) (h : EvD Γ te σ G d) (k : ∀ v G2 H2, Stp [] G H G2 H2 → Da G2 v d → D.nx (σ.set i (some v)) H2) : tAsg te (gName i) D σ H := h G H (Same.refl _) c _ fun v G2 H2 s dv => k v G2 H2 s dv
theorem s_asgI {i : Nat} {n : Int} (c : Cn Γ G H) (h : EvD Γ te σ G (.int n)) (k : ∀ G2 H2, Stp [] G H G2 H2 → D.nx (σ.set i (some (.int n))) H2) : tAsg te (gName i) D σ H := s_asg c h fun v G2 H2 s dv => by
  cases dv.inv_int
  exact k G2 H2 s
theorem s_asgL {i : Nat} (c : Cn Γ G H) (h : EvL Γ te σ G ds) (k : ∀ p xs G2 H2, Stp [] G H G2 H2 → H p = none → Own G2 H2 p (.lst xs) → Das G2 xs ds → D.nx (σ.set i (some (.ref p))) H2) : tAsg te (gName i) D σ H := h G H (Same.refl _) c _ fun p xs G2 H2 s hp o dx => k p xs G2 H2 s hp o dx
theorem s_ret (c : Cn Γ G H) (h : EvD Γ te σ G d) (k : ∀ v G2 H2, Stp [] G H G2 H2 → Da G2 v d → D.rt v H2) : tRet te D σ H := h G H (Same.refl _) c _ fun v G2 H2 s dv => k v G2 H2 s dv
theorem s_retL (c : Cn Γ G H) (h : EvL Γ te σ G ds) (k : ∀ p xs G2 H2, Stp [] G H G2 H2 → H p = none → Own G2 H2 p (.lst xs) → Das G2 xs ds → D.rt (.ref p) H2) : tRet te D σ H := h G H (Same.refl _) c _ fun p xs G2 H2 s hp o dx => k p xs G2 H2 s hp o dx
theorem s_if {b : Bool} (c : Cn Γ G H) (h : EvB Γ t σ G b) (h1 : b = true → ∀ G2 H2, Stp [] G H G2 H2 → tu D σ H2) (h2 : b = false → ∀ G2 H2, Stp [] G H G2 H2 → tw D σ H2) : tIfS t tu tw D σ H := h G H (Same.refl _) c _ fun G2 H2 s => by
  cases b with
  | true =>
    show tu D σ H2
    exact h1 rfl G2 H2 s
  | false =>
    show tw D σ H2
    exact h2 rfl G2 H2 s
theorem s_when {b : Bool} (c : Cn Γ G H) (h : EvB Γ t σ G b) (h1 : b = true → ∀ G2 H2, Stp [] G H G2 H2 → tu D σ H2) (h2 : b = false → ∀ G2 H2, Stp [] G H G2 H2 → D.nx σ H2) : tIfS t tu tNext D σ H := s_if c h h1 h2
theorem s_par {i j : Nat} {ta : TA} (c : Cn Γ G H) (h : EvA Γ ta σ G [d, e]) (k : ∀ v w G2 H2, Stp [] G H G2 H2 → Da G2 v d → Da G2 w e → D.nx ((σ.set i (some v)).set j (some w)) H2) : tPar i j ta D σ H := h G H (Same.refl _) c _ fun vs G2 H2 s dv => by
  obtain ⟨v, w, rfl, d1, d2⟩ := dv.inv2
  exact ⟨v, w, rfl, k v w G2 H2 s d1 d2⟩
/-- xs.append(e) -/
theorem s_app {i : Nat} (c : Cn Γ G H) (hi : σ[i]? = some (some (.ref l))) (o : Own G H l (.lst xs)) (h : EvD Γ te σ G d) (hz : xs.length < sizeLine) (k : ∀ v G2 H2, Stp [] G H G2 H2 → Da G2 v d → Stp [l] G H G2 (upd H2 l (.lst (xs ++ [v]))) → Own G2 (upd H2 l (.lst (xs ++ [v]))) l (.lst (xs ++ [v])) → D.nx σ (upd H2 l (.lst (xs ++ [v])))) :
    tDrop (tBM K "list" rAppend (tVar i) (tCons te tNil)) D σ H :=
  ⟨_, hi, Or.inl ⟨rfl, xs, SqL.of o.2⟩, h G H (Same.refl _) c _ fun v G2 H2 s dv => ⟨l, xs, v, rfl, rfl, (s.own o).2, hz, k v G2 H2 s dv (s.of0.trans (Stp.put s.i (s.own o) (by simp))) (s.own o).put⟩⟩
theorem s_appL {i : Nat} (c : Cn Γ G H) (hi : σ[i]? = some (some (.ref l))) (o : Own G H l (.lst xs)) (h : EvL Γ te σ G ds) (hz : xs.length < sizeLine)
    (k : ∀ p ys G2 H2, Stp [] G H G2 H2 → H p = none → Own G2 H2 p (.lst ys) → Das G2 ys ds → D.nx σ (upd H2 l (.lst (xs ++ [.ref p])))) :
    tDrop (tBM K "list" rAppend (tVar i) (tCons te tNil)) D σ H :=
  ⟨_, hi, Or.inl ⟨rfl, xs, SqL.of o.2⟩, h G H (Same.refl _) c _ fun p ys G2 H2 s hp o2 dy => ⟨l, xs, .ref p, rfl, rfl, (s.own o).2, hz, k p ys G2 H2 s hp o2 dy⟩⟩
/-- xs.extend(e) -/
theorem s_ext {i : Nat} (c : Cn Γ G H) (hi : σ[i]? = some (some (.ref l))) (o : Own G H l (.lst xs)) (h : EvD Γ te σ G (.list ds)) (hz : xs.length + ds.length ≤ sizeLine)
    (k : ∀ ys G2 H2, Stp [] G H G2 H2 → Das G2 ys ds → Stp [l] G H G2 (upd H2 l (.lst (xs ++ ys))) → Own G2 (upd H2 l (.lst (xs ++ ys))) l (.lst (xs ++ ys)) → D.nx σ (upd H2 l (.lst (xs ++ ys)))) :
    tDrop (tBM K "list" rExtend (tVar i) (tCons te tNil)) D σ H :=
  ⟨_, hi, Or.inl ⟨rfl, xs, SqL.of o.2⟩, h G H (Same.refl _) c _ fun v G2 H2 s dv => by
    obtain ⟨b, ys, rfl, hb, hs⟩ := dv.inv_lst
    exact ⟨l, b, xs, ys, rfl, rfl, (s.own o).2, s.i _ _ hb, by rw [hs.length]; exact hz, k ys G2 H2 s hs (s.of0.trans (Stp.put s.i (s.own o) (by simp))) (s.own o).put⟩⟩
theorem s_extO {i j : Nat} {l' : Addr} {ys : List V} (hi : σ[i]? = some (some (.ref l))) (o : Own G H l (.lst xs)) (hj : σ[j]? = some (some (.ref l'))) (o' : Own G H l' (.lst ys)) (gh : Same G H) (hz : xs.length + ys.length ≤ sizeLine)
    (k : Stp [l] G H G (upd H l (.lst (xs ++ ys))) → Own G (upd H l (.lst (xs ++ ys))) l (.lst (xs ++ ys)) → D.nx σ (upd H l (.lst (xs ++ ys)))) :
    tDrop (tBM K "list" rExtend (tVar i) (tCons (tVar j) tNil)) D σ H :=
  ⟨_, hi, Or.inl ⟨rfl, xs, SqL.of o.2⟩, _, hj, l, l', xs, ys, rfl, rfl, o.2, o'.2, hz, k (Stp.put gh o (by simp)) o.put⟩
theorem ixN_nat {n j : Nat} (hj : j < n) : ixN n (j : Int) = some j := by
  unfold ixN
  rw [if_pos (by omega), if_pos (by omega)]
  simp
/-- xs[j] = e -/
theorem s_put {i j : Nat} (c : Cn Γ G H) (hi : σ[i]? = some (some (.ref l))) (o : Own G H l (.lst xs)) (h : EvD Γ te σ G d) (hj : EvD Γ tb σ G (.int (j : Int))) (hl : j < xs.length)
    (k : ∀ v G2 H2, Stp [] G H G2 H2 → Da G2 v d → Stp [l] G H G2 (upd H2 l (.lst (xs.set j v))) → Own G2 (upd H2 l (.lst (xs.set j v))) l (.lst (xs.set j v)) → D.nx σ (upd H2 l (.lst (xs.set j v)))) :
    tAsg te (gSub (tVar i) tb rSetL) D σ H := h G H (Same.refl _) c _ fun v G2 H2 s dv => ⟨_, hi, hj G2 H2 s.g (c.up s) _ fun w G3 H3 s3 dw =>
  ⟨l, xs, (j : Int), j, rfl, dw.inv_int, (s3.own (s.own o)).2, ixN_nat hl, k v G3 H3 (s.trans s3) (s3.da dv) ((s.trans s3).of0.trans (Stp.put s3.i (s3.own (s.own o)) (by simp))) (s3.own (s.own o)).put⟩⟩
theorem s_aug {i : Nat} {f : Int → Int → Int} {a b : Int} (c : Cn Γ G H) (hx : σ[i]? = some (some (.int a))) (h : EvD Γ te σ G (.int b)) (k : ∀ G2 H2, Stp [] G H G2 H2 → D.nx (σ.set i (some (.int (f a b)))) H2) : tAug i te (ipI f) D σ H :=
  ⟨.int a, hx, h G H (Same.refl _) c _ fun v G2 H2 s dv => ⟨a, b, rfl, dv.inv_int, k G2 H2 s⟩⟩

/-! ### loops -/
theorem s_for {α : Type} {wi : TI} (L : List α) (enc : α → PyData) (c : Cn Γ G H) (hi : EvI Γ wi σ G (L.map enc)) (Pv : Hp → Hp → Nat → L2.St → Hp → Hp → Prop)
    (h0 : ∀ G1 H1, Stp [] G H G1 H1 → Pv G1 H1 0 σ G1 H1) (hk : ∀ G1 H1 i σ' G' H', Pv G1 H1 i σ' G' H' → Same G1 G' ∧ Same G' H')
    (hs : ∀ G1 H1 i a σ' G' H' x G2 H2, Stp [] G H G1 H1 → L[i]? = some a → Pv G1 H1 i σ' G' H' → Stp [] G' H' G2 H2 → Da G2 x (enc a) →
      g x σ' H2 fun σ2 H3 => tu { D with nx := fun σ3 H4 => ∃ G4, Pv G1 H1 (i + 1) σ3 G4 H4, ct := fun σ3 H4 => ∃ G4, Pv G1 H1 (i + 1) σ3 G4 H4, bk := D.nx } σ2 H3)
    (hd : ∀ G1 H1 σ' G' H', Stp [] G H G1 H1 → Pv G1 H1 L.length σ' G' H' → D.nx σ' H') : tFor wi g tu D σ H := hi G H (Same.refl _) c _ fun J G1 H1 s Y => by
  refine ⟨fun i m σ' H' => m = L.length - i ∧ i ≤ L.length ∧ ∃ G', Pv G1 H1 i σ' G' H', ⟨L.length, rfl, Nat.zero_le _, G1, h0 G1 H1 s⟩, ?_⟩
  rintro i m σ' H' ⟨rfl, hiL, G', pv⟩
  obtain ⟨k1, k2⟩ := hk _ _ _ _ _ _ pv
  by_cases hlt : i < L.length
  · have e : L[i]? = some L[i] := List.getElem?_eq_getElem hlt
    obtain ⟨go, yl⟩ := Y.go i (enc L[i]) G' H' (by rw [List.getElem?_map, e]; rfl) k1 k2
    refine .inr ⟨go, fun σ3 H4 => ∃ G4, Pv G1 H1 (i + 1) σ3 G4 H4, fun σ3 H4 z => ⟨L.length - (i + 1), by omega, rfl, hlt, z⟩, fun x H'' y => ?_⟩
    obtain ⟨G2, s2, dx⟩ := yl x H'' y
    exact hs G1 H1 i L[i] σ' G' H' x G2 H'' s e pv s2 dx
  · have ei : i = L.length := by omega
    subst ei
    have z := Y.stop G' H' k1 k2
    rw [List.length_map] at z
    exact .inl ⟨z, hd G1 H1 σ' G' H' s pv⟩
/-- .. the target a name -/
theorem s_forN {α : Type} {wi : TI} {j : Nat} (L : List α) (enc : α → PyData) (c : Cn Γ G H) (hi : EvI Γ wi σ G (L.map enc)) (Pv : Hp → Hp → Nat → L2.St → Hp → Hp → Prop)
    (h0 : ∀ G1 H1, Stp [] G H G1 H1 → Pv G1 H1 0 σ G1 H1) (hk : ∀ G1 H1 i σ' G' H', Pv G1 H1 i σ' G' H' → Same G1 G' ∧ Same G' H')
    (hs : ∀ G1 H1 i a σ' G' H' x G2 H2, Stp [] G H G1 H1 → L[i]? = some a → Pv G1 H1 i σ' G' H' → Stp [] G' H' G2 H2 → Da G2 x (enc a) →
      tu { D with nx := fun σ3 H4 => ∃ G4, Pv G1 H1 (i + 1) σ3 G4 H4, ct := fun σ3 H4 => ∃ G4, Pv G1 H1 (i + 1) σ3 G4 H4, bk := D.nx } (σ'.set j (some x)) H2)
    (hd : ∀ G1 H1 σ' G' H', Stp [] G H G1 H1 → Pv G1 H1 L.length σ' G' H' → D.nx σ' H') : tFor wi (gName j) tu D σ H := s_for L enc c hi Pv h0 hk hs hd
/-- over an owned list that the body leaves -/
theorem s_forO {i j : Nat} (c : Same G H) (o : Own G H l (.lst xs)) (hi : σ[i]? = some (some (.ref l))) (hx : Das G xs ds) (Pv : Nat → L2.St → Hp → Hp → Prop) (h0 : Pv 0 σ G H)
    (hk : ∀ i σ' G' H', Pv i σ' G' H' → Same G G' ∧ Same G' H' ∧ Own G' H' l (.lst xs))
    (hs : ∀ i d σ' G' H' x, ds[i]? = some d → Pv i σ' G' H' → Da G' x d → tu { D with nx := fun σ3 H4 => ∃ G4, Pv (i + 1) σ3 G4 H4, ct := fun σ3 H4 => ∃ G4, Pv (i + 1) σ3 G4 H4, bk := D.nx } (σ'.set j (some x)) H')
    (hd : ∀ σ' G' H', Pv ds.length σ' G' H' → D.nx σ' H') : tFor (iList K (tVar i)) (gName j) tu D σ H := by
  refine i_listO (Γ := [(l, .lst xs)]) (by simp) hi hx G H (Same.refl _) (Cn.one c o) _ fun J go stop => ?_
  refine ⟨fun i m σ' H' => m = ds.length - i ∧ i ≤ ds.length ∧ ∃ G', Pv i σ' G' H', ⟨ds.length, rfl, Nat.zero_le _, G, h0⟩, ?_⟩
  rintro i m σ' H' ⟨rfl, hiL, G', pv⟩
  obtain ⟨k1, k2, k3⟩ := hk _ _ _ _ pv
  by_cases hlt : i < ds.length
  · have e : ds[i]? = some ds[i] := List.getElem?_eq_getElem hlt
    obtain ⟨g1, yl⟩ := go i ds[i] G' H' e k1 k2 k3
    refine .inr ⟨g1, fun σ3 H4 => ∃ G4, Pv (i + 1) σ3 G4 H4, fun σ3 H4 z => ⟨ds.length - (i + 1), by omega, rfl, hlt, z⟩, fun x H'' y => ?_⟩
    obtain ⟨rfl, dx⟩ := yl x H'' y
    exact hs i ds[i] σ' G' H'' x e pv dx
  · have ei : i = ds.length := by omega
    subst ei
    exact .inl ⟨stop G' H' k1 k2 k3, hd σ' G' H' pv⟩
theorem s_while (W : Nat → L2.St → Hp → Hp → Prop) (m0 : Nat) (h0 : W m0 σ G H) (Γ' : L2.St → Hp → Hp → List (Addr × HO))
    (hs : ∀ m σ' G' H', W m σ' G' H' → ∃ Γ b, Cn Γ G' H' ∧ EvB Γ t σ' G' b ∧ (b = true → ∀ G1 H1, Stp [] G' H' G1 H1 → tu { D with nx := fun σ2 H2 => ∃ m' G2, m' < m ∧ W m' σ2 G2 H2, ct := fun σ2 H2 => ∃ m' G2, m' < m ∧ W m' σ2 G2 H2, bk := D.nx } σ' H1) ∧ (b = false → ∀ G1 H1, Stp [] G' H' G1 H1 → D.nx σ' H1)) : tWhile t tu D σ H :=
  ⟨fun m σ' H' => ∃ G', W m σ' G' H', ⟨m0, G, h0⟩, fun m σ' H' ⟨G', hw⟩ => by
    obtain ⟨Γ, b, c, hb, h1, h2⟩ := hs m σ' G' H' hw
    refine hb G' H' (Same.refl _) c _ fun G1 H1 s => ?_
    cases b with
    | true => exact ⟨fun σ2 H2 => ∃ m' G2, m' < m ∧ W m' σ2 G2 H2, fun σ2 H2 ⟨m', G2, hm, hw'⟩ => ⟨m', hm, G2, hw'⟩, h1 rfl G1 H1 s⟩
    | false => exact h2 rfl G1 H1 s⟩
end
end N41
/-! GX1: enumerate of a tuple, zip of two tuples, list(range), repeated lists, two-clause comprehensions. -/
namespace N41
open PySem PySem.Spec PyProof.Rows L2

/-! ### enumerate(tuple) -/
theorem meets_enumerate_newT (l : Addr) (items : Array Value) (n : Nat) (dct : Option Addr) (sl : Array (Option Value)) :
    Meets (Builtin.«enumerate.__new__» ⟨[.type "enumerate", .ref l], []⟩) (fun _ R s => s.heap.get? l = some { cls := .type "tuple", dict := dct, data := .seq items n, slots := sl } ∧
      R (.ok (.ret (.ref (s.heap.push { cls := .type "tuple_iterator", data := .fields #[.ref l, .int 0 0] }).objs.size)))
        { s with heap := (s.heap.push { cls := .type "tuple_iterator", data := .fields #[.ref l, .int 0 0] }).push { cls := .type "enumerate", data := .fields #[.none, .bool false, .ref s.heap.objs.size, rawInt 0, .none, .none] } }) :=
  .of_wp fun prog w A R s h => by
    obtain ⟨hp, g, d, tk, os⟩ := s; obtain ⟨hl, h⟩ := h
    have hsub := sub_enumerate
    have hL : Heap.IsTuple (Shared.heap ⟨hp, g, d, tk, os⟩) l items := ⟨_, hl, rfl, n, rfl⟩
    have q1 : ∀ {A' : Around} {E : Value → Shared → Prop} {Q : Value → Shared → Prop}, Q (.ref hp.objs.size) ⟨hp.push { cls := .type "tuple_iterator", data := .fields #[.ref l, .int 0 0] }, g, d, tk, os⟩ → wpAny (model prog w) A' (pyIter (.ref l)) Q E ⟨hp, g, d, tk, os⟩ :=
      fun q => wpAny_pyIter_tuple hL q
    wp_walk using q1
    refine wpAny_stack_any fun st => wpAny_pure ?_
    split
    · rename_i c _ _ _ _ _
      cases (c == Value.type "enumerate")
      · wp_walk using q1
        exact ⟨_, rfl, h⟩
      · wp_walk using q1
        exact ⟨_, rfl, h⟩
    · wp_walk using q1
      exact ⟨_, rfl, h⟩
section
variable {prog : Program} {w : World} {A : Around} {E : Value → Shared → Prop} {s : Shared}
theorem call_enumerate_tuple {l : Addr} {items : Array Value} {Q : Value → Shared → Prop} (hL : s.heap.IsTuple l items)
    (h : ∀ h', IsEnum h' (s.heap.objs.size + 1) s.heap.objs.size 0 .none → h'.IsTupleIter s.heap.objs.size l 0 → h'.objs.size = s.heap.objs.size + 2 →
      (∀ b o, s.heap.get? b = some o → h'.get? b = some o) → Q (.ref (s.heap.objs.size + 1)) { s with heap := h' }) :
    wpAny (model prog w) A (call (.type "enumerate") [.ref l]) Q E s := by
  obtain ⟨⟨c, dct, dt, sl⟩, hl, hc, n, hd⟩ := hL
  replace hc : c = .type "tuple" := hc
  replace hd : dt = .seq items n := hd
  subst hc hd
  refine callType_new F.called_enumerate (by decide) (F.typeCall_enumerate_1 _) (F.newCall_enumerate_1 _) (fun obj => F.args_object_init_2 obj _) F.entry_enumerate_new
    (meets_enumerate_newT l items n dct sl) ⟨hl, ?_⟩
  have hz : (s.heap.push { cls := .type "tuple_iterator", data := .fields #[.ref l, .int 0 0] }).objs.size = s.heap.objs.size + 1 := Heap.size_push ..
  show _ ∧ _
  rw [hz]
  have he : IsEnum ((s.heap.push { cls := .type "tuple_iterator", data := .fields #[.ref l, .int 0 0] }).push
      { cls := .type "enumerate", data := .fields #[.none, .bool false, .ref s.heap.objs.size, rawInt 0, .none, .none] }) (s.heap.objs.size + 1) s.heap.objs.size 0 .none := by
    have := Heap.get?_push_size (s.heap.push { cls := .type "tuple_iterator", data := .fields #[.ref l, .int 0 0] })
      (o := { cls := .type "enumerate", data := .fields #[.none, .bool false, .ref s.heap.objs.size, rawInt 0, .none, .none] }) rfl
    rw [hz] at this; exact this
  refine ⟨⟨_, he, rfl⟩, h _ he ⟨_, Heap.get?_push_of_some _ (Heap.get?_push_size _ rfl), rfl, rfl⟩ (by rw [Heap.size_push, hz]) fun b o x => Heap.get?_push_of_some _ (Heap.get?_push_of_some _ x)⟩
end
/-- the tuple at a, each item in a new pair -/
def IteT (K : PySem.W.Frag) (a : Addr) (n : Nat) : It :=
  ⟨fun i H => ∃ (xs : List V) (x : V), SqT K H a xs ∧ xs[i]? = some x ∧ xs.length = n, fun i H v H' => ∃ T x, v = .ref T ∧ H T = none ∧ H' = upd H T (.tup [.int (i : Nat), x]) ∧ ∀ xs, SqT K H a xs → xs[i]? = some x, fun i H => ∃ xs : List V, SqT K H a xs ∧ xs.length = i ∧ n = i⟩
theorem turn_enumT {P : Program} {w : World} {K : PySem.W.Frag} {elts : List Expr} {kk : Nat} {tpos : Pos} (a e it : Addr) (hai : a ≠ it) (hae : a ≠ e) (items : Array Value) (n : Nat) (hn : items.size = n) :
    Turn P w K (.Tuple elts kk tpos) (IteT K a n) [e, it] e (fun i h => (∃ old, IsEnum h e it ((i : Nat) : Int) old) ∧ (h.IsTupleIter it a i ∧ i ≤ items.size) ∧ e ≠ it) where
  mem := by simp
  obj := fun i h st b hb => by
    obtain ⟨⟨old, he⟩, ⟨⟨o, ho, hc, hd⟩, _⟩, _⟩ := st
    have e' : b = e ∨ b = it := by simpa using hb
    rcases e' with z | z
    · rw [z]; exact ⟨_, he, fun v q => nomatch q⟩
    · rw [z]; exact ⟨o, ho, fun v q => by rw [hd] at q; cases q⟩
  keep := fun i h h' st k => let ⟨⟨old, he⟩, ⟨hi, hi2⟩, hne⟩ := st; ⟨⟨old, k e (by simp) _ he⟩, ⟨hi.at fun o q => k it (by simp) o q, hi2⟩, hne⟩
  item := by
    intro X hP hw hK hc i pins s σ H E I hf st hg
    subst hP hw hK
    obtain ⟨⟨old, he⟩, ⟨hit, hil2⟩, hne⟩ := st
    obtain ⟨xs, x, hq, hx, hxn⟩ := hg
    obtain ⟨its, rv, p, hz⟩ := I.tuple hq
    obtain ⟨u, hu, ru⟩ := rv.get hx
    have hel : e < s.heap.objs.size := Heap.lt_size he
    have hil : it < s.heap.objs.size := by obtain ⟨_, q, _⟩ := hit; exact Heap.lt_size q
    have D := Draws.tuple (prog := X.prog) (w := X.w) (A := X.A.in1) (I.ok.hd hc) it a hai its.toArray
    have hlt : i < its.toArray.size := by
      have := (List.getElem?_eq_some_iff.mp hu).1
      simpa using this
    refine wpAny_pyNext_enum_itemD D he ⟨hit, show s.heap.IsTuple a its.toArray from p⟩ hlt hne (by simpa using ⟨hne, hae.symm⟩) fun y h' tk hy ho hit' hT hsz hk => ?_
    have ey : y = u := by
      have h1 : its.toArray[i]? = some y := hy
      have h2 : its.toArray[i]? = some u := by simpa using hu
      rw [h1] at h2
      exact Option.some.inj h2
    subst ey
    refine ⟨_, rfl, wpAny_letOwnedTupleGo_enum (s := { s with heap := h', toks := tk + 1 }) ho fun h'' he' sb => ?_⟩
    have hT2 : h''.get? s.heap.objs.size = some { cls := .type "tuple", data := .seq #[.int i tk, y] } := (sb.2 _ (Nat.ne_of_gt hel)).trans hT
    have new : ObjOk X.prog X.w (upd H s.heap.objs.size (.tup [.int (i : Nat), x])) h'' s.heap.objs.size (.tup [.int (i : Nat), x]) :=
      ⟨by show 2 ≤ sizeLine; decide, [.int i tk, y], .cons ⟨_, rfl⟩ (.cons ru .nil), ⟨_, hT2, rfl, _, rfl⟩⟩
    have I1 : Inv X pins σ (upd H s.heap.objs.size (.tup [.int (i : Nat), x])) { s with heap := h'', toks := tk + 1 } :=
      I.turnedNew (ch := [e, it]) (fun b ob hb q => (sb.2 b (fun z => hb (by simp [z]))).trans (hk b ob (fun z => hb (by simp [z])) (fun z => hb (by simp [z])) q)) hf (Nat.le_refl _) new
    refine ⟨.ref s.heap.objs.size, _, I1, rfl, ⟨_, x, rfl, I.hok.fresh (Nat.le_refl _), rfl, fun ys hy => by rw [I.tuple_inj hy hq]; exact hx⟩, ⟨⟨y, ?_⟩, ⟨hit'.1.at fun o q => (sb.2 it (Ne.symm hne)).trans q, ?_⟩, hne⟩, fun b hb => ?_⟩
    · have e1 : ((i + 1 : Nat) : Int) = (i : Int) + 1 := by omega
      rw [e1]; exact he'
    · have e2 := rv.length
      simp only [List.size_toArray] at hlt
      omega
    · have hb' : b < s.heap.objs.size := by
        have e' : b = e ∨ b = it := by simpa using hb
        rcases e' with z | z
        · rw [z]; exact hel
        · rw [z]; exact hil
      rw [upd_ne (Nat.ne_of_lt hb')]
      exact (hf b hb).1
  done := by
    intro X hP hw hK hc i pins s σ H E I hf st hg
    subst hP hw hK
    obtain ⟨⟨old, he⟩, ⟨hit, hil2⟩, hne⟩ := st
    obtain ⟨xs, hq, hx, hxn⟩ := hg
    obtain ⟨its, rv, p, hz⟩ := I.tuple hq
    obtain ⟨f0, f1, f2, f3, f4, f5⟩ := hf it (by simp)
    have hl := rv.length
    have D := Draws.tuple (prog := X.prog) (w := X.w) (A := X.A.in1) (I.ok.hd hc) it a hai its.toArray
    have hsz : its.toArray.size = i := by rw [List.size_toArray, ← hl]; exact hx
    refine wpAny_pyNext_enum_endD D he (by rw [hsz]; exact ⟨hit, show s.heap.IsTuple a its.toArray from p⟩) fun h' eb => ⟨rfl, I.turned (t' := s.toks) (fun b o hb q => eb b o hb q) f0 f1 f3 f4 f5⟩
  self := fun A i s Q E st h => let ⟨⟨_, he⟩, _⟩ := st; wpAny_pyIter_enum he h
def iEnumT (K : PySem.W.Frag) (ta : TA) : TI := fun σ H R => ta σ H fun vs H1 => ∃ a xs, vs = [.ref a] ∧ SqT K H1 a xs ∧ R (IteT K a xs.length) H1
theorem pi_enumT {X : Cx} {e : Expr} {ta : TA} {p pos tpos : Pos} {elts : List Expr} {kk : Nat} (hg : Gl X "enumerate") (hm : X.mg "enumerate" = none) (ha : PA X [e] ta) (hs : starEach [e] X.env = [(false, eval e X.env)] := by rfl) :
    PI X (.Tuple elts kk tpos) (.Call (.Name "enumerate" p) [e] [] pos) (iEnumT X.K ta) := by
  refine ⟨fun pins s σ H R I h => ?_⟩
  refine Call_ (ld_blt I hg hm boot_enumerate (PyProof.Rows.callWith_type1 (thn (ha.run pos pins s σ H _ I h) fun us s1 ⟨vs, H1, I1, r1, q1⟩ => ?_) hs rfl))
  obtain ⟨a, xs, ex, hq, q⟩ := q1
  subst ex
  cases r1 with
  | cons r rr =>
    cases rr
    cases r
    obtain ⟨its, rv, p', hz⟩ := I1.tuple hq
    have hal : a < s1.heap.objs.size := p'.lt
    refine call_enumerate_tuple (show s1.heap.IsTuple a its.toArray from p') fun h' he hit hsz hk => wpAny_pyIter_enum he ?_
    have I2 : Inv X pins σ H1 { s1 with heap := h' } := I1.kept (t' := s1.toks) hk
    refine ⟨s1.heap.objs.size + 1, [s1.heap.objs.size + 1, s1.heap.objs.size], _, _, H1, rfl, I2, turn_enumT a (s1.heap.objs.size + 1) s1.heap.objs.size (Nat.ne_of_lt hal) (Nat.ne_of_lt (Nat.lt_succ_of_lt hal)) its.toArray xs.length (by rw [List.size_toArray]; exact rv.length.symm), ⟨⟨.none, he⟩, ⟨hit, Nat.zero_le _⟩, Nat.succ_ne_self _⟩, fun b hb => ?_, q⟩
    have e' : b = s1.heap.objs.size + 1 ∨ b = s1.heap.objs.size := by simpa using hb
    have hle : s1.heap.objs.size ≤ b := by
      rcases e' with z | z
      · rw [z]; exact Nat.le_add_right _ _
      · rw [z]; exact Nat.le_refl _
    exact I1.fpOk hle (I1.hok.fresh hle)
section
variable {K : PySem.W.Frag} {Γ : List (Addr × HO)} {σ : L2.St} {G G' H : Hp} {ta tb tc te tx : TE} {t u : TT} {x y z v : V} {r : R2} {d d' e : PyData} {ds ds' es : List PyData} {vs xs : List V} {l : Addr}
theorem get_zipIdx {ds : List PyData} {i : Nat} {d : PyData} (h : (ds.zipIdx.map fun p => pairD p.2 p.1)[i]? = some d) : ∃ e, ds[i]? = some e ∧ d = pairD i e := by
  rw [List.getElem?_map, List.getElem?_zipIdx] at h
  cases q : ds[i]? with
  | none => rw [q] at h; cases h
  | some e =>
    rw [q] at h
    simp at h
    exact ⟨e, rfl, h.symm⟩
theorem i_enumT (h : EvD Γ te σ G (.tuple ds)) : EvI Γ (iEnumT K (tCons te tNil)) σ G (ds.zipIdx.map fun p => pairD p.2 p.1) := fun G1 H1 a b R q => h G1 H1 a b _ fun v G2 H2 s dv => by
  obtain ⟨p, xs, rfl, hp, hs⟩ := dv.inv_tup
  refine ⟨p, xs, rfl, SqT.of (s.i _ _ hp), q _ G2 H2 s ⟨fun G' H' e1 e2 => ⟨xs, SqT.of (e2 _ _ (e1 _ _ hp)), ?_, ?_⟩, fun i d G' H' hi e1 e2 => ?_⟩⟩
  · rw [hs.length, List.length_map, List.length_zipIdx]
  · rw [hs.length, List.length_map, List.length_zipIdx]
  · obtain ⟨e, he, rfl⟩ := get_zipIdx hi
    obtain ⟨w, hw, dw⟩ := hs.get he
    have hq : SqT K H' p xs := SqT.of (e2 _ _ (e1 _ _ hp))
    refine ⟨⟨xs, w, hq, hw, rfl⟩, fun x H'' y => ?_⟩
    obtain ⟨T, x1, rfl, hT, rfl, y⟩ := y
    have e := y xs hq
    rw [hw] at e
    cases e
    refine ⟨_, Stp.new e2 hT, .tup upd_same (.cons (.int _) (.cons ?_ .nil))⟩
    exact (dw.mono e1).mono (Stp.new (m := []) e2 hT).g

/-! ### zip of two tuples -/
theorem i_zipT (h : EvD Γ ta σ G (.tuple ds)) (h' : EvD Γ tb σ G (.tuple es)) (hl : ds.length = es.length) : EvI Γ (RZ.iZipA K (tCons ta (tCons tb tNil))) σ G ((ds.zip es).map fun p => .tuple [p.1, p.2]) := fun G1 H1 a b R q =>
  h G1 H1 a b _ fun v G2 H2 s dv => h' G2 H2 (a.trans s.g) (b.up s) _ fun w G3 H3 s3 dw => by
  obtain ⟨p, xs, rfl, hp, hs⟩ := (s3.da dv).inv_tup
  obtain ⟨p', ys, rfl, hp', hs'⟩ := dw.inv_tup
  refine ⟨p, p', xs, ys, rfl, .inr ⟨SqT.of (s3.i _ _ hp), SqT.of (s3.i _ _ hp'), q _ G3 H3 (s.trans s3) ⟨fun G' H' e1 e2 => ⟨xs, ys, SqT.of (e2 _ _ (e1 _ _ hp)), SqT.of (e2 _ _ (e1 _ _ hp')), .inl ?_⟩, fun i d G' H' hi e1 e2 => ?_⟩⟩⟩
  · rw [hs.length, List.length_map, List.length_zip]
    omega
  · rw [List.getElem?_map] at hi
    cases hz : (ds.zip es)[i]? with
    | none => rw [hz] at hi; cases hi
    | some pr =>
      rw [hz] at hi
      have hi := Option.some.inj hi
      subst hi
      obtain ⟨h1, h2⟩ := List.getElem?_zip_eq_some.mp hz
      obtain ⟨w1, hw1, dw1⟩ := hs.get h1
      obtain ⟨w2, hw2, dw2⟩ := hs'.get h2
      have hq1 : SqT K H' p xs := SqT.of (e2 _ _ (e1 _ _ hp))
      have hq2 : SqT K H' p' ys := SqT.of (e2 _ _ (e1 _ _ hp'))
      refine ⟨⟨xs, ys, w1, w2, hq1, hq2, hw1, hw2⟩, fun x H'' y => ?_⟩
      obtain ⟨T, x1, x2, rfl, hT, rfl, y1, y2⟩ := y
      have z1 := y1 xs hq1
      have z2 := y2 ys hq2
      rw [hw1] at z1
      rw [hw2] at z2
      cases z1
      cases z2
      have sn := (Stp.new (m := []) (o := HO.tup [w1, w2]) e2 hT).g
      exact ⟨_, Stp.new e2 hT, .tup upd_same (.cons ((dw1.mono e1).mono sn) (.cons ((dw2.mono e1).mono sn) .nil))⟩

/-! ### list(range(n)), [x] * n -/
theorem rgV_nat (n : Nat) : rgV 0 (n : Int) = (List.range n).map fun i : Nat => V.int (i : Int) := by
  have e : rgV 0 (n : Int) = (List.range ((n : Int) - 0).toNat).map fun k => V.int (0 + (k : Nat)) := by rfl
  rw [e]
  have e2 : ((n : Int) - 0).toNat = n := by omega
  rw [e2]
  refine List.map_congr_left fun i _ => ?_
  show V.int (0 + ((i : Nat) : Int)) = V.int (i : Int)
  rw [Int.zero_add]
theorem das_range (n : Nat) : Das G ((List.range n).map fun i : Nat => V.int (i : Int)) ((List.range n).map natD) := by
  have h := das_ints (G := G) ((List.range n).map fun i : Nat => (i : Int))
  rw [List.map_map, List.map_map] at h
  exact h
theorem l_listRg {n : Nat} (h : EvD Γ ta σ G (.int (n : Int))) (hn : n ≤ 1000) : EvL Γ (tLstRg (tRg1 ta)) σ G ((List.range n).map natD) := fun G1 H1 a b Q q => h G1 H1 a b _ fun v G2 H2 s dv =>
  ⟨(n : Int), dv.inv_int, ⟨by omega, by omega, by omega, by omega, by omega⟩, fun l hl => q l _ G2 _ (s.trans (Stp.newO s.i hl)) (s.free hl) ⟨Same.free s.i hl, upd_same⟩ (by rw [rgV_nat]; exact das_range n)⟩
theorem das_flatten {vs : List V} (h : Das G vs ds) : ∀ n : Nat, Das G (List.replicate n vs).flatten (List.replicate n ds).flatten
  | 0 => .nil
  | n + 1 => by
    rw [List.replicate_succ, List.replicate_succ, List.flatten_cons, List.flatten_cons]
    exact h.append (das_flatten h n)
theorem l_rep {n : Nat} (h : EvD Γ ta σ G (.list ds)) (h' : EvD Γ tb σ G (.int (n : Int))) (hz : ds.length * n ≤ 1000000) (hn : n ≤ 1000000) : EvL Γ (tOp rRep ta tb) σ G (List.replicate n ds).flatten := fun G1 H1 a b Q q =>
  e_two h h' a b fun x y G2 H2 s dx dy => by
    obtain ⟨p, xs, rfl, hp, hs⟩ := dx.inv_lst
    refine ⟨p, (n : Int), xs, rfl, dy.inv_int, s.i _ _ hp, by omega, by omega, ?_, fun l hl => ?_⟩
    · rw [hs.length, sizeLine_eq, Int.toNat_natCast]
      omega
    · exact q l _ G2 _ (s.trans (Stp.newO s.i hl)) (s.free hl) ⟨Same.free s.i hl, upd_same⟩ (by rw [Int.toNat_natCast]; exact das_flatten hs n)
end
end N41
/-! GX2: ** of a wide base, repr of data, the least of some data. -/
namespace N41
open PySem PySem.Spec PyProof.Rows L2

/-! ### x ** 3, x wide -/
def CPow3 (i j : Int) : Prop := j = 3 ∧ i.natAbs < 2 ^ 100000
theorem op_pow3 {X : Cx} : OpR X (binaryOp .Pow) (rI CPow3 fun i j => .int (i ^ j.toNat)) := opI fun i j _ _ _ _ _ hc q => by
  obtain ⟨rfl, hb⟩ := hc
  refine pow_int (by decide) ?_ q
  have h1 : Builtin.Int.intBits i ≤ 100000 := by
    have h2 : i.natAbs.log2 < 100000 := PySem.Flt.log2_lt_of (by decide) hb
    unfold Builtin.Int.intBits
    split <;> omega
  omega

/-! ### repr of data -/
def rRepr (K : PySem.W.Frag) : List V → Hp → VK → Prop := fun vs H Q => ∃ x d, vs = [x] ∧ Dp K H x d ∧ d.showable = true ∧ d.hasDict = false ∧ d.depth ≤ 64 ∧ d.shown.length ≤ sizeLine ∧ ((∃ a, x = .ref a) ∨ ∃ b, x = .bl b) ∧ Q (.str d.shown) H
theorem c_repr {X : Cx} (hg : X.A.guards = some []) (hu : X.A.units + 200 < cLine) : CallR X (.builtin "repr") (rRepr X.K) := by
  intro pins s σ H vs us Q I r h
  obtain ⟨x, d, rfl, hd, hs, hn, hdp, hz, hx, q⟩ := h
  cases r with
  | cons r rr =>
    cases rr
    rcases hx with ⟨a, rfl⟩ | ⟨b, rfl⟩
    · cases r
      obtain ⟨as, hr⟩ := Dp.reads I d (.ref a) (.ref a) hd rfl
      refine repr_of_reads' hr hs (fun z => by rw [hn] at z; cases z) hg (by omega) (fun _ _ e => e) (fun h' u tk hk => ?_) hz
      exact ⟨.str d.shown, H, I.kept (t' := tk) hk, ⟨_, rfl⟩, q⟩
    · cases r
      cases hd
      exact PySem.P.repr_of_bool ⟨.str _, H, I.tok _, ⟨_, rfl⟩, q⟩

/-! ### min of a list of data -/
def CmpH (prog : Program) (w : World) (A : Around) (h₀ : Heap) (P : Nat → Value → Prop) (bt : Nat → Nat → Bool) : Prop :=
  ∀ i j vi vj (s : Shared) (Q : Value → Shared → Prop) (E : Value → Shared → Prop), (∀ b o, h₀.get? b = some o → s.heap.get? b = some o) → P i vi → P j vj → Q (.bool (bt i j)) s → wpAny (model prog w) A (richCompare .Lt vi vj) Q E s
section
variable {prog : Program} {w : World} {A : Around} {R : Result → Shared → Prop} {I l : Addr} {items : Array Value} {h₀ : Heap}
theorem minD_loop (hh : A.handled = none) (bt : Nat → Nat → Bool) (hcmp : CmpH prog w A.in1 h₀ (fun i v => items[i]? = some v) bt) (S : Addr) (hSI : S ≠ I) (hlI : l ≠ I) (hlS : l ≠ S) (nI : h₀.get? I = none) (nS : h₀.get? S = none) :
    ∀ (k j : Nat) (s : Shared) (vb : Value) (c : Nat), items.size - (j + 1) = k → j + 1 ≤ items.size → s.heap.IsListIter I l (j + 1) → s.heap.IsList l items → items[argBest bt j]? = some vb → (∀ b o, h₀.get? b = some o → s.heap.get? b = some o) →
    s.heap.get? S = some { cls := .type "list", dict := none, data := .seq #[vb, vb] c, slots := #[] } →
    (∀ v h' tk, items[argBest bt (items.size - 1)]? = some v → (∀ b o, h₀.get? b = some o → h'.get? b = some o) → (∀ b o, b ≠ I → b ≠ S → s.heap.get? b = some o → h'.get? b = some o) → R (.ok (.ret v)) { s with heap := h', toks := tk }) →
    codeAny (model prog w) A (.builtin "min.loop" ⟨[.ref I, .none, .ref S], []⟩) R s := by
  have hname : (toString "min" ++ toString ".loop" : String) = "min.loop" := by decide
  have bI : ∀ b o, h₀.get? b = some o → b ≠ I := fun b o e z => by rw [z, nI] at e; cases e
  have bS : ∀ b o, h₀.get? b = some o → b ≠ S := fun b o e z => by rw [z, nS] at e; cases e
  intro k
  induction k with
  | zero =>
    intro j s vb c hk hj hit hl hPb h0 hS hR
    have hin : j + 1 = items.size := by omega
    refine codeAny_builtin F.entry_min_loop ?_
    rw [Around.under_plainId F.plain_min_loop _]
    show wpAny _ A.in1 (seqItems? (.ref S) >>= _) _ _ s
    refine wpAny_bind (wpAny_seqItems hS rfl ?_)
    show wpAny _ A.in1 (tryCatch (pyNext (.ref I)) _ >>= _) _ _ s
    refine wpAny_bind (wpAny_tryCatch (wpAny_pyNext_list_end (show A.in1.handled = none from hh) hit hl (Array.getElem?_eq_none (Nat.le_of_eq hin.symm)) fun h' eb => ?_))
    have hS' := eb S _ hSI hS
    show wpAny _ A.in1 (updateSeq S (fun _ => #[]) >>= _) _ _ _
    refine wpAny_bind ?_
    refine wpAny_updateSeq hS' rfl (wpAny_bind (wpAny_letGo (wpAny_pure ?_)))
    refine hR vb _ s.toks (by rw [← hin]; exact hPb) (fun b o e => ?_) fun b o hbI hbS e => (Heap.get?_update_other _ _ (Ne.symm hbS)).trans (eb b o hbI e)
    exact (Heap.get?_update_other _ _ (Ne.symm (bS b o e))).trans (eb b o (bI b o e) (h0 b o e))
  | succ k ih =>
    intro j s vb c hk hj hit hl hPb h0 hS hR
    have hlt : j + 1 < items.size := by omega
    refine codeAny_builtin F.entry_min_loop ?_
    rw [Around.under_plainId F.plain_min_loop _]
    show wpAny _ A.in1 (seqItems? (.ref S) >>= _) _ _ s
    refine wpAny_bind (wpAny_seqItems hS rfl ?_)
    show wpAny _ A.in1 (tryCatch (pyNext (.ref I)) _ >>= _) _ _ s
    have hv : items[j + 1]? = some items[j + 1] := Array.getElem?_eq_getElem hlt
    refine wpAny_bind (wpAny_tryCatch (wpAny_pyNext_list_item hit hl hv fun h' hit' sb => ?_))
    have hS' := (sb.2 S hSI).trans hS
    have h0' : ∀ b o, h₀.get? b = some o → h'.get? b = some o := fun b o e => (sb.2 b (bI b o e)).trans (h0 b o e)
    show wpAny _ A.in1 (tryCatch (holding [items[j + 1], items[j + 1]] (richCompare .Lt items[j + 1] vb >>= _)) _ >>= _) _ _ _
    refine wpAny_bind (wpAny_tryCatch (wpAny_holding (wpAny_bind (hcmp (j + 1) (argBest bt j) items[j + 1] vb _ _ _ h0' hv hPb ?_))))
    refine wpAny_bind (wpAny_holding (wpAny_truthy_bool ?_))
    refine wpAny_bind (wpAny_letGo (wpAny_pure ?_))
    cases hb : bt (j + 1) (argBest bt j) with
    | true =>
      simp only [if_true]
      refine wpAny_bind ?_
      refine wpAny_updateSeq hS' rfl (wpAny_bind (wpAny_letGo ?_))
      rw [hname]
      refine wpAny_pure ⟨plainId_quiet F.plain_min_loop _, ih (j + 1) _ items[j + 1] _ (by omega) hlt (hit'.at fun o e => (Heap.get?_update_other _ _ hSI).trans e) ((hl.at fun o e => (sb.2 l hlI).trans e).at fun o e => (Heap.get?_update_other _ _ (Ne.symm hlS)).trans e)
        (by simp only [argBest, hb, if_true]; exact hv) (fun b o e => (Heap.get?_update_other _ _ (Ne.symm (bS b o e))).trans (h0' b o e)) (Heap.get?_update_self _ hS' rfl) fun v' h'' tk'' hP' k0 hk'' => ?_⟩
      exact hR v' h'' tk'' hP' k0 fun b o hbI hbS e => hk'' b o hbI hbS ((Heap.get?_update_other _ _ (Ne.symm hbS)).trans ((sb.2 b hbI).trans e))
    | false =>
      simp only [Bool.false_eq_true, if_false]
      refine wpAny_bind (wpAny_letGo ?_)
      rw [hname]
      refine wpAny_pure ⟨plainId_quiet F.plain_min_loop _, ih (j + 1) _ vb c (by omega) hlt hit' (hl.at fun o e => (sb.2 l hlI).trans e) (by simp only [argBest, hb, Bool.false_eq_true, if_false]; exact hPb) h0' hS' fun v' h'' tk'' hP' k0 hk'' => ?_⟩
      exact hR v' h'' tk'' hP' k0 fun b o hbI hbS e => hk'' b o hbI hbS ((sb.2 b hbI).trans e)
theorem minD_first (hh : A.handled = none) (bt : Nat → Nat → Bool) (hcmp : CmpH prog w A.in1 h₀ (fun i v => items[i]? = some v) bt) (S : Addr) (hSI : S ≠ I) (hlI : l ≠ I) (hlS : l ≠ S) (nI : h₀.get? I = none) (nS : h₀.get? S = none) (hn : 0 < items.size)
    {s : Shared} {c : Nat} (hit : s.heap.IsListIter I l 0) (hl : s.heap.IsList l items) (h0 : ∀ b o, h₀.get? b = some o → s.heap.get? b = some o)
    (hS : s.heap.get? S = some { cls := .type "list", dict := none, data := .seq #[] c, slots := #[] })
    (hR : ∀ v h' tk, items[argBest bt (items.size - 1)]? = some v → (∀ b o, h₀.get? b = some o → h'.get? b = some o) → (∀ b o, b ≠ I → b ≠ S → s.heap.get? b = some o → h'.get? b = some o) → R (.ok (.ret v)) { s with heap := h', toks := tk }) :
    codeAny (model prog w) A (.builtin "min.loop" ⟨[.ref I, .none, .ref S], []⟩) R s := by
  have hname : (toString "min" ++ toString ".loop" : String) = "min.loop" := by decide
  have bI : ∀ b o, h₀.get? b = some o → b ≠ I := fun b o e z => by rw [z, nI] at e; cases e
  have bS : ∀ b o, h₀.get? b = some o → b ≠ S := fun b o e z => by rw [z, nS] at e; cases e
  refine codeAny_builtin F.entry_min_loop ?_
  rw [Around.under_plainId F.plain_min_loop _]
  show wpAny _ A.in1 (seqItems? (.ref S) >>= _) _ _ s
  refine wpAny_bind (wpAny_seqItems hS rfl ?_)
  show wpAny _ A.in1 (tryCatch (pyNext (.ref I)) _ >>= _) _ _ s
  have hv : items[0]? = some items[0] := Array.getElem?_eq_getElem hn
  refine wpAny_bind (wpAny_tryCatch (wpAny_pyNext_list_item hit hl hv fun h' hit' sb => ?_))
  have hS' := (sb.2 S hSI).trans hS
  have h0' : ∀ b o, h₀.get? b = some o → h'.get? b = some o := fun b o e => (sb.2 b (bI b o e)).trans (h0 b o e)
  show wpAny _ A.in1 (updateSeq S (fun _ => #[items[0], items[0]]) >>= _) _ _ _
  refine wpAny_bind ?_
  refine wpAny_updateSeq hS' rfl ?_
  rw [hname]
  refine wpAny_pure ⟨plainId_quiet F.plain_min_loop _, minD_loop hh bt hcmp S hSI hlI hlS nI nS _ 0 _ items[0] _ rfl hn (hit'.at fun o e => (Heap.get?_update_other _ _ hSI).trans e) ((hl.at fun o e => (sb.2 l hlI).trans e).at fun o e => (Heap.get?_update_other _ _ (Ne.symm hlS)).trans e)
    hv (fun b o e => (Heap.get?_update_other _ _ (Ne.symm (bS b o e))).trans (h0' b o e)) (Heap.get?_update_self _ hS' rfl) fun v' h'' tk'' hP' k0 hk'' => ?_⟩
  exact hR v' h'' tk'' hP' k0 fun b o hbI hbS e => hk'' b o hbI hbS ((Heap.get?_update_other _ _ (Ne.symm hbS)).trans ((sb.2 b hbI).trans e))
end
section
variable {prog : Program} {w : World} {A : Around} {E : Value → Shared → Prop} {s : Shared}
theorem call_minD {l : Addr} {items : Array Value} {Q : Value → Shared → Prop} (hh : A.handled = none) (bt : Nat → Nat → Bool) (hl : s.heap.IsList l items) (hn : 0 < items.size) (hcmp : CmpH prog w A.in1 s.heap (fun i v => items[i]? = some v) bt)
    (hQ : ∀ v h' tk, items[argBest bt (items.size - 1)]? = some v → (∀ b o, s.heap.get? b = some o → h'.get? b = some o) → Q v { s with heap := h', toks := tk }) : wpAny (model prog w) A (call (.builtin "min") [.ref l]) Q E s := by
  have hname : (toString "min" ++ toString ".loop" : String) = "min.loop" := by decide
  have hll : l < s.heap.objs.size := by
    obtain ⟨o, e, _⟩ := id hl
    exact Heap.lt_size e
  refine call_function_tree F.kind_min F.plain_min F.entry_min (F.args_min1 _) ?_
  show wpAny _ A.in1 (Builtin.Builtins.bindParams "min" ["key", "default"] 0 ⟨[], []⟩ >>= _) _ _ s
  refine wpAny_bind (wpAny_of_eq (show Builtin.Builtins.bindParams "min" ["key", "default"] 0 ⟨[], []⟩ = pure [none, none] from rfl) ?_)
  refine wpAny_bind (wpAny_pure ?_)
  refine wpAny_bind (wpAny_pyIter_list hl ?_)
  refine wpAny_bind (wpAny_newObj_type ?_)
  have hz : (s.heap.push { cls := .type "list_iterator", data := .fields #[.ref l, .int 0 0] }).objs.size = s.heap.objs.size + 1 := Heap.size_push ..
  rw [hname]
  have kp : ∀ b o, s.heap.get? b = some o → ((s.heap.push { cls := .type "list_iterator", data := .fields #[.ref l, .int 0 0] }).push { cls := .type "list", data := .seq #[] }).get? b = some o := fun b o e => Heap.get?_push_of_some _ (Heap.get?_push_of_some _ e)
  refine wpAny_pure ⟨plainId_quiet F.plain_min_loop _, minD_first (A := A) (h₀ := s.heap) hh bt hcmp (s.heap.push { cls := .type "list_iterator", data := .fields #[.ref l, .int 0 0] }).objs.size (by rw [hz]; exact Nat.succ_ne_self _) (Nat.ne_of_lt hll) (by rw [hz]; exact Nat.ne_of_lt (Nat.lt_succ_of_lt hll))
    (Heap.get?_none_of_le (Nat.le_refl _)) (Heap.get?_none_of_le (by rw [hz]; exact Nat.le_succ _)) hn ⟨_, Heap.get?_push_of_some _ (Heap.get?_push_size _ rfl), rfl, rfl⟩ (hl.at fun o e => kp l o e) kp (Heap.get?_push_size _ rfl) fun v h' tk hP k0 hk => ?_⟩
  exact hQ v h' tk hP k0
end
/-- an order that lt tells: the best of argBest is the least -/
theorem argBest_least {bt : Nat → Nat → Bool} (irr : ∀ i, bt i i = false) (tr : ∀ i j k, bt i j = true → bt j k = true → bt i k = true) (co : ∀ i j k, bt i k = false → bt j k = true → bt i j = false) : ∀ n j, j ≤ n → bt j (argBest bt n) = false
  | 0, j, h => by
    have : j = 0 := by omega
    subst this
    exact irr 0
  | n + 1, j, h => by
    unfold argBest
    have ih := argBest_least irr tr co n
    cases hb : bt (n + 1) (argBest bt n) with
    | true =>
      rw [if_pos rfl]
      by_cases hj : j = n + 1
      · subst hj; exact irr _
      · exact co j (n + 1) (argBest bt n) (ih j (by omega)) hb
    | false =>
      rw [if_neg Bool.false_ne_true]
      by_cases hj : j = n + 1
      · subst hj; exact hb
      · exact ih j (by omega)
theorem argBest_le (bt : Nat → Nat → Bool) : ∀ n, argBest bt n ≤ n
  | 0 => Nat.le_refl _
  | n + 1 => by
    unfold argBest
    have := argBest_le bt n
    split <;> omega
def btD (ds : List PyData) (i j : Nat) : Bool := PySem.W.dataLt (ds.getD i .none) (ds.getD j .none)
def minD (ds : List PyData) : PyData := ds.getD (argBest (btD ds) (ds.length - 1)) .none
/-- any two can be compared; none is None -/
def Comp (ds : List PyData) : Prop := ∀ d ∈ ds, d ≠ .none ∧ d.depth ≤ 64 ∧ ∀ e ∈ ds, PySem.W.alike d e = true
def rMinD (K : PySem.W.Frag) : List V → Hp → VK → Prop := fun vs H Q => ∃ a xs ds, vs = [.ref a] ∧ SqL K H a xs ∧ DpAll K H xs ds ∧ 0 < ds.length ∧ Comp ds ∧ ∀ v, xs[argBest (btD ds) (ds.length - 1)]? = some v → Q v H
theorem DpAll.length {K : PySem.W.Frag} {H : Hp} : ∀ {vs : List V} {ds : List PyData}, DpAll K H vs ds → vs.length = ds.length
  | _, _, .nil => rfl
  | _, _, .cons _ t => by rw [List.length_cons, List.length_cons, DpAll.length t]
theorem DpAll.get {K : PySem.W.Frag} {H : Hp} : ∀ {vs : List V} {ds : List PyData} {i : Nat} {v : V}, DpAll K H vs ds → vs[i]? = some v → ∃ d, ds[i]? = some d ∧ Dp K H v d
  | _, _, _, _, .nil, e => by simp at e
  | _, _, 0, _, .cons h _, e => by
    simp only [List.getElem?_cons_zero, Option.some.injEq] at e
    subst e
    exact ⟨_, rfl, h⟩
  | _, _, i + 1, _, .cons _ t, e => by
    rw [List.getElem?_cons_succ] at e
    obtain ⟨d, e1, e2⟩ := DpAll.get t e
    exact ⟨d, by rw [List.getElem?_cons_succ]; exact e1, e2⟩
theorem Vals.back {xs : List V} {us : List Value} {i : Nat} {u : Value} (r : Vals xs us) (e : us[i]? = some u) : ∃ x, xs[i]? = some x ∧ RelV x u := by
  have hi : i < xs.length := by rw [r.length]; exact (List.getElem?_eq_some_iff.mp e).1
  obtain ⟨u', e1, e2⟩ := r.get (List.getElem?_eq_getElem hi)
  rw [e] at e1
  cases e1
  exact ⟨_, List.getElem?_eq_getElem hi, e2⟩
theorem c_minD {X : Cx} (hh : X.calm = true) (hu : X.A.units + 200 < cLine) : CallR X (.builtin "min") (rMinD X.K) := by
  intro pins s σ H vs us Q I r h
  obtain ⟨a, xs, ds, rfl, hq, hd, hn, hc, q⟩ := h
  cases r with
  | cons r rr =>
    cases rr
    cases r
    obtain ⟨its, rv, p, hz⟩ := I.list hq
    have hl := rv.length
    have hl2 := DpAll.length hd
    refine call_minD (I.ok.hd hh) (btD ds) p.isList (by rw [List.size_toArray]; omega) (fun i j vi vj s' Q' E' h0 hi hj hQ => ?_) fun v h' tk hv hk => ?_
    · have hi' : its[i]? = some vi := by simpa using hi
      have hj' : its[j]? = some vj := by simpa using hj
      obtain ⟨x, ex, rx⟩ := Vals.back rv hi'
      obtain ⟨y, ey, ry⟩ := Vals.back rv hj'
      obtain ⟨d, ed, dx⟩ := DpAll.get hd ex
      obtain ⟨e, ee, dy⟩ := DpAll.get hd ey
      obtain ⟨as, r1⟩ := Dp.reads I d x vi dx rx
      obtain ⟨bs, r2⟩ := Dp.reads I e y vj dy ry
      have k1 : Reads s'.heap vi d as := PyProof.Rows.Reads.keeps h0 r1
      have k2 : Reads s'.heap vj e bs := PyProof.Rows.Reads.keeps h0 r2
      have md : d ∈ ds := List.mem_of_getElem? ed
      have me : e ∈ ds := List.mem_of_getElem? ee
      obtain ⟨c1, c2, c3⟩ := hc d md
      have eb : btD ds i j = PySem.W.dataLt d e := by
        unfold btD
        rw [List.getD_eq_getElem?_getD, List.getD_eq_getElem?_getD, ed, ee]
        rfl
      rw [eb] at hQ
      exact PySem.W.rcLt_alike d e _ s' vi vj as bs k1 k2 (c3 e me) c1 (by
        have := Nat.min_le_left d.depth e.depth
        show X.A.units + 1 + min d.depth e.depth < cLine
        omega) _ _ _ _ hQ
    · have ev : its[argBest (btD ds) (ds.length - 1)]? = some v := by
        have e2 : its.toArray.size = ds.length := by rw [List.size_toArray]; omega
        rw [e2] at hv
        simpa using hv
      obtain ⟨x, ex, rx⟩ := Vals.back rv ev
      exact ⟨x, H, I.kept (t' := tk) hk, rx, q x ex⟩
theorem e_minD {K : PySem.W.Frag} {Γ : List (Addr × HO)} {σ : L2.St} {G : Hp} {ta : TE} {ds : List PyData} (h : EvD Γ ta σ G (.list ds)) (hn : 0 < ds.length) (hc : Comp ds) : EvD Γ (tCB (rMinD K) (tCons ta tNil)) σ G (minD ds) := e_cb0 (a_cons h a_nil) fun vs G1 H1 b dvs Q q => by
  obtain ⟨v, rfl, dv⟩ := dvs.inv1
  obtain ⟨p, xs, rfl, hp, hs⟩ := dv.inv_lst
  refine ⟨p, xs, ds, rfl, SqL.of (b _ _ hp), (hs.mono b).dp K, hn, hc, fun v hv => ?_⟩
  obtain ⟨d, ed, dd⟩ := hs.getV hv
  have e : minD ds = d := by
    unfold minD
    rw [List.getD_eq_getElem?_getD, ed]
    rfl
  rw [e] at q
  exact q v dd
theorem e_repr {K : PySem.W.Frag} {Γ : List (Addr × HO)} {σ : L2.St} {G : Hp} {ta : TE} {d : PyData} (h : EvD Γ ta σ G d) (hs : d.showable = true) (hn : d.hasDict = false) (hdp : d.depth ≤ 64) (hz : d.shown.length ≤ sizeLine) (hk : (∃ ds, d = .list ds) ∨ (∃ ds, d = .tuple ds) ∨ ∃ b, d = .bool b) :
    EvD Γ (tCB (rRepr K) (tCons ta tNil)) σ G (.str d.shown) := e_cb0 (a_cons h a_nil) fun vs G1 H1 b dvs Q q => by
  obtain ⟨v, rfl, dv⟩ := dvs.inv1
  refine ⟨v, d, rfl, (dv.mono b).dp K, hs, hn, hdp, hz, ?_, q _ (.str _)⟩
  rcases hk with ⟨ds, rfl⟩ | ⟨ds, rfl⟩ | ⟨c, rfl⟩
  · obtain ⟨p, xs, rfl, _⟩ := dv.inv_lst
    exact .inl ⟨p, rfl⟩
  · obtain ⟨p, xs, rfl, _⟩ := dv.inv_tup
    exact .inl ⟨p, rfl⟩
  · exact .inr ⟨c, dv.inv_bl⟩
end N41
/-! GX3: itertools.permutations(range(n)), walked. -/
namespace Prm
open PySem PySem.Spec
open Sem (wp)
open PySem.Builtin PySem.Builtin.Itertools

theorem mro_prm : mroOf (.type "itertools.permutations") = pure [.type "itertools.permutations", .type "object"] := by rw [mroOf_type]; kernel_rfl
theorem look_prm_new : typeLookup (.type "itertools.permutations") "__new__" = pure (some (.builtin "itertools.permutations.__new__")) := by rw [typeLookup_type, builtinLookup_eq_fast]; kernel_rfl
theorem init_prm : Slot "itertools.permutations" "__init__" "object.__init__" :=
  .of (owner := "object") (n := "__init__") (by rw [typeLookup_type, builtinLookup_eq_fast]; kernel_rfl) (by decide +kernel) (by decide +kernel) (by decide +kernel)
    (by first | exact .inl (by decide +kernel) | exact .inr (by decide +kernel)) (by rw [isSubtype_type]; kernel_rfl)
theorem sub_prm : isSubtype (.type "itertools.permutations") (.type "itertools.permutations") = pure true := by rw [isSubtype_type]; kernel_rfl
theorem called_prm : TypeCalled "itertools.permutations" "itertools.permutations.__new__" "object.__init__" :=
  ⟨by decide +kernel, by decide +kernel, ⟨_, _, mro_prm⟩, madeBy_type mro_prm look_prm_new (by decide +kernel), by decide +kernel, sub_prm, init_prm⟩
theorem tcall_prm (a : Value) : checkTypeCall "itertools.permutations" ⟨[a], []⟩ = pure () := by kernel_rfl
theorem ncall_prm (a : Value) : checkBuiltinCall "itertools.permutations.__new__" ⟨[.type "itertools.permutations", a], []⟩ = pure () := by kernel_rfl
theorem entry_prm_new : entryFor table "itertools.permutations.__new__" = some Builtin.«itertools.permutations.__new__» := entryFor_of_tree (by kernel_rfl)
theorem iter_prm : Slot "itertools.permutations" "__iter__" "itertools.permutations.__iter__" :=
  .of (owner := "itertools.permutations") (n := "__iter__") (by rw [typeLookup_type, builtinLookup_eq_fast]; kernel_rfl) (by decide +kernel) (by decide +kernel) (by decide +kernel)
    (by first | exact .inl (by decide +kernel) | exact .inr (by decide +kernel)) sub_prm
theorem next_prm : Slot "itertools.permutations" "__next__" "itertools.permutations.__next__" :=
  .of (owner := "itertools.permutations") (n := "__next__") (by rw [typeLookup_type, builtinLookup_eq_fast]; kernel_rfl) (by decide +kernel) (by decide +kernel) (by decide +kernel)
    (by first | exact .inl (by decide +kernel) | exact .inr (by decide +kernel)) sub_prm
theorem entry_prm_iter : entryFor table "itertools.permutations.__iter__" = some Builtin.«dict_keyiterator.__iter__» :=
  entryFor_alias (id' := "dict_keyiterator.__iter__") (by kernel_rfl) (by first | rfl | decide +kernel | (unfold String.splitOn; simp +decide [String.splitOnAux])) (by decide +kernel) (by kernel_rfl)
theorem entry_prm_next : entryFor table "itertools.permutations.__next__" = some Builtin.«itertools.permutations.__next__» := entryFor_of_tree (by kernel_rfl)
theorem owner_prm : Manifest.owners.lookup (String.ofList "itertools.permutations".toList.reverse.reverse) = some Manifest.sig_itertools_permutations := by kernel_rfl
theorem noDict_prm : typeHasDict (.type "itertools.permutations") = false := by decide +kernel
end Prm
namespace Prm
open PySem PySem.Spec
open Sem (wp)
open PySem.Builtin PySem.Builtin.Itertools
theorem own_prm : Manifest.owners.lookup (String.ofList ['s', 'n', 'o', 'i', 't', 'a', 't', 'u', 'm', 'r', 'e', 'p', '.', 's', 'l', 'o', 'o', 't', 'r', 'e', 't', 'i'].reverse) = some Manifest.sig_itertools_permutations := by kernel_rfl
theorem args_prm_iter (a : Value) : argsOk "itertools.permutations.__iter__" ⟨[a], []⟩ := by
  unfold argsOk; rw [signature?_of (id := "itertools.permutations.__iter__") (n := ['_', '_', 'r', 'e', 't', 'i', '_', '_']) (o := ['s', 'n', 'o', 'i', 't', 'a', 't', 'u', 'm', 'r', 'e', 'p', '.', 's', 'l', 'o', 'o', 't', 'r', 'e', 't', 'i']) (by kernel_rfl) own_prm]; kernel_rfl
theorem args_prm_next (a : Value) : argsOk "itertools.permutations.__next__" ⟨[a], []⟩ := by
  unfold argsOk; rw [signature?_of (id := "itertools.permutations.__next__") (n := ['_', '_', 't', 'x', 'e', 'n', '_', '_']) (o := ['s', 'n', 'o', 'i', 't', 'a', 't', 'u', 'm', 'r', 'e', 'p', '.', 's', 'l', 'o', 'o', 't', 'r', 'e', 't', 'i']) (by kernel_rfl) own_prm]; kernel_rfl

/-- the next arrangement, as the iterator makes it of its places and its rounds -/
def nextP (n : Nat) : Nat → List Nat → List Nat → Option (List Nat × List Nat)
  | 0, _, _ => none
  | i + 1, ix, cy =>
    if cy.getD i 0 - 1 == 0 then nextP n i (ix.take i ++ ix.drop (i + 1) ++ [ix.getD i 0]) (cy.set i (n - i))
    else some ((ix.set i (ix.getD (n - (cy.getD i 0 - 1)) 0)).set (n - (cy.getD i 0 - 1)) (ix.getD i 0), cy.set i (cy.getD i 0 - 1))
theorem next_form : ∃ Fp : Nat → Nat → List Nat → List Nat → Option (List Nat × List Nat), (∀ a : Value, Builtin.«itertools.permutations.__next__» ⟨[a], []⟩ = (do
    let items ← itPoolItems (← field a 0)
    let r := (← itIntField a 2).toNat
    let numbers ← itNumbersFrom a 4
    let result (indices : List Nat) : Sem Fin := do
      let t ← newTuple ((indices.take r).map fun i => items.getD i .none)
      let before ← field a 3
      setField a 3 t
      letGo [before] [t]
      ret t
    match ← itIntField a 1 with
    | 0 => setField a 1 (rawInt 1); result numbers
    | 1 =>
      match Fp items.size r (numbers.take items.size) (numbers.drop items.size) with
      | some (indices, cycles) => itSetNumbersFrom a 4 (indices ++ cycles); result indices
      | none => setField a 1 (rawInt 2); itStop
    | _ => rule "itertools.permutations.ended"; itStop)) ∧
    (∀ n x y, Fp n 0 x y = none) ∧ (∀ n i x y, Fp n (i + 1) x y = if y.getD i 0 - 1 == 0 then Fp n i (x.take i ++ x.drop (i + 1) ++ [x.getD i 0]) (y.set i (n - i))
      else some ((x.set i (x.getD (n - (y.getD i 0 - 1)) 0)).set (n - (y.getD i 0 - 1)) (x.getD i 0), y.set i (y.getD i 0 - 1))) :=
  ⟨_, fun _ => rfl, fun _ _ _ => rfl, fun _ _ _ _ => rfl⟩
theorem next_eq (a : Value) : Builtin.«itertools.permutations.__next__» ⟨[a], []⟩ = (do
    let items ← itPoolItems (← field a 0)
    let r := (← itIntField a 2).toNat
    let numbers ← itNumbersFrom a 4
    let result (indices : List Nat) : Sem Fin := do
      let t ← newTuple ((indices.take r).map fun i => items.getD i .none)
      let before ← field a 3
      setField a 3 t
      letGo [before] [t]
      ret t
    match ← itIntField a 1 with
    | 0 => setField a 1 (rawInt 1); result numbers
    | 1 =>
      match nextP items.size r (numbers.take items.size) (numbers.drop items.size) with
      | some (indices, cycles) => itSetNumbersFrom a 4 (indices ++ cycles); result indices
      | none => setField a 1 (rawInt 2); itStop
    | _ => rule "itertools.permutations.ended"; itStop) := by
  obtain ⟨Fp, h1, h2, h3⟩ := next_form
  have e : ∀ n i x y, Fp n i x y = nextP n i x y := by
    intro n i
    induction i with
    | zero => intro x y; rw [h2]; rfl
    | succ i ih =>
      intro x y
      rw [h3, ih]
      rfl
  have e2 : Fp = nextP := by
    funext n i x y
    exact e n i x y
  rw [h1, e2]
end Prm
namespace Prm
open PySem PySem.Spec
open Sem (wp)
open PySem.Builtin PySem.Builtin.Itertools PyProof.Rows
abbrev IsPrm (h : Heap) (it pool : Addr) (stage r : Int) (last : Value) (nums : List Int) : Prop :=
  h.get? it = some { cls := .type "itertools.permutations", dict := none, data := .fields ([.ref pool, rawInt stage, rawInt r, last] ++ nums.map rawInt).toArray, slots := #[] }
def nums0 (n : Nat) : List Int := (List.range n).map (fun i : Nat => (i : Int)) ++ (List.range n).map fun i : Nat => (n : Int) - i
theorem plain_prm_new : plainId "itertools.permutations.__new__" = true := by decide +kernel
theorem bind_prm (v : Value) : itBindNamed "permutations" ["iterable", "r"] 1 2 [v] [] = pure [some v, none] := by rfl
theorem name_prm : ("itertools." ++ "permutations" : String) = "itertools.permutations" := by decide
section
variable {prog : Program} {w : World} {A : Around} {E : Value → Shared → Prop} {s : Shared} {r : Addr} {t u v : Tok} {n : Nat}
theorem code_prm_new {Q₁ : Value → Shared → Prop} (hh : A.handled = none) (hr : IsRange s.heap r 0 n 1 t u v) (hlen : n ≤ 1000)
    (h : ∀ (h' : Heap) (tk : Nat) (acc : Array Value), (∀ b o, s.heap.get? b = some o → h'.get? b = some o) → ItemsOf (fun i v => ∃ t, v = .int (0 + i * 1) t) acc n →
      Q₁ (.ref (h'.push { cls := .type "tuple", data := .seq acc }).objs.size) { s with heap := (h'.push { cls := .type "tuple", data := .seq acc }).push { cls := .type "itertools.permutations", data := .fields ([.ref h'.objs.size, rawInt 0, rawInt n, .none] ++ (nums0 n).map rawInt).toArray }, toks := tk }) :
    codeAny (model prog w) A (.call (.builtin "itertools.permutations.__new__") ⟨[.type "itertools.permutations", .ref r], []⟩) (wants Q₁ E) s := by
  refine codeAny_of_tree ?_
  show wpAny _ A.in1 (do checkBuiltinCall "itertools.permutations.__new__" ⟨[.type "itertools.permutations", .ref r], []⟩; again (.builtin "itertools.permutations.__new__" ⟨[.type "itertools.permutations", .ref r], []⟩)) _ _ s
  refine wpAny_bind (wpAny_of_eq (ncall_prm _) (wpAny_pure ⟨plainId_quiet plain_prm_new _, codeAny_builtin entry_prm_new ?_⟩))
  rw [Around.under_plainId plain_prm_new _]
  have hsub := sub_prm
  have hd := noDict_prm
  have hTI : s.TypeIs (.ref r) "range" := ⟨_, hr, rfl⟩
  have hh1 : A.in1.handled = none := hh
  have hsm : Builtin.Range.small 0 (n : Int) 1 = true := small_one (by decide) (by decide) (by omega) (by omega)
  have hrs : Builtin.Range.rangeSize 0 (n : Int) 1 = n := by rw [rangeSize_one]; split <;> omega
  have q1 : ∀ {A' : Around} {E : Value → Shared → Prop} {Q : List Value → Shared → Prop}, A'.handled = none → (∀ (h' : Heap) (tk : Nat) (acc : Array Value), (∀ b o, s.heap.get? b = some o → h'.get? b = some o) → ItemsOf (fun i v => ∃ t, v = .int (0 + i * 1) t) acc n → Q acc.toList { s with heap := h', toks := tk }) → wpAny (model prog w) A' (collect (.ref r)) Q E s :=
    fun hA q => L2.collect_range hA hr hsm hrs (by omega) q
  have hb := bind_prm (.ref r)
  have hs2 : isSubtype (Value.type "itertools.permutations") (Value.type ("itertools." ++ "permutations")) = pure true := by rw [name_prm]; exact sub_prm
  wp_walk using q1 hh1
  intro h' tk acc hk hacc
  have hsz : acc.size = n := hacc.1
  have hl : acc.toList.length = n := by rw [Array.length_toList]; exact hsz
  have hle : acc.toList.length ≤ sizeLine := by rw [hl, sizeLine_eq]; omega
  have e1 : ¬ ((n : Int) < 0) := by omega
  have e2 : itTooMany (n : Int) = false := by unfold itTooMany; exact decide_eq_false (by omega)
  simp only [hl]
  show wpAny _ _ (pure (n : Int) >>= _) _ _ _
  refine wpAny_bind (wpAny_pure ?_)
  rw [if_neg e1, if_neg (by rw [e2]; exact Bool.false_ne_true)]
  refine wpAny_bind (wpAny_newTuple ?_ hle)
  have e3 : ¬ (((n : Int).toNat) > n) := by omega
  have e4 : (n : Int).toNat = n := by omega
  rw [if_neg e3, e4]
  unfold itNewRecord
  rw [if_pos (by rw [noDict_prm]; rfl)]
  refine wpAny_bind (wpAny_newObj_type ?_ ?_)
  · have e5 : ([Value.ref h'.objs.size, rawInt 0, rawInt (n : Int), Value.none] ++ List.map (fun i : Nat => rawInt (i : Int)) (List.range n) ++ List.map (fun i : Nat => rawInt ((n : Int) - (i : Int))) (List.range n)) =
        ([Value.ref h'.objs.size, rawInt 0, rawInt (n : Int), Value.none] ++ (nums0 n).map rawInt) := by
      unfold nums0
      rw [List.map_append, List.map_map, List.map_map, List.append_assoc]
      rfl
    have hq := h h' tk acc hk hacc
    rw [← e5] at hq
    refine wpAny_pure ?_
    exact hq
  · show (List.toArray _).size ≤ _
    rw [List.size_toArray]
    simp only [List.length_append, List.length_map, List.length_range, List.length_cons, List.length_nil, sizeLine_eq]
    omega
theorem call_prm {Q : Value → Shared → Prop} (hh : A.handled = none) (hr : IsRange s.heap r 0 n 1 t u v) (hlen : n ≤ 1000)
    (h : ∀ (h' : Heap) (tk : Nat) (acc : Array Value), (∀ b o, s.heap.get? b = some o → h'.get? b = some o) → ItemsOf (fun i v => ∃ t, v = .int (0 + i * 1) t) acc n →
      Q (.ref (h'.push { cls := .type "tuple", data := .seq acc }).objs.size) { s with heap := (h'.push { cls := .type "tuple", data := .seq acc }).push { cls := .type "itertools.permutations", data := .fields ([.ref h'.objs.size, rawInt 0, rawInt n, .none] ++ (nums0 n).map rawInt).toArray }, toks := tk }) :
    wpAny (model prog w) A (call (.type "itertools.permutations") [.ref r]) Q E s := by
  refine callType_codes (Q₁ := fun obj s₁ => s₁.TypeIs obj "itertools.permutations" ∧ Q obj s₁) called_prm (tcall_prm _) F.entry_object_init
    (code_prm_new (A := A.in1) hh hr hlen fun h' tk acc hk hacc => ⟨⟨_, Heap.get?_push_size _ rfl, rfl⟩, h h' tk acc hk hacc⟩) fun obj s₁ h₁ => ?_
  exact ⟨h₁.1, F.args_object_init_2 obj _, object_init_meets called_prm.init.lookup called_prm.made (by decide) prog w A.in1 _ s₁ ⟨h₁.1, rfl, h₁.2⟩⟩
variable {it pool : Addr} {stage rr : Int} {last : Value} {nums : List Int}
theorem iter_prm' {Q : Value → Shared → Prop} (hit : IsPrm s.heap it pool stage rr last nums) (h : Q (.ref it) s) : wpAny (model prog w) A (pyIter (.ref it)) Q E s := by
  have hT : s.TypeIs (.ref it) "itertools.permutations" := ⟨_, hit, rfl⟩
  refine wpAny_pyIter_slot hT iter_prm (wpAny_call_entry iter_prm hT entry_prm_iter ?_ (args_prm_iter _))
  show wpAny _ _ (ret (.ref it)) _ _ s
  exact wpAny_pure ⟨_, rfl, "itertools.permutations", _, hT, next_prm.lookup, h⟩
end
end Prm
namespace Prm
open PySem PySem.Spec
open Sem (wp)
open PySem.Builtin PySem.Builtin.Itertools PyProof.Rows
def numsOf (x y : List Nat) : List Int := x.map (fun i : Nat => (i : Int)) ++ y.map fun i : Nat => (i : Int)
section
variable {prog : Program} {w : World} {A : Around} {E : Value → Shared → Prop} {s : Shared} {it pool : Addr} {last : Value} {n : Nat} {items : Array Value} {ix cy : List Nat}
theorem prm_field {nums : List Int} {stage rr : Int} {i : Nat} {v : Value} {Q : Value → Shared → Prop} (hit : IsPrm s.heap it pool stage rr last nums) (hi : ([.ref pool, rawInt stage, rawInt rr, last] ++ nums.map rawInt)[i]? = some v) (h : Q v s) :
    wpAny (model prog w) A (field (.ref it) i) Q E s := wpAny_field hit rfl (by rw [List.getElem?_toArray]; exact hi) h
theorem nats_back (l : List Int) (hl : ∀ x ∈ l, 0 ≤ x) : ((l.map rawInt).map fun v => match v with | .int n _ => n.toNat | _ => 0) = l.map Int.toNat := by
  rw [List.map_map]
  rfl
theorem numsOf_nat (x y : List Nat) : (((numsOf x y).map rawInt).map fun v => match v with | .int n _ => n.toNat | _ => 0) = x ++ y := by
  unfold numsOf
  rw [List.map_map, List.map_append, List.map_map, List.map_map]
  have e : ∀ l : List Nat, List.map (((fun v => match v with | .int n _ => n.toNat | _ => 0) ∘ rawInt) ∘ fun i : Nat => (i : Int)) l = l := fun l => by
    induction l with
    | nil => rfl
    | cons a l ih =>
      rw [List.map_cons, ih]
      rfl
  rw [e, e]
theorem prm_nums {stage rr : Int} {Q : List Nat → Shared → Prop} (hit : IsPrm s.heap it pool stage rr last (numsOf ix cy)) (h : Q (ix ++ cy) s) : wpAny (model prog w) A (itNumbersFrom (.ref it) 4) Q E s := by
  unfold itNumbersFrom
  refine wpAny_bind (wpAny_load hit ?_)
  show wpAny _ _ (pure _) _ _ _
  refine wpAny_pure ?_
  have e : (([.ref pool, rawInt stage, rawInt rr, last] ++ (numsOf ix cy).map rawInt).toArray.toList.drop 4) = (numsOf ix cy).map rawInt := rfl
  rw [e]
  have z := numsOf_nat ix cy
  rw [← z] at h
  exact h
theorem set1 {stage stage' rr : Int} {nums : List Int} : (([.ref pool, rawInt stage, rawInt rr, last] ++ nums.map rawInt).toArray.setIfInBounds 1 (rawInt stage')) = ([.ref pool, rawInt stage', rawInt rr, last] ++ nums.map rawInt).toArray := by simp
theorem set3 {stage rr : Int} {last' : Value} {nums : List Int} : (([.ref pool, rawInt stage, rawInt rr, last] ++ nums.map rawInt).toArray.setIfInBounds 3 last') = ([.ref pool, rawInt stage, rawInt rr, last'] ++ nums.map rawInt).toArray := by simp
/-- what it hands out at its places ix -/
theorem prm_result {stage : Int} {nums : List Int} {Q : Fin → Shared → Prop} (hit : IsPrm s.heap it pool stage n last nums) (hsz : ix.length ≤ 1000)
    (h : ∀ h', IsPrm h' it pool stage n (.ref s.heap.objs.size) nums → h'.get? s.heap.objs.size = some { cls := .type "tuple", data := .seq ((ix.take n).map fun i => items.getD i .none).toArray } → h'.objs.size = s.heap.objs.size + 1 → (∀ b o, b ≠ it → s.heap.get? b = some o → h'.get? b = some o) →
      Q (.done (.ret (.ref s.heap.objs.size))) { s with heap := h' }) :
    wpAny (model prog w) A (do
      let t ← newTuple ((ix.take n).map fun i => items.getD i .none)
      let before ← field (.ref it) 3
      setField (.ref it) 3 t
      letGo [before] [t]
      ret t) Q E s := by
  have hl : ((ix.take n).map fun i => items.getD i Value.none).length ≤ sizeLine := by
    rw [List.length_map, List.length_take, sizeLine_eq]
    omega
  refine wpAny_bind (wpAny_newTuple ?_ hl)
  have hit1 : IsPrm (s.heap.push { cls := .type "tuple", data := .seq ((ix.take n).map fun i => items.getD i .none).toArray }) it pool stage n last nums := Heap.get?_push_of_some _ hit
  have hlt : it < s.heap.objs.size := Heap.lt_size hit
  refine wpAny_bind (prm_field (s := { s with heap := s.heap.push { cls := .type "tuple", data := .seq ((ix.take n).map fun i => items.getD i .none).toArray } }) (i := 3) hit1 rfl ?_)
  refine wpAny_bind (wpAny_setField hit1 rfl (by simp) ?_)
  refine wpAny_bind (wpAny_letGo (wpAny_pure ?_))
  refine h _ ?_ ((Heap.get?_update_other _ _ (Nat.ne_of_lt hlt)).trans (Heap.get?_push_size _ rfl)) ?_ fun b o hb e => (Heap.get?_update_other _ _ (Ne.symm hb)).trans (Heap.get?_push_of_some _ e)
  · have z := Heap.get?_update_self (Obj.mapFields (·.setIfInBounds 3 (.ref s.heap.objs.size))) hit1 rfl
    refine z.trans ?_
    show some _ = some _
    rw [← set3 (last := last)]
    rfl
  · show (Heap.update _ _ _).objs.size = _
    rw [(Heap.SameBut.update (a := it) ..).1, Heap.size_push]

/-- the first turn -/
theorem prm_next0 {Q : Option Value → Shared → Prop} (hit : IsPrm s.heap it pool 0 n last (numsOf ix cy)) (hp : ∃ o k, s.heap.get? pool = some o ∧ o.data = .seq items k) (hne : pool ≠ it) (hn : items.size = n) (hix : ix.length = n) (hcy : cy.length ≤ 500) (hsz : n ≤ 500)
    (h : ∀ h', IsPrm h' it pool 1 n (.ref s.heap.objs.size) (numsOf ix cy) → h'.get? s.heap.objs.size = some { cls := .type "tuple", data := .seq ((ix.take n).map fun i => items.getD i .none).toArray } → h'.objs.size = s.heap.objs.size + 1 → (∀ b o, b ≠ it → s.heap.get? b = some o → h'.get? b = some o) →
      Q (some (.ref s.heap.objs.size)) { s with heap := h' }) : wpAny (model prog w) A (pyNext (.ref it)) Q E s := by
  have hT : s.TypeIs (.ref it) "itertools.permutations" := ⟨_, hit, rfl⟩
  unfold pyNext
  refine wpAny_bind (wpAny_attempt (wpAny_callSpecial?_slot (name := Str.ofString "__next__") hT next_prm (wpAny_call_entry next_prm hT entry_prm_next ?_ (args_prm_next _))))
  rw [next_eq]
  obtain ⟨o, k, ho, hd⟩ := hp
  refine wpAny_bind (prm_field (i := 0) hit rfl (wpAny_bind ?_))
  unfold itPoolItems
  refine wpAny_bind (wpAny_seqItems ho hd (wpAny_pure ?_))
  refine wpAny_bind ?_
  unfold itIntField
  refine wpAny_bind (prm_field (i := 2) hit rfl (wpAny_pure ?_))
  refine wpAny_bind (prm_nums hit ?_)
  refine wpAny_bind (wpAny_bind (prm_field (i := 1) hit rfl (wpAny_pure ?_)))
  show wpAny _ _ (setField (.ref it) 1 (rawInt 1) >>= _) _ _ s
  refine wpAny_bind (wpAny_setField hit rfl (by simp) ?_)
  have hit1 : IsPrm (s.heap.update it (Obj.mapFields (·.setIfInBounds 1 (rawInt 1)))) it pool 1 n last (numsOf ix cy) := by
    have z := Heap.get?_update_self (Obj.mapFields (·.setIfInBounds 1 (rawInt 1))) hit rfl
    refine z.trans ?_
    show some _ = some _
    rw [← set1 (stage := 0)]
    rfl
  have hz : (s.heap.update it (Obj.mapFields (·.setIfInBounds 1 (rawInt 1)))).objs.size = s.heap.objs.size := (Heap.SameBut.update (a := it) ..).1
  have et : ((n : Int)).toNat = n := by omega
  have ex : (ix ++ cy).take n = ix.take n := by rw [List.take_append_of_le_length (by omega)]
  rw [et]
  refine prm_result (items := items) (ix := ix ++ cy) (n := n) hit1 (by rw [List.length_append]; omega) fun h' a b c d => ?_
  replace a : IsPrm h' it pool 1 n (.ref (s.heap.update it (Obj.mapFields (·.setIfInBounds 1 (rawInt 1)))).objs.size) (numsOf ix cy) := a
  replace b : h'.get? (s.heap.update it (Obj.mapFields (·.setIfInBounds 1 (rawInt 1)))).objs.size = some { cls := .type "tuple", data := .seq (((ix ++ cy).take n).map fun i => items.getD i .none).toArray } := b
  replace c : h'.objs.size = (s.heap.update it (Obj.mapFields (·.setIfInBounds 1 (rawInt 1)))).objs.size + 1 := c
  rw [hz] at a b c
  rw [ex] at b
  show ∃ v, Fin.done (Flow.ret (Value.ref (s.heap.update it (Obj.mapFields (·.setIfInBounds 1 (rawInt 1)))).objs.size)) = _ ∧ _
  rw [hz]
  exact ⟨_, rfl, wpAny_pure (h h' a b c fun b' o' hb e => d b' o' hb ((Heap.get?_update_other _ _ (Ne.symm hb)).trans e))⟩
end
end Prm
namespace Prm
open PySem PySem.Spec
open Sem (wp)
open PySem.Builtin PySem.Builtin.Itertools PyProof.Rows
section
variable {prog : Program} {w : World} {A : Around} {E : Value → Shared → Prop} {s : Shared} {it pool : Addr} {last : Value} {n : Nat} {items : Array Value} {ix cy ix' cy' : List Nat}
theorem set4 {stage rr : Int} {nums : List Int} {ix' cy' : List Nat} : (([.ref pool, rawInt stage, rawInt rr, last] ++ nums.map rawInt).toArray.extract 0 4 ++ ((ix' ++ cy').map fun n : Nat => rawInt n).toArray) = ([.ref pool, rawInt stage, rawInt rr, last] ++ (numsOf ix' cy').map rawInt).toArray := by
  apply Array.toList_inj.mp
  unfold numsOf
  simp
  rfl
/-- a later turn -/
theorem prm_next1 {Q : Option Value → Shared → Prop} (hit : IsPrm s.heap it pool 1 n last (numsOf ix cy)) (hp : ∃ o k, s.heap.get? pool = some o ∧ o.data = .seq items k) (hn : items.size = n) (hix : ix.length = n) (hN : nextP n n ix cy = some (ix', cy')) (hix' : ix'.length ≤ 500) (hcy' : cy'.length ≤ 500) (hsz : n ≤ 500)
    (h : ∀ h', IsPrm h' it pool 1 n (.ref s.heap.objs.size) (numsOf ix' cy') → h'.get? s.heap.objs.size = some { cls := .type "tuple", data := .seq ((ix'.take n).map fun i => items.getD i .none).toArray } → h'.objs.size = s.heap.objs.size + 1 → (∀ b o, b ≠ it → s.heap.get? b = some o → h'.get? b = some o) →
      Q (some (.ref s.heap.objs.size)) { s with heap := h' }) : wpAny (model prog w) A (pyNext (.ref it)) Q E s := by
  have hT : s.TypeIs (.ref it) "itertools.permutations" := ⟨_, hit, rfl⟩
  unfold pyNext
  refine wpAny_bind (wpAny_attempt (wpAny_callSpecial?_slot (name := Str.ofString "__next__") hT next_prm (wpAny_call_entry next_prm hT entry_prm_next ?_ (args_prm_next _))))
  rw [next_eq]
  obtain ⟨o, k, ho, hd⟩ := hp
  refine wpAny_bind (prm_field (i := 0) hit rfl (wpAny_bind ?_))
  unfold itPoolItems
  refine wpAny_bind (wpAny_seqItems ho hd (wpAny_pure ?_))
  refine wpAny_bind ?_
  unfold itIntField
  refine wpAny_bind (prm_field (i := 2) hit rfl (wpAny_pure ?_))
  refine wpAny_bind (prm_nums hit ?_)
  refine wpAny_bind (wpAny_bind (prm_field (i := 1) hit rfl (wpAny_pure ?_)))
  have et : ((n : Int)).toNat = n := by omega
  have e1 : (ix ++ cy).take items.size = ix := by rw [hn, ← hix, List.take_left]
  have e2 : (ix ++ cy).drop items.size = cy := by rw [hn, ← hix, List.drop_left]
  have e3 : nextP items.size ((n : Int)).toNat ((ix ++ cy).take items.size) ((ix ++ cy).drop items.size) = some (ix', cy') := by rw [e1, e2, et, hn]; exact hN
  show wpAny _ _ (match nextP items.size ((n : Int)).toNat ((ix ++ cy).take items.size) ((ix ++ cy).drop items.size) with
      | some (indices, cycles) => _
      | none => _) _ _ s
  rw [e3]
  show wpAny _ _ (itSetNumbersFrom (.ref it) 4 (ix' ++ cy') >>= _) _ _ s
  refine wpAny_bind ?_
  unfold itSetNumbersFrom
  refine wpAny_updateFields hit rfl ?_ ?_
  · have hit1 : IsPrm (s.heap.update it (Obj.mapFields fun fs => fs.extract 0 4 ++ ((ix' ++ cy').map fun n : Nat => rawInt n).toArray)) it pool 1 n last (numsOf ix' cy') := by
      have z := Heap.get?_update_self (Obj.mapFields fun fs => fs.extract 0 4 ++ ((ix' ++ cy').map fun n : Nat => rawInt n).toArray) hit rfl
      refine z.trans ?_
      have z2 := set4 (pool := pool) (last := last) (stage := 1) (rr := n) (nums := numsOf ix cy) (ix' := ix') (cy' := cy')
      exact congrArg (fun v : Array Value => some ({ cls := .type "itertools.permutations", dict := none, data := .fields v, slots := #[] } : Obj)) z2
    have hz : (s.heap.update it (Obj.mapFields fun fs => fs.extract 0 4 ++ ((ix' ++ cy').map fun n : Nat => rawInt n).toArray)).objs.size = s.heap.objs.size := (Heap.SameBut.update (a := it) ..).1
    rw [et]
    refine prm_result (items := items) (ix := ix') (n := n) hit1 (by omega) fun h' a b c d => ?_
    replace a : IsPrm h' it pool 1 n (.ref (s.heap.update it (Obj.mapFields fun fs => fs.extract 0 4 ++ ((ix' ++ cy').map fun n : Nat => rawInt n).toArray)).objs.size) (numsOf ix' cy') := a
    replace b : h'.get? (s.heap.update it (Obj.mapFields fun fs => fs.extract 0 4 ++ ((ix' ++ cy').map fun n : Nat => rawInt n).toArray)).objs.size = some { cls := .type "tuple", data := .seq ((ix'.take n).map fun i => items.getD i .none).toArray } := b
    replace c : h'.objs.size = (s.heap.update it (Obj.mapFields fun fs => fs.extract 0 4 ++ ((ix' ++ cy').map fun n : Nat => rawInt n).toArray)).objs.size + 1 := c
    rw [hz] at a b c
    show ∃ v, Fin.done (Flow.ret (Value.ref (s.heap.update it (Obj.mapFields fun fs => fs.extract 0 4 ++ ((ix' ++ cy').map fun n : Nat => rawInt n).toArray)).objs.size)) = _ ∧ _
    rw [hz]
    exact ⟨_, rfl, wpAny_pure (h h' a b c fun b' o' hb e => d b' o' hb ((Heap.get?_update_other _ _ (Ne.symm hb)).trans e))⟩
  · show (Array.size _) ≤ _
    rw [set4]
    unfold numsOf
    simp only [List.size_toArray, List.length_append, List.length_map, List.length_cons, List.length_nil, sizeLine_eq]
    omega
/-- the end -/
theorem prm_end {Q : Option Value → Shared → Prop} (hh : A.handled = none) (hit : IsPrm s.heap it pool 1 n last (numsOf ix cy)) (hp : ∃ o k, s.heap.get? pool = some o ∧ o.data = .seq items k) (hn : items.size = n) (hix : ix.length = n) (hN : nextP n n ix cy = none)
    (h : ∀ h', (∀ b o, b ≠ it → s.heap.get? b = some o → h'.get? b = some o) → Q none { s with heap := h' }) : wpAny (model prog w) A (pyNext (.ref it)) Q E s := by
  have hT : s.TypeIs (.ref it) "itertools.permutations" := ⟨_, hit, rfl⟩
  unfold pyNext
  refine wpAny_bind (wpAny_attempt (wpAny_callSpecial?_slot (name := Str.ofString "__next__") hT next_prm (wpAny_call_entry next_prm hT entry_prm_next ?_ (args_prm_next _))))
  rw [next_eq]
  obtain ⟨o, k, ho, hd⟩ := hp
  refine wpAny_bind (prm_field (i := 0) hit rfl (wpAny_bind ?_))
  unfold itPoolItems
  refine wpAny_bind (wpAny_seqItems ho hd (wpAny_pure ?_))
  refine wpAny_bind ?_
  unfold itIntField
  refine wpAny_bind (prm_field (i := 2) hit rfl (wpAny_pure ?_))
  refine wpAny_bind (prm_nums hit ?_)
  refine wpAny_bind (wpAny_bind (prm_field (i := 1) hit rfl (wpAny_pure ?_)))
  have et : ((n : Int)).toNat = n := by omega
  have e1 : (ix ++ cy).take items.size = ix := by rw [hn, ← hix, List.take_left]
  have e2 : (ix ++ cy).drop items.size = cy := by rw [hn, ← hix, List.drop_left]
  have e3 : nextP items.size ((n : Int)).toNat ((ix ++ cy).take items.size) ((ix ++ cy).drop items.size) = none := by rw [e1, e2, et, hn]; exact hN
  show wpAny _ _ (match nextP items.size ((n : Int)).toNat ((ix ++ cy).take items.size) ((ix ++ cy).drop items.size) with
      | some (indices, cycles) => _
      | none => _) _ _ s
  rw [e3]
  show wpAny _ _ (setField (.ref it) 1 (rawInt 2) >>= _) _ _ s
  refine wpAny_bind (wpAny_setField hit rfl (by simp) ?_)
  unfold itStop
  refine wpAny_bind ?_
  simp only [newExc, newTuple]
  refine wpAny_bind (wpAny_newObj_type ?_ (by size_fits))
  refine wpAny_bind (m := firstArgMember _ _) (wpAny_of_eq (a := Value.none) (by first | rfl | (simp only [firstArgMember]; rfl)) ?_)
  refine wpAny_newObj_type ?_ (by size_fits)
  simp only [raiseNew]
  refine wpAny_bind (wpAny_handled ?_)
  rw [show A.in1.handled = none from hh]
  refine wpAny_bind (wpAny_pure (wpAny_throw ?_))
  refine wpAny_bind (wpAny_isInstance (T := "StopIteration") (b := true) ⟨_, Heap.get?_push_size _ rfl, rfl⟩ isSubtype_stop ?_)
  exact wpAny_pure (h _ fun b o hb e => Heap.get?_push_of_some _ (Heap.get?_push_of_some _ ((Heap.get?_update_other _ _ (Ne.symm hb)).trans e)))
end
end Prm
namespace Prm
open PySem PySem.Spec PyProof.Rows L2 N41
def permSt (n : Nat) : Nat → Option (List Nat × List Nat)
  | 0 => some (List.range n, (List.range n).map fun i => n - i)
  | i + 1 => (permSt n i).bind fun p => nextP n n p.1 p.2
/-- the arrangements of 0 .. n - 1, in order -/
def perms : Nat → List (List Nat)
  | 1 => [[0]]
  | 2 => [[0, 1], [1, 0]]
  | 3 => [[0, 1, 2], [0, 2, 1], [1, 0, 2], [1, 2, 0], [2, 0, 1], [2, 1, 0]]
  | 4 => [[0, 1, 2, 3], [0, 1, 3, 2], [0, 2, 1, 3], [0, 2, 3, 1], [0, 3, 1, 2], [0, 3, 2, 1], [1, 0, 2, 3], [1, 0, 3, 2], [1, 2, 0, 3], [1, 2, 3, 0], [1, 3, 0, 2], [1, 3, 2, 0],
      [2, 0, 1, 3], [2, 0, 3, 1], [2, 1, 0, 3], [2, 1, 3, 0], [2, 3, 0, 1], [2, 3, 1, 0], [3, 0, 1, 2], [3, 0, 2, 1], [3, 1, 0, 2], [3, 1, 2, 0], [3, 2, 0, 1], [3, 2, 1, 0]]
  | _ => []
def stOk (n i : Nat) : Bool := match permSt n i with
  | some (x, y) => x.length == n && y.length == n && x.all (· < n) && decide ((perms n)[i]? = some x)
  | none => false
def permOk (n : Nat) : Bool := (List.range (perms n).length).all (stOk n) && (permSt n (perms n).length).isNone && decide (0 < (perms n).length)
theorem perm1 : permOk 1 = true := by decide +kernel
theorem perm2 : permOk 2 = true := by decide +kernel
theorem perm3 : permOk 3 = true := by decide +kernel
theorem perm4 : permOk 4 = true := by decide +kernel
theorem permOk_of {n : Nat} (h1 : 1 ≤ n) (h4 : n ≤ 4) : permOk n = true := by
  have : n = 1 ∨ n = 2 ∨ n = 3 ∨ n = 4 := by omega
  rcases this with rfl | rfl | rfl | rfl
  · exact perm1
  · exact perm2
  · exact perm3
  · exact perm4
theorem ok_st {n i : Nat} (h : permOk n = true) (hi : i < (perms n).length) : ∃ x y, permSt n i = some (x, y) ∧ x.length = n ∧ y.length = n ∧ (∀ k ∈ x, k < n) ∧ (perms n)[i]? = some x := by
  unfold permOk at h
  rw [Bool.and_eq_true, Bool.and_eq_true] at h
  have h1 := List.all_eq_true.mp h.1.1 i (List.mem_range.mpr hi)
  unfold stOk at h1
  cases e : permSt n i with
  | none => rw [e] at h1; cases h1
  | some p =>
    obtain ⟨x, y⟩ := p
    rw [e] at h1
    simp only [Bool.and_eq_true, beq_iff_eq, decide_eq_true_eq, List.all_eq_true] at h1
    exact ⟨x, y, rfl, h1.1.1.1, h1.1.1.2, h1.1.2, h1.2⟩
theorem ok_fin {n : Nat} (h : permOk n = true) : permSt n (perms n).length = none := by
  unfold permOk at h
  rw [Bool.and_eq_true, Bool.and_eq_true] at h
  exact Option.isNone_iff_eq_none.mp h.1.2
theorem ok_pos {n : Nat} (h : permOk n = true) : 0 < (perms n).length := by
  unfold permOk at h
  rw [Bool.and_eq_true, Bool.and_eq_true] at h
  exact of_decide_eq_true h.2
theorem nums0_eq (n : Nat) : nums0 n = numsOf (List.range n) ((List.range n).map fun i => n - i) := by
  unfold nums0 numsOf
  rw [List.map_map]
  congr 1
  refine List.map_congr_left fun i hi => ?_
  have := List.mem_range.mp hi
  show (n : Int) - (i : Int) = ((n - i : Nat) : Int)
  omega
def rowV (p : List Nat) : List V := p.map fun k : Nat => V.int (k : Int)
/-- the arrangements, each in a new tuple -/
def Itp (ps : List (List Nat)) : It :=
  ⟨fun i _ => i < ps.length, fun i H x H' => ∃ T p, x = .ref T ∧ H T = none ∧ ps[i]? = some p ∧ H' = upd H T (.tup (rowV p)), fun i _ => i = ps.length⟩
theorem vals_row {n : Nat} {acc : Array Value} (hacc : ItemsOf (fun i v => ∃ t, v = .int (0 + (i : Int) * 1) t) acc n) : ∀ p : List Nat, (∀ k ∈ p, k < n) → Vals (rowV p) (p.map fun i => acc.getD i .none)
  | [], _ => Paired.nil
  | k :: p, h => by
    have hk := h k List.mem_cons_self
    have hsz : acc.size = n := hacc.1
    have e : acc[k]? = some acc[k] := Array.getElem?_eq_getElem (by omega)
    obtain ⟨t, et⟩ := hacc.2 k _ e
    refine Paired.cons (show RelV (.int (k : Int)) (acc.getD k .none) from ⟨t, ?_⟩) (vals_row hacc p fun j hj => h j (List.mem_cons_of_mem _ hj))
    rw [Array.getD_eq_getD_getElem?, e]
    show acc[k] = _
    rw [et]
    congr 1
    omega
/-- where the iterator stands ahead of turn i -/
def prmAt (n : Nat) (it pool : Addr) (i : Nat) (h : Heap) : Prop := ∃ last, match i with
  | 0 => IsPrm h it pool 0 n last (numsOf (List.range n) ((List.range n).map fun i => n - i))
  | j + 1 => ∃ x y, permSt n j = some (x, y) ∧ IsPrm h it pool 1 n last (numsOf x y)
theorem prmAt.rec {n i : Nat} {it pool : Addr} {h : Heap} (p : prmAt n it pool i h) : ∃ vs, h.get? it = some { cls := .type "itertools.permutations", dict := none, data := .fields vs, slots := #[] } := by
  obtain ⟨last, p⟩ := p
  cases i with
  | zero => exact ⟨_, p⟩
  | succ j =>
    obtain ⟨x, y, _, p⟩ := p
    exact ⟨_, p⟩
theorem prmAt.to {n i : Nat} {it pool : Addr} {h h' : Heap} (p : prmAt n it pool i h) (k : ∀ o, h.get? it = some o → h'.get? it = some o) : prmAt n it pool i h' := by
  obtain ⟨last, p⟩ := p
  cases i with
  | zero => exact ⟨last, k _ p⟩
  | succ j =>
    obtain ⟨x, y, e, p⟩ := p
    exact ⟨last, x, y, e, k _ p⟩
theorem turn_prm {P : Program} {w : World} {K : PySem.W.Frag} {tg : Expr} (n : Nat) (hn4 : n ≤ 4) (ok : permOk n = true) (it pool : Addr) (hne : pool ≠ it) (acc : Array Value) (hacc : ItemsOf (fun i v => ∃ t, v = .int (0 + (i : Int) * 1) t) acc n) :
    Turn P w K tg (Itp (perms n)) [it, pool] it (fun i h => i ≤ (perms n).length ∧ prmAt n it pool i h ∧ h.get? pool = some { cls := .type "tuple", data := .seq acc }) where
  mem := by simp
  obj := fun i h st b hb => by
    obtain ⟨_, p, q⟩ := st
    have e' : b = it ∨ b = pool := by simpa using hb
    rcases e' with rfl | rfl
    · obtain ⟨vs, e⟩ := p.rec
      exact ⟨_, e, fun v z => nomatch z⟩
    · exact ⟨_, q, fun v z => nomatch z⟩
  keep := fun i h h' st k => let ⟨a, p, q⟩ := st; ⟨a, p.to fun o e => k it (by simp) o e, k pool (by simp) _ q⟩
  item := by
    intro X hP hw hK hc i pins s σ H E I hf st hg
    subst hP hw hK
    obtain ⟨hi, ⟨last, p⟩, q⟩ := st
    have hg : i < (perms n).length := hg
    have hsz : acc.size = n := hacc.1
    obtain ⟨x, y, ex, lx, ly, bx, px⟩ := ok_st ok hg
    have hil : it < s.heap.objs.size := by
      cases i with
      | zero => exact Heap.lt_size p
      | succ j => obtain ⟨_, _, _, p⟩ := p; exact Heap.lt_size p
    have hpl : pool < s.heap.objs.size := Heap.lt_size q
    have fin : ∀ h' last', IsPrm h' it pool 1 n last' (numsOf x y) → h'.get? s.heap.objs.size = some { cls := .type "tuple", data := .seq ((x.take n).map fun i => acc.getD i .none).toArray } → (∀ b o, b ≠ it → s.heap.get? b = some o → h'.get? b = some o) →
        ∃ u, (some (Value.ref s.heap.objs.size)) = some u ∧ wpAny (model X.prog X.w) X.A (letOwnedTupleGo tg (.ref it) u) (fun _ s2 => ∃ v H', Inv X pins σ H' s2 ∧ RelV v u ∧ (Itp (perms n)).yld i H v H' ∧ (i + 1 ≤ (perms n).length ∧ prmAt n it pool (i + 1) s2.heap ∧ s2.heap.get? pool = some { cls := .type "tuple", data := .seq acc }) ∧ ∀ b ∈ [it, pool], H' b = none) E { s with heap := h' } := by
      intro h' last' hp hT hk
      have ew : x.take n = x := List.take_of_length_le (by omega)
      rw [ew] at hT
      have new : ObjOk X.prog X.w (upd H s.heap.objs.size (.tup (rowV x))) h' s.heap.objs.size (.tup (rowV x)) := by
        refine ⟨?_, _, vals_row hacc x bx, ⟨_, hT, rfl, _, rfl⟩⟩
        unfold rowV
        rw [List.length_map, sizeLine_eq]
        omega
      have I1 : Inv X pins σ (upd H s.heap.objs.size (.tup (rowV x))) { s with heap := h', toks := s.toks } :=
        I.turnedNew (ch := [it]) (fun b ob hb q => hk b ob (by simpa using hb) q) (fun b hb => hf b (by simpa using Or.inl (by simpa using hb))) (Nat.le_refl _) new
      refine ⟨_, rfl, go_of (s := { s with heap := h' }) (n := "itertools.permutations") hp rfl rfl (by decide) ⟨.ref s.heap.objs.size, _, I1, rfl, ⟨_, x, rfl, I.hok.fresh (Nat.le_refl _), px, rfl⟩, ⟨hg, ⟨last', x, y, ex, hp⟩, hk _ _ hne q⟩, fun b hb => ?_⟩⟩
      have hb' : b < s.heap.objs.size := by
        have e' : b = it ∨ b = pool := by simpa using hb
        rcases e' with z | z
        · rw [z]; exact hil
        · rw [z]; exact hpl
      rw [upd_ne (Nat.ne_of_lt hb')]
      exact (hf b hb).1
    cases i with
    | zero =>
      have e0 : permSt n 0 = some (List.range n, (List.range n).map fun i => n - i) := rfl
      rw [e0] at ex
      cases ex
      refine prm_next0 p ⟨_, _, q, rfl⟩ hne hsz (by rw [List.length_range]) (by omega) (by omega) fun h' a b c d => fin h' _ a b d
    | succ j =>
      obtain ⟨x0, y0, e0, p⟩ := p
      have ex' : nextP n n x0 y0 = some (x, y) := by
        have z : permSt n (j + 1) = (permSt n j).bind fun p => nextP n n p.1 p.2 := rfl
        rw [e0] at z
        rw [ex] at z
        exact z.symm
      obtain ⟨x1, y1, ex1, lx1, _, _, _⟩ := ok_st ok (i := j) (by omega)
      rw [e0] at ex1
      cases ex1
      refine prm_next1 p ⟨_, _, q, rfl⟩ hsz lx1 ex' (by omega) (by omega) (by omega) fun h' a b c d => fin h' _ a b d
  done := by
    intro X hP hw hK hc i pins s σ H E I hf st hg
    subst hP hw hK
    obtain ⟨hi, ⟨last, p⟩, q⟩ := st
    have hg : i = (perms n).length := hg
    have hsz : acc.size = n := hacc.1
    obtain ⟨f0, f1, f2, f3, f4, f5⟩ := hf it (by simp)
    have hpos := ok_pos ok
    cases i with
    | zero => omega
    | succ j =>
      obtain ⟨x0, y0, e0, p⟩ := p
      have ex' : nextP n n x0 y0 = none := by
        have z : permSt n (j + 1) = (permSt n j).bind fun p => nextP n n p.1 p.2 := rfl
        rw [e0, hg, ok_fin ok] at z
        exact z.symm
      obtain ⟨x1, y1, ex1, lx1, _, _, _⟩ := ok_st ok (i := j) (by omega)
      rw [e0] at ex1
      cases ex1
      exact prm_end (I.ok.hd hc) p ⟨_, _, q, rfl⟩ hsz lx1 ex' fun h' hk => ⟨rfl, I.turned (t' := s.toks) (fun b o hb e => hk b o hb e) f0 f1 f3 f4 f5⟩
  self := fun A i s Q E st h => by
    obtain ⟨_, ⟨last, p⟩, _⟩ := st
    cases i with
    | zero => exact iter_prm' p h
    | succ j =>
      obtain ⟨_, _, _, p⟩ := p
      exact iter_prm' p h

/-- permutations(range(n)) -/
def iPrm (ta : TE) : TI := fun σ H R => tRg1 ta σ H fun i j H1 => ∃ n : Nat, i = 0 ∧ j = (n : Int) ∧ 1 ≤ n ∧ n ≤ 4 ∧ R (Itp (perms n)) H1
theorem pi_prm {X : Cx} {tg a : Expr} {ta : TE} {p pos p2 pos2 : Pos} (hg2 : Gl X "range") (hm2 : X.mg "range" = none) (hg : Gl X "permutations") (hm : X.mg "permutations" = some (.type "itertools.permutations")) (hc : X.calm = true) (ha : PE X a ta)
    (na : starEach [a] X.env = (false, eval a X.env) :: starEach [] X.env := by rfl) (nr : starEach [.Call (.Name "range" p2) [a] [] pos2] X.env = (false, eval (.Call (.Name "range" p2) [a] [] pos2) X.env) :: starEach [] X.env := by rfl) :
    PI X tg (.Call (.Name "permutations" p) [.Call (.Name "range" p2) [a] [] pos2] [] pos) (iPrm ta) := by
  refine ⟨fun pins s σ H R I h => ?_⟩
  have hR : PRg X (.Call (.Name "range" p2) [a] [] pos2) (tRg1 ta) := prg_1 hg2 hm2 ha na
  refine Call_ (ld_glob I hg hm (PyProof.Rows.callWith_type1 (args_cons (thn (hR pins s σ H (fun i j H1 => ∃ n : Nat, i = 0 ∧ j = (n : Int) ∧ 1 ≤ n ∧ n ≤ 4 ∧ R (Itp (perms n)) H1) I ?_) fun x s1 h1 => args_nil ?_) nr) nr))
  · exact h
  · obtain ⟨r, i, j, t, u, v, H', rfl, hr, I1, n, rfl, rfl, h1, h4, q⟩ := h1
    refine call_prm (I1.ok.hd hc) hr (by omega) fun h' tk acc hk hacc => ?_
    have hz : (h'.push { cls := .type "tuple", data := .seq acc }).objs.size = h'.objs.size + 1 := Heap.size_push ..
    have Ih : L2.Inv X pins σ H' { s1 with heap := h', toks := tk } := I1.kept hk
    have kp : ∀ b o, s1.heap.get? b = some o → ((h'.push { cls := .type "tuple", data := .seq acc }).push { cls := .type "itertools.permutations", data := .fields ([.ref h'.objs.size, rawInt 0, rawInt n, .none] ++ (nums0 n).map rawInt).toArray }).get? b = some o := fun b o e => Heap.get?_push_of_some _ (Heap.get?_push_of_some _ (hk b o e))
    have hit : IsPrm ((h'.push { cls := .type "tuple", data := .seq acc }).push { cls := .type "itertools.permutations", data := .fields ([.ref h'.objs.size, rawInt 0, rawInt n, .none] ++ (nums0 n).map rawInt).toArray }) (h'.push { cls := .type "tuple", data := .seq acc }).objs.size h'.objs.size 0 n .none (numsOf (List.range n) ((List.range n).map fun i => n - i)) := by
      rw [← nums0_eq]
      exact Heap.get?_push_size _ rfl
    have I2 : L2.Inv X pins σ H' { s1 with heap := (h'.push { cls := .type "tuple", data := .seq acc }).push { cls := .type "itertools.permutations", data := .fields ([.ref h'.objs.size, rawInt 0, rawInt n, .none] ++ (nums0 n).map rawInt).toArray }, toks := tk } := I1.kept kp
    refine iter_prm' (s := { s1 with heap := (h'.push { cls := .type "tuple", data := .seq acc }).push { cls := .type "itertools.permutations", data := .fields ([.ref h'.objs.size, rawInt 0, rawInt n, .none] ++ (nums0 n).map rawInt).toArray }, toks := tk }) hit ?_
    refine ⟨_, [(h'.push { cls := .type "tuple", data := .seq acc }).objs.size, h'.objs.size], _, _, H', rfl, I2, turn_prm n h4 (permOk_of h1 h4) _ h'.objs.size (by rw [hz]; exact Nat.ne_of_lt (Nat.lt_succ_self _)) acc hacc, ⟨Nat.zero_le _, ⟨.none, hit⟩, Heap.get?_push_of_some _ (Heap.get?_push_size _ rfl)⟩, fun b hb => ?_, q⟩
    have e' : b = (h'.push { cls := .type "tuple", data := .seq acc }).objs.size ∨ b = h'.objs.size := by simpa using hb
    have hle2 : h'.objs.size ≤ b := by
      rcases e' with z | z
      · rw [z, hz]; exact Nat.le_succ _
      · rw [z]; exact Nat.le_refl _
    exact Ih.fpOk hle2 (Ih.hok.fresh hle2)
section
variable {K : PySem.W.Frag} {Γ : List (Addr × HO)} {σ : L2.St} {G : Hp} {ta : TE}
def rowD (p : List Nat) : PyData := .tuple (p.map natD)
theorem das_row {G : Hp} : ∀ p : List Nat, Das G (rowV p) (p.map natD)
  | [] => .nil
  | k :: p => .cons (.int (k : Int)) (das_row p)
theorem i_prm {n : Nat} (h : EvD Γ ta σ G (.int (n : Int))) (h1 : 1 ≤ n) (h4 : n ≤ 4) : EvI Γ (iPrm ta) σ G ((perms n).map rowD) := fun G1 H1 a b R q => h G1 H1 a b _ fun v G2 H2 s dv => by
  cases dv.inv_int
  refine ⟨(n : Int), rfl, n, rfl, rfl, h1, h4, q _ G2 H2 s ⟨fun G' H' e1 e2 => ?_, fun i d G' H' hi e1 e2 => ?_⟩⟩
  · show ((perms n).map rowD).length = (perms n).length
    rw [List.length_map]
  · rw [List.getElem?_map] at hi
    cases e : (perms n)[i]? with
    | none => rw [e] at hi; cases hi
    | some p =>
      rw [e] at hi
      cases hi
      refine ⟨(List.getElem?_eq_some_iff.mp e).1, fun x H'' y => ?_⟩
      obtain ⟨T, p', rfl, hT, hp', rfl⟩ := y
      rw [e] at hp'
      cases hp'
      exact ⟨_, Stp.new e2 hT, .tup upd_same (das_row p)⟩
end
end Prm
/-! GX4: a dict whose keys are tables (tuples of tuples of ints). -/
namespace N41
open PySem PySem.Spec PyProof.Rows L2

/-! ### tables -/
def rD (row : List Int) : PyData := .tuple (row.map PyData.int)
def tD (T : List (List Int)) : PyData := .tuple (T.map rD)
def rK (row : List Int) : NestedKey := .tup (row.map NestedKey.num)
def tK (T : List (List Int)) : NestedKey := .tup (T.map rK)
theorem rK_inj {a b : List Int} (h : rK a = rK b) : a = b := by
  unfold rK at h
  injection h with h
  exact List.map_inj_right (fun x y e => by injection e) |>.mp h
theorem tK_inj {a b : List (List Int)} (h : tK a = tK b) : a = b := by
  unfold tK at h
  injection h with h
  exact List.map_inj_right (fun x y e => rK_inj e) |>.mp h
section
variable {P : Program} {w : World} {H : Hp} {h : Heap}
theorem nested_row {row : List Int} {v : V} (ok : HOk P w H h) (d : Da H v (rD row)) {u : Value} (r : RelV v u) : NestedIs h (rK row) u := by
  obtain ⟨p, xs, rfl, hp, hs⟩ := d.inv_tup
  cases r
  cases hs.inv_ints
  obtain ⟨_, its, rv, ⟨o, ho, hc, n, hd⟩⟩ := ok p _ hp
  refine .tup ho hc hd ?_
  have key : ∀ (row : List Int) (its : List Value), Vals (row.map V.int) its → NestedAll h (row.map NestedKey.num) its := by
    intro row
    induction row with
    | nil => intro its r; cases r; exact .nil
    | cons x row ih =>
      intro its r
      cases r with
      | cons r1 r2 =>
        obtain ⟨t, rfl⟩ := r1
        exact .cons (.int x t) (ih _ r2)
  have := key row its rv
  simpa using this
theorem nested_tab {T : List (List Int)} {v : V} (ok : HOk P w H h) (d : Da H v (tD T)) {u : Value} (r : RelV v u) : NestedIs h (tK T) u := by
  obtain ⟨p, xs, rfl, hp, hs⟩ := d.inv_tup
  cases r
  obtain ⟨_, its, rv, ⟨o, ho, hc, n, hd⟩⟩ := ok p _ hp
  refine .tup ho hc hd ?_
  have key : ∀ (T : List (List Int)) (xs : List V) (its : List Value), Das H xs (T.map rD) → Vals xs its → NestedAll h (T.map rK) its := by
    intro T
    induction T with
    | nil => intro xs its d r; cases d; cases r; exact .nil
    | cons x T ih =>
      intro xs its d r
      cases d with
      | cons d1 d2 =>
        cases r with
        | cons r1 r2 => exact .cons (nested_row ok d1 r1) (ih _ _ d2 r2)
  have := key T xs its hs rv
  simpa using this
theorem depth_row (row : List Int) : (rK row).depth ≤ 8 := by
  unfold rK
  have key : ∀ row : List Int, NestedKey.depthAll (row.map NestedKey.num) = 0 := by
    intro row
    induction row with
    | nil => rfl
    | cons x row ih => simp [NestedKey.depthAll, NestedKey.depth, ih]
  simp only [NestedKey.depth, key]
  omega
theorem depth_tab (T : List (List Int)) : (tK T).depth ≤ 8 := by
  unfold tK
  have key0 : ∀ row : List Int, NestedKey.depthAll (row.map NestedKey.num) = 0 := by
    intro row
    induction row with
    | nil => rfl
    | cons x row ih => simp [NestedKey.depthAll, NestedKey.depth, ih]
  have key : ∀ T : List (List Int), NestedKey.depthAll (T.map rK) ≤ 1 := by
    intro T
    induction T with
    | nil => simp [NestedKey.depthAll]
    | cons x T ih =>
      simp only [List.map_cons, NestedKey.depthAll, rK, NestedKey.depth, key0]
      omega
  have := key T
  simp only [NestedKey.depth]
  omega
theorem is_tab {T : List (List Int)} {a : Addr} (ok : HOk P w H h) (d : Da H (.ref a) (tD T)) : (nestedKind P w).is h (tK T) a := ⟨nested_tab ok d rfl, depth_tab T⟩
end
/-- the dict at d: its keys' tables with where they stand, each with True -/
def NDo (P : Program) (w : World) (d : Addr) (xs : List (List (List Int) × Addr)) : HO :=
  .ext fun h => (d == sysModules) = false ∧ ∃ o es ep, h.get? d = some o ∧ o.ExactDict ∧ o.data = .dict es ep ∧ es.toList = xs.map (fun x => entryOfKey (nestedKind P w) (tK x.1, x.2, .bool true)) ∧ (xs.map (·.1)).Nodup
theorem entry_map {P : Program} {w : World} (xs : List (List (List Int) × Addr)) : xs.map (fun x => entryOfKey (nestedKind P w) (tK x.1, x.2, .bool true)) = (xs.map fun x => ((tK x.1, x.2, Value.bool true) : NestedKey × Addr × Value)).map (entryOfKey (nestedKind P w)) := by rw [List.map_map]; rfl
theorem keys_nodup {xs : List (List (List Int) × Addr)} (h : (xs.map (·.1)).Nodup) : ((xs.map fun x => ((tK x.1, x.2, Value.bool true) : NestedKey × Addr × Value)).map (·.1)).Nodup := by
  rw [List.map_map]
  have e : ((fun x : NestedKey × Addr × Value => x.1) ∘ fun x : List (List Int) × Addr => ((tK x.1, x.2, Value.bool true) : NestedKey × Addr × Value)) = tK ∘ fun x => x.1 := rfl
  rw [e, ← List.map_map]
  exact List.Pairwise.map tK (fun a b hab e => hab (tK_inj e)) h
theorem nd_ok {P : Program} {w : World} {H : Hp} {h : Heap} {d : Addr} {xs : List (List (List Int) × Addr)} (hd : (d == sysModules) = false) (hm : ∃ o es ep, h.get? d = some o ∧ o.ExactDict ∧ o.data = .dict es ep ∧ es.toList = xs.map (fun x => entryOfKey (nestedKind P w) (tK x.1, x.2, .bool true)) ∧ (xs.map (·.1)).Nodup) :
    ObjOk P w H h d (NDo P w d xs) := by
  refine ⟨⟨hd, hm⟩, let ⟨o, _, _, e, _⟩ := hm; ⟨o, e⟩, fun h1 h2 ⟨a, o, es, ep, e, r⟩ k => ⟨a, o, es, ep, k o e, r⟩⟩
/-- the keys' tables stand -/
def KeysD (H : Hp) (xs : List (List (List Int) × Addr)) : Prop := ∀ x ∈ xs, Da H (.ref x.2) (tD x.1)
theorem nd_of {P : Program} {w : World} {H : Hp} {h : Heap} {d : Addr} {xs : List (List (List Int) × Addr)} (ok : HOk P w H h) (e : H d = some (NDo P w d xs)) (ks : KeysD H xs) :
    (d == sysModules) = false ∧ h.DictOfH (nestedKind P w) d (xs.map fun x => (tK x.1, x.2, Value.bool true)) := by
  obtain ⟨⟨hd, o, es, ep, h1, h2, h3, h4, h5⟩, _, _⟩ := ok d _ e
  refine ⟨hd, o, es, ep, h1, h2, h3, by rw [h4, entry_map], fun x hx => ?_, keys_nodup h5⟩
  obtain ⟨y, hy, rfl⟩ := List.mem_map.mp hx
  exact is_tab ok (ks y hy)
theorem atKey_tab {xs : List (List (List Int) × Addr)} {T : List (List Int)} : (atKey (xs.map fun x => (tK x.1, x.2, Value.bool true)) (tK T)).isSome = decide (T ∈ xs.map (·.1)) := by
  induction xs with
  | nil => simp [atKey]
  | cons x xs ih =>
    by_cases h : x.1 = T
    · subst h
      simp [atKey]
    · have h1 : ¬ tK x.1 = tK T := fun z => h (tK_inj z)
      have h2 : ¬ T = x.1 := fun z => h z.symm
      have e : atKey ((x :: xs).map fun x => (tK x.1, x.2, Value.bool true)) (tK T) = atKey (xs.map fun x => (tK x.1, x.2, Value.bool true)) (tK T) := by
        unfold atKey
        rw [List.map_cons, List.find?_cons_of_neg (by simpa using h1)]
      rw [e, ih, List.map_cons]
      simp [h2]
section
variable {X : Cx}
/-- t not in d -/
def rNinD (P : Program) (w : World) : R2 := fun x y H Q => ∃ a d xs T, x = .ref a ∧ y = .ref d ∧ H d = some (NDo P w d xs) ∧ KeysD H xs ∧ Da H (.ref a) (tD T) ∧ Q (.bl (!decide (T ∈ xs.map (·.1)))) H
theorem op_ninD (hu : X.A.units + 200 < cLine) : OpR X (compareOp .NotIn) (rNinD X.prog X.w) := by
  intro pins s σ H x y v u Q I rx ry h
  obtain ⟨a, d, xs, T, rfl, rfl, hd, hk, ha, q⟩ := h
  cases rx
  cases ry
  obtain ⟨hs, hm⟩ := nd_of I.hok hd hk
  refine notIn_keyed (knd := nestedKind X.prog X.w) (show X.A.units + 1 + 8 < cLine by omega) (is_tab I.hok ha) hs ⟨_, hm, rfl⟩ ?_
  rw [valueAt_pairsH, Option.isSome_map, atKey_tab]
  exact ⟨.bl _, H, I.tok _, rfl, q⟩
/-- d[t] = True, t not there -/
def rPutD (P : Program) (w : World) : TSet := fun o i v H Q => ∃ d a xs T, o = .ref d ∧ i = .ref a ∧ v = .bl true ∧ H d = some (NDo P w d xs) ∧ KeysD H xs ∧ Da H (.ref a) (tD T) ∧ T ∉ xs.map (·.1) ∧ xs.length < sizeLine ∧ Q (upd H d (NDo P w d (xs ++ [(T, a)])))
theorem set_D (hu : X.A.units + 200 < cLine) : PSet X (rPutD X.prog X.w) := by
  intro pins s σ H o i v ov iv u Q I ro ri rv h
  obtain ⟨d, a, xs, T, rfl, rfl, rfl, hd, hk, ha, hn, hz, q⟩ := h
  cases ro
  cases ri
  cases rv
  obtain ⟨hs, hm⟩ := nd_of I.hok hd hk
  have hnone : atKey (xs.map fun x => (tK x.1, x.2, Value.bool true)) (tK T) = none := by
    have z := atKey_tab (xs := xs) (T := T)
    rw [decide_eq_false hn] at z
    cases e : atKey (xs.map fun x => (tK x.1, x.2, Value.bool true)) (tK T) with
    | none => rfl
    | some p => rw [e] at z; cases z
  refine wpAny_setItem_heap (knd := nestedKind X.prog X.w) (show X.A.units + 1 + 8 < cLine by omega) (is_tab I.hok ha) hm (fun h' hm' hsb => ?_) (by rw [List.length_map]; omega)
  rw [storedH_new hnone] at hm'
  have e3 : (xs.map fun x => ((tK x.1, x.2, Value.bool true) : NestedKey × Addr × Value)) ++ [(tK T, a, Value.bool true)] = (xs ++ [(T, a)]).map fun x => (tK x.1, x.2, Value.bool true) := by
    rw [List.map_append]
    rfl
  rw [e3] at hm'
  obtain ⟨o, es, ep, h1, h2, h3, h4, h5, h6⟩ := hm'
  have nd : ((xs ++ [(T, a)]).map (·.1)).Nodup := by
    rw [List.map_map] at h6
    have h7 : ((fun x : NestedKey × Addr × Value => x.1) ∘ fun x : List (List Int) × Addr => ((tK x.1, x.2, Value.bool true) : NestedKey × Addr × Value)) = tK ∘ fun x => x.1 := rfl
    rw [h7, ← List.map_map] at h6
    exact (List.pairwise_map.mp h6).imp fun hne e => hne (by rw [e])
  refine ⟨_, I.write (x := d) (e := d) (by rw [hd]; exact trivial) (.inl rfl) (fun b q hb z => (hsb.2 b hb).trans z) ⟨_, h1⟩ (nd_ok hs ⟨o, es, ep, h1, h2, h3, by rw [h4, entry_map], nd⟩), q⟩
/-- {t: True} -/
def tDisp1 (P : Program) (w : World) (tk tv : TE) : TE := fun σ H Q => ∀ p, H p = none → tk σ (upd H p (NDo P w p [])) fun x H1 => tv σ H1 fun y H2 => H2 p = some (NDo P w p []) ∧ ∃ a T, x = .ref a ∧ y = .bl true ∧ Da H2 (.ref a) (tD T) ∧ Q (.ref p) (upd H2 p (NDo P w p [(T, a)]))
theorem pe_disp1 (hu : X.A.units + 200 < cLine) {k v : Expr} {pos : Pos} {tk tv : TE} (hk : PE X k tk) (hv : PE X v tv) : PE X (.Dict [some k] [v] pos) (tDisp1 X.prog X.w tk tv) := by
  refine ⟨fun pins s σ H Q I q => ?_⟩
  have hn := I.hok.fresh (Nat.le_refl s.heap.objs.size)
  have hbig : (s.heap.objs.size == sysModules) = false := beq_eq_false_iff_ne.mpr (Nat.ne_of_gt I.big)
  have hp0 : (s.heap.push { cls := .type "dict", data := .dict #[] }).get? s.heap.objs.size = some { cls := .type "dict", data := .dict #[] } := Heap.get?_push_size _ rfl
  have I1 := I.laid (a := s.heap.objs.size) (o := NDo X.prog X.w s.heap.objs.size []) (h' := s.heap.push { cls := .type "dict", data := .dict #[] }) (t' := s.toks) (fun _ _ q => Heap.get?_push_of_some _ q) (Nat.le_refl _)
    (nd_ok hbig ⟨_, #[], _, hp0, ⟨rfl, rfl, rfl⟩, rfl, rfl, List.nodup_nil⟩)
  have q := q _ hn
  rw [arm_eval_Dict]
  have hshape : (evalEachOpt [some k] X.env).zip ((evalEach [v] X.env).map fun v => do let x ← v; standAt pos; pure x) = ([(eval k X.env, do let x ← eval v X.env; standAt pos; pure x)] : List (Sem Value × Sem Value)).map fun p => (some p.1, p.2) := rfl
  rw [hshape, dictDisplay_pairs _ (List.cons_ne_nil _ _) (by simp)]
  refine wpAny_bind (wpAny_standAt (wpAny_bind (wpAny_subDictH (knd := nestedKind X.prog X.w) (Q := fun d s' => wpAny (model X.prog X.w) X.A (pure (Value.ref d)) _ _ s') (show X.A.units + 8 < cLine by omega) (by simp) ?_)))
  refine evalPairs_cons (wpAny_mono (hk.run pins _ σ _ _ I1 q) (fun kv s₁ h₁ => ?_) fun _ _ e => e)
  obtain ⟨x, H1, I2, rk, q2⟩ := h₁
  refine wpAny_bind (wpAny_mono (hv.run pins _ σ _ _ I2 q2) (fun vv s₂ h₂ => ?_) fun _ _ e => e)
  obtain ⟨y, H2, I3, rv, hp, a, T, rfl, rfl, ha, q3⟩ := h₂
  refine wpAny_bind (wpAny_standAt (wpAny_pure (evalPairs_nil ?_)))
  cases rk
  cases rv
  obtain ⟨hs3, hm3⟩ := nd_of I3.hok hp (fun x hx => by cases hx)
  refine ⟨[(tK T, a, .bool true)], ⟨rfl, rfl, is_tab I3.hok ha, trivial⟩, hm3, fun h' tk hm' hsb => wpAny_pure ?_⟩
  have hm' : h'.DictOfH (nestedKind X.prog X.w) s.heap.objs.size [(tK T, a, .bool true)] := hm'
  obtain ⟨o, es, ep, h1, h2, h3, h4, h5, h6⟩ := hm'
  refine ⟨.ref s.heap.objs.size, _, I3.write (x := s.heap.objs.size) (e := s.heap.objs.size) (by rw [hp]; exact trivial) (.inl rfl) (fun b q hb z => (hsb.2 b hb).trans z) ⟨_, h1⟩ (nd_ok (xs := [(T, a)]) hs3 ⟨o, es, ep, h1, h2, h3, h4, by simp⟩), rfl, q3⟩
end
end N41
/-! GX5: defs whose frames carry no guard (for repr); calls with keywords alone; the law's head for them. -/
namespace N41
open PySem PySem.Spec PyProof.Rows L2

abbrev CXN : CXT := C8.CX0
abbrev EN : XK := C8.E0
structure FnG (P : Program) (w : World) (K : PySem.W.Frag) (mg : Str → Option Value) (base : Heap) (k : Nat) (f : Addr) (fd : FuncData) (ps : List Str) (sp : Sp) : Prop where
  len : ∀ vs H Q E, sp vs H Q E → vs.length = ps.length
  run : ∀ (A : Around) (outer : List Env) (s : Shared) (H : Hp) (args : Args) (us : List Value) (vs : List V) (Q : VK) (E : XK), A.guards = some [] → Room k A → Env0 P w K mg base A outer s H → BindsTo s fd args (ps.zip us) → Vals vs us → sp vs H Q E →
    codeAny (model P w) A (.call (.ref f) args) (CR CXN outer P w H s Q E) s
theorem FnG.mono {P : Program} {w : World} {K : PySem.W.Frag} {mg : Str → Option Value} {base : Heap} {j k : Nat} {f : Addr} {fd : FuncData} {ps : List Str} {sp : Sp} (F : FnG P w K mg base j f fd ps sp) (h : j ≤ k) :
    FnG P w K mg base k f fd ps sp := ⟨F.len, fun A outer s H args us vs Q E g hr => F.run A outer s H args us vs Q E g (hr.mono h)⟩

/-- a def of the text, by its body -/
theorem fn_ofG {P : Program} {w : World} {K : PySem.W.Frag} {mg : Str → Option Value} {base : Heap} {k : Nat} {f : Addr} {name qual : Str} {params : Arguments} {body : List Stmt} {scope : Scope} {dV kV doc pm cdv ct oc : Value} {an od : Option Addr}
    {osl : Array (Option Value)} {N ps : List Str} {sp : Sp} (lk : K.lookup f = some ⟨oc, od, .func (PySem.W.fnOf name qual params body scope dV kV doc pm an cdv ct), osl⟩) (hcd : PySem.W.codeIn K cdv qual = true) (S : FnScope N ps scope)
    (len : ∀ vs H Q E, sp vs H Q E → vs.length = ps.length)
    (hbody : ∀ (A : Around) (outer : List Env) (s : Shared) (H : Hp) (vs : List V) (Q : VK) (E : XK), A.guards = some [] → Room k (A.deeper (envOfC qual scope s.heap.objs.size f cdv)) → sp vs H Q E →
      ∃ t, PSs (cxOf CXN P w K mg base N qual scope f cdv A outer s H E) body t ∧ t { nx := fun _ H' => Q .non H', rt := Q } (start N vs) H) :
    FnG P w K mg base (k + 1) f (PySem.W.fnOf name qual params body scope dV kV doc pm an cdv ct) ps sp := by
  refine ⟨len, fun A outer s H args us vs Q E hgu hr e0 hb r hsp => ?_⟩
  have hl := len _ _ _ _ hsp
  have KX : K.In s.heap := e0.mod.kin.keeps fun b o e => (e0.bs b o e).1
  have lim : s.heap.NoLimit := e0.mod.nolimit.keeps fun b o e => (e0.bs b o e).1
  have hkind : ∀ y ∈ ps.zip us, scope.names.lookup y.1 = some .local ∨ (scope.names.lookup y.1 = some .cell ∧ ((cellsFrom (s.heap.objs.size + 1) scope.names []).lookup y.1).isSome = true) := fun ⟨n, v⟩ hy => by
    rcases S.par n (List.of_mem_zip hy).1 with q | q
    · exact .inl q
    · exact .inr ⟨q, PySem.W.cellsFrom_some _ _ _ (.inl q)⟩
  refine codeAny_call_function hr.depth (KX _ _ lk) rfl S.co S.gen rfl (PySem.W.codeRec_of KX hcd) (hb _ _ _ _ ?_)
  refine wpAny_newFunctionEnv_cells S.kind hkind fun env he s1 x => ?_
  subst he
  refine ⟨lim.keeps x.toInCall.keep, codeAny_func ?_⟩
  obtain ⟨t, ht, hq⟩ := hbody A outer s H vs Q E hgu (hr.deeper _) hsp
  have I : Inv (cxOf CXN P w K mg base N qual scope f cdv A outer s H E) [] (start N vs) H s1 := inv_start S hr.hd e0 hl r x
  refine wpAny_mono (ht.run [] s1 (start N vs) H _ I hq) (fun fl s' hs => ?_) fun e s' hs => hs
  have fin : ∀ {σ' : L2.St} {H' : Hp} {v : V} {u : Value}, Inv (cxOf CXN P w K mg base N qual scope f cdv A outer s H E) [] σ' H' s' → RelV v u → Q v H' → CE outer P w H s Q u s' :=
    fun {σ' H' v u} J rv q => ⟨v, H', J.os, J.bare, J.base, J.hok, rv, q⟩
  cases fl with
  | ret u =>
    obtain ⟨v, σ', H', J, rv, q⟩ := hs
    exact fin J rv q
  | next =>
    obtain ⟨σ', H', J, q⟩ := hs
    exact fin (v := V.non) (u := Value.none) J rfl q
  | brk =>
    obtain ⟨_, _, _, q⟩ := hs
    exact False.elim q
  | cont =>
    obtain ⟨_, _, _, q⟩ := hs
    exact False.elim q

section
variable {X : Cx} {k j : Nat} {f C : Addr} {fd : FuncData} {ps ks : List Str} {sp : Sp} {ds : List Value} {x m : Str} {p pos apos : Pos} {e o : Expr} {es : List Expr} {kws : List Keyword} {ta : TE} {t tk : TA} {g : List Value → List Value → List Value} {gV : List V → List V → List V} {gV1 : List V → List V}
theorem run_fnG {pins : List (Addr × Obj)} {σ : L2.St} {H : Hp} {s : Shared} {Q : VK} {us : List Value} {vs : List V} (F : FnG X.prog X.w X.K X.mg X.base k f fd ps sp) (hgu : X.A.guards = some []) (hr : Room k X.A) (hb : Binds X.K fd ps [])
    (I : Inv X pins σ H s) (r : Vals vs us) (h : sp vs H Q EN) : wpAny (model X.prog X.w) X.A (call (.ref f) us) (EP X pins σ Q) X.xe s := by
  have hl : us.length = ps.length := by rw [← r.length]; exact F.len _ _ _ _ h
  have b := hb s us I.kIn (by rw [List.append_nil]; exact hl)
  rw [List.append_nil] at b
  refine wpAny_call (codeAny_mono (F.run X.A X.stack s H ⟨us, []⟩ us vs Q EN hgu hr I.env0 b r h) fun r s' hq => ?_)
  cases r with
  | error e => exact hq.elim
  | ok fl =>
    cases fl with
    | ret u => exact I.after hq
    | next => exact False.elim hq
    | brk => exact False.elim hq
    | cont => exact False.elim hq
/-- how values given by the keywords ks alone bind -/
structure KB (K : PySem.W.Frag) (fd : FuncData) (ps ks : List Str) (g : List Value → List Value) (gV : List V → List V) : Prop where
  to : ∀ (s : Shared) (ws : List Value), K.In s.heap → (g ws).length = ps.length → BindsTo s fd ⟨[], ks.zip ws⟩ (ps.zip (g ws))
  rel : ∀ {zs : List V} {ws : List Value}, Vals zs ws → Vals (gV zs) (g ws)
theorem run_fnkG {g : List Value → List Value} {pins : List (Addr × Obj)} {σ : L2.St} {H : Hp} {s : Shared} {Q : VK} {ws : List Value} {zs : List V} (F : FnG X.prog X.w X.K X.mg X.base k f fd ps sp) (hgu : X.A.guards = some []) (hr : Room k X.A) (hb : KB X.K fd ps ks g gV1)
    (I : Inv X pins σ H s) (rz : Vals zs ws) (h : sp (gV1 zs) H Q EN) : wpAny (model X.prog X.w) X.A (call (.ref f) [] (ks.zip ws)) (EP X pins σ Q) X.xe s := by
  have r2 := hb.rel rz
  have hl : (g ws).length = ps.length := by rw [← r2.length]; exact F.len _ _ _ _ h
  refine wpAny_call (codeAny_mono (F.run X.A X.stack s H ⟨[], ks.zip ws⟩ (g ws) (gV1 zs) Q EN hgu hr I.env0 (hb.to s ws I.kIn hl) r2 h) fun r s' hq => ?_)
  cases r with
  | error e => exact hq.elim
  | ok fl =>
    cases fl with
    | ret u => exact I.after hq
    | next => exact False.elim hq
    | brk => exact False.elim hq
    | cont => exact False.elim hq

/-- a def that may be called by its name -/
structure CalG (P : Program) (w : World) (K : PySem.W.Frag) (mg : Str → Option Value) (base : Heap) (k : Nat) (x : Str) (sp : Sp) : Prop where
  ex : ∃ (f : Addr) (fd : FuncData) (ps : List Str), FnG P w K mg base k f fd ps sp ∧ mg x = some (.ref f) ∧ PySem.W.keepIn K (.ref f) = true ∧ Binds K fd ps [] ∧ (∃ (oc : Value) (od : Option Addr) (osl : Array (Option Value)), K.lookup f = some ⟨oc, od, .func fd, osl⟩) ∧ ps = fd.params.args.map (·.arg)
/-- .. with keywords ks alone; gV puts their values in the parameters' order -/
structure CalK (P : Program) (w : World) (K : PySem.W.Frag) (mg : Str → Option Value) (base : Heap) (k : Nat) (x : Str) (ks : List Str) (gV : List V → List V) (sp : Sp) : Prop where
  ex : ∃ (f : Addr) (fd : FuncData) (ps : List Str) (g : List Value → List Value), FnG P w K mg base k f fd ps sp ∧ mg x = some (.ref f) ∧ PySem.W.keepIn K (.ref f) = true ∧ KB K fd ps ks g gV
def tCallG (sp : Sp) (t : TA) : TE := fun σ H Q => t σ H fun vs H1 => sp vs H1 Q EN
def tCallGK (sp : Sp) (gV : List V → List V) (tk : TA) : TE := fun σ H Q => tk σ H fun zs H1 => sp (gV zs) H1 Q EN
theorem pe_cg (c : CalG X.prog X.w X.K X.mg X.base k x sp) (hgu : X.A.guards = some []) (hr : Room j X.A) (hk : k ≤ j) (hg : Gl X x) (ha : PA X (e :: es) t)
    (hdb : (x == ("__debug__" : Str)) = false := by decide) (he : starEach (e :: es) X.env = (false, eval e X.env) :: starEach es X.env := by rfl) (hpl : (backTo pos (starEach es X.env)).any (·.1) = false := by rfl) :
    PE X (.Call (.Name x p) (e :: es) [] pos) (tCallG sp t) := by
  obtain ⟨f, fd, ps, F, hm, kp, b, _⟩ := c.ex
  refine ⟨fun pins s σ H Q I h => ?_⟩
  refine wpAny_Call_Name_kw (ld_glob I hg hm ?_ hdb)
  refine PySem.W.callWith_K (h₀ := X.base) I.ok.mod.kin kp (thn (ha.run pos pins s σ H _ I h) fun us s1 ⟨vs, H1, I1, r, q⟩ => ⟨I1.kIn, ?_⟩) he hpl
  exact run_fnG F hgu (hr.mono hk) b I1 r q
theorem pe_ck (c : CalK X.prog X.w X.K X.mg X.base k x ks gV1 sp) (hgu : X.A.guards = some []) (hr : Room j X.A) (hk : k ≤ j) (hg : Gl X x) (hkw : PK X kws tk)
    (hall : (backToKw pos (keywordEach kws X.env)).all (·.1.isSome) = true := by rfl) (hks : (backToKw pos (keywordEach kws X.env)).filterMap (·.1) = ks := by rfl)
    (hdb : (x == ("__debug__" : Str)) = false := by decide)
    (hpl : ((backTo pos (starEach [] X.env)).any (·.1) || (backToKw pos (keywordEach kws X.env)).any (·.1.isNone)) = false := by rfl) :
    PE X (.Call (.Name x p) [] kws pos) (tCallGK sp gV1 tk) := by
  obtain ⟨f, fd, ps, g, F, hm, kp, b⟩ := c.ex
  refine ⟨fun pins s σ H Q I h => ?_⟩
  refine wpAny_Call_Name_kw (ld_glob I hg hm ?_ hdb)
  refine PySem.W.callWith_KW0 (h₀ := X.base) I.ok.mod.kin kp hall (thn (hkw.run pos pins s σ H _ I h) fun ws s1 ⟨zs, H1, I1, rz, q⟩ => ⟨I1.kIn, ?_⟩) hpl
  rw [hks]
  exact run_fnkG F hgu (hr.mono hk) b I1 rz q
end

/-! ### a def of the module, by its body -/
section
variable {P : Program} {w : World} {K : PySem.W.Frag} {mg : Str → Option Value} {base : Heap}
theorem fnG0 {x : Str} {st : Stmt} {f : Addr} {fd : FuncData} {N ps : List Str} {k : Nat} {sp : Sp} (F : C8.Fun K x x st f fd) (S : FnScope N ps (C8.fnScope st)) (len : ∀ vs H Q E, sp vs H Q E → vs.length = ps.length)
    (hbody : ∀ (cdv : Value) (A : Around) (outer : List Env) (s : Shared) (H : Hp) (vs : List V) (Q : VK) (E : XK), A.guards = some [] → Room k (A.deeper (envOfC x (C8.fnScope st) s.heap.objs.size f cdv)) → sp vs H Q E →
      ∃ t, PSs (cxOf CXN P w K mg base N x (C8.fnScope st) f cdv A outer s H E).nox (C8.fnBody st) t ∧ t { nx := fun _ H' => Q .non H', rt := Q } (start N vs) H) : FnG P w K mg base (k + 1) f fd ps sp := by
  obtain ⟨oc, od, dV, kV, doc, pm, an, cdv, ct, osl, rfl, lk, hcd⟩ := F.ex
  refine fn_ofG lk hcd S len fun A outer s H vs Q E hgu hr hsp => ?_
  obtain ⟨t, h, q⟩ := hbody cdv A outer s H vs Q E hgu hr hsp
  exact ⟨t, h.nox, q⟩
theorem calG0 {x : Str} {st : Stmt} {f : Addr} {fd : FuncData} {N ps : List Str} {k : Nat} {sp : Sp} (F : C8.Def K mg x st f fd) (b : Binds K fd ps []) (S : FnScope N ps (C8.fnScope st)) (len : ∀ vs H Q E, sp vs H Q E → vs.length = ps.length)
    (hbody : ∀ (cdv : Value) (A : Around) (outer : List Env) (s : Shared) (H : Hp) (vs : List V) (Q : VK) (E : XK), A.guards = some [] → Room k (A.deeper (envOfC x (C8.fnScope st) s.heap.objs.size f cdv)) → sp vs H Q E →
      ∃ t, PSs (cxOf CXN P w K mg base N x (C8.fnScope st) f cdv A outer s H E).nox (C8.fnBody st) t ∧ t { nx := fun _ H' => Q .non H', rt := Q } (start N vs) H) (hps : ps = (C8.fnArgs st).args.map (·.arg) := by decide +kernel) : CalG P w K mg base (k + 1) x sp := by
  refine ⟨f, fd, ps, fnG0 F.fn S len hbody, F.mgf, F.kp, b, ?_, ?_⟩
  · obtain ⟨oc, od, dV, kV, doc, pm, an, cdv, ct, osl, rfl, lk, hcd⟩ := F.fn.ex
    exact ⟨_, _, _, lk⟩
  · obtain ⟨oc, od, dV, kV, doc, pm, an, cdv, ct, osl, rfl, lk, hcd⟩ := F.fn.ex
    exact hps
/-- .. by keywords -/
theorem calK_of {x : Str} {st : Stmt} {ps ks : List Str} {k : Nat} {sp : Sp} {g : List Value → List Value} {gV : List V → List V} {f : Addr} {fd : FuncData} (c : CalG P w K mg base k x sp) (F : C8.Def K mg x st f fd) (df : fd.defaults = .none) (hps : ps = (C8.fnArgs st).args.map (·.arg))
    (hb : ∀ (kV doc pm : Value) (an : Option Addr) (cdv ct : Value) (ws : List Value), (g ws).length = ps.length → bindArgs (PySem.W.fnOf x x (C8.fnArgs st) (C8.fnBody st) (C8.fnScope st) .none kV doc pm an cdv ct) ⟨[], ks.zip ws⟩ = pure (ps.zip (g ws)))
    (rel : ∀ {zs : List V} {ws : List Value}, Vals zs ws → Vals (gV zs) (g ws)) : CalK P w K mg base k x ks gV sp := by
  obtain ⟨f2, fd2, ps2, F2, hm, kp, b, ⟨oc2, od2, osl2, lk2⟩, hps2⟩ := c.ex
  obtain ⟨oc, od, dV, kV, doc, pm, an, cdv, ct, osl, e, lk, hcd⟩ := F.fn.ex
  have ef := hm.symm.trans F.mgf
  cases ef
  have el := lk2.symm.trans lk
  cases el
  subst e
  have ed : dV = .none := df
  subst ed
  have e2 : ps2 = ps := hps2.trans hps.symm
  subst e2
  exact ⟨_, _, ps2, g, F2, hm, kp, fun s ws _ hl => .of_eq (hb kV doc pm an cdv ct ws hl), rel⟩
theorem CalG.mono {k j : Nat} {x : Str} {sp : Sp} (c : CalG P w K mg base k x sp) (h : k ≤ j) : CalG P w K mg base j x sp := by
  obtain ⟨f, fd, ps, F, r⟩ := c.ex
  exact ⟨f, fd, ps, F.mono h, r⟩
end

/-! ### the head -/
/-- the law's promise, at the heap behind the top -/
theorem law_callG {P : Program} {w : World} {K : PySem.W.Frag} {mg mb : Str → Option Value} {k : Nat} {fa a : Addr} {fd : FuncData} {x : Str} {sp : Sp} {s₁ : Shared} {vs : List Value} {ns : List Int}
    (KX : K.In s₁.heap) (hns : s₁.heap.Ns mainGlobals mg) (hb : s₁.heap.Ns builtinsNs mb) (hbb : ∀ x : Str, x ≠ "__name__" → mb x = bootBuiltins x) (hlim : s₁.heap.NoLimit) (hg : s₁.gens = #[])
    (ha : s₁.heap.get? a = some { cls := .type "list", data := .seq vs.toArray }) (hi : IntsAre vs ns) (hl : ns.length ≤ sizeLine) (hr : Room k callerA)
    (F : ∀ base : Heap, K.In base → base.Ns mainGlobals mg → FnG P w K mg base k fa fd [x] sp) (hbind : ∀ (s : Shared) (u : Value), BindsTo s fd ⟨[u], []⟩ [(x, u)])
    (hsp : ∀ H : Hp, Only H → SqL K H a (ns.map V.int) → sp [.ref a] H (fun v _ => v = .bl true) EN) :
    codeAny (model P w) callerA (.call (.ref fa) ⟨[.ref a], []⟩) (fun r s' => r = .ok (.ret (.bool true)) ∧ OldK s₁.heap s'.heap ∧ s'.os = s₁.os ∧ AllBare s'.gens) s₁ := by
  have rv := vals_ints hi
  have lenV := hi.length
  -- from an abstract heap in which nothing but the script may be tracked
  have core : ∀ H : Hp, Only H → SqL K H a (ns.map V.int) → HOk P w H s₁.heap → (∀ b, H b ≠ none → b = a) → (H a ≠ none → K.lookup a = none) →
      codeAny (model P w) callerA (.call (.ref fa) ⟨[.ref a], []⟩) (fun r s' => r = .ok (.ret (.bool true)) ∧ OldK s₁.heap s'.heap ∧ s'.os = s₁.os ∧ AllBare s'.gens) s₁ := by
    intro H hO hS hok hA hK
    have base_of : ∀ {b : Addr} {o : Obj}, s₁.heap.get? b = some o → H b = none → (hidT s₁.heap H).get? b = some o := fun e n => hidT_get e n
    have noA : ∀ {b : Addr} {o : Obj} {es : Array DictEntry} {ep : Nat}, s₁.heap.get? b = some o → o.data = .dict es ep → H b = none := fun {b o es ep} e d => by
      cases q : H b with
      | none => rfl
      | some u =>
        have e' : b = a := hA b (by rw [q]; simp)
        subst e'
        rw [ha] at e; cases e
        have d' : Data.seq vs.toArray _ = Data.dict es ep := d
        cases d'
    have nsK : ∀ {b : Addr} {m : Str → Option Value}, s₁.heap.Ns b m → (hidT s₁.heap H).Ns b m := fun {b m} ⟨o, es, ep, e, d, r⟩ => ⟨o, es, ep, base_of e (noA e d), d, r⟩
    have hKb : K.In (hidT s₁.heap H) := fun b o e => base_of (KX b o e) (by
      cases q : H b with
      | none => rfl
      | some u =>
        have e' : b = a := hA b (by rw [q]; simp)
        subst e'
        rw [hK (by rw [q]; simp)] at e; cases e)
    have hM : Mod K mg (hidT s₁.heap H) := ⟨hKb, nsK hns, ⟨mb, nsK hb, hbb⟩, let ⟨mc, h1, h2⟩ := hlim; ⟨mc, nsK h1, h2⟩⟩
    have e0 : Env0 P w K mg (hidT s₁.heap H) callerA [] s₁ H := ⟨rfl, hM, fun b o e => of_hidT e, Nat.le_of_eq (hidT_size _ _), trivial, fun b hb => absurd (show b ∈ ([] : List Addr) from hb) (by simp), hok, .of_eq hg⟩
    refine codeAny_mono ((F _ hKb (nsK hns)).run callerA [] s₁ H ⟨[.ref a], []⟩ [.ref a] [.ref a] _ _ rfl hr e0 (hbind s₁ (.ref a)) (.cons rfl .nil) (hsp H hO hS)) fun r s' h => ?_
    cases r with
    | error e => exact False.elim h
    | ok fl =>
      cases fl with
      | next => exact False.elim h
      | brk => exact False.elim h
      | cont => exact False.elim h
      | ret u =>
        obtain ⟨v, H', os, bare, un, hok', r', q⟩ := h
        have q' : v = .bl true := q
        subst q'
        obtain rfl : u = Value.bool true := r'
        refine ⟨rfl, OldK.of_keep fun b o e => ?_, os, bare⟩
        cases q : H b with
        | none => exact un.keep b o e q (by intro z; exact absurd (show b ∈ ([] : List Addr) from z) (by simp)) (by simp)
        | some u =>
          rcases hO b with z | ⟨ob, xs, z⟩
          · rw [q] at z; cases z
          · have z2 := un.frzs b ob _ z
            obtain ⟨e1, _⟩ := hok b _ z
            obtain ⟨e2, _⟩ := hok' b _ z2
            rw [e] at e1; cases e1
            exact e2
  cases hk : K.lookup a with
  | some o =>
    -- the script is one of the module's own objects
    have e := KX a o hk
    rw [ha] at e
    cases e
    refine core (fun _ => none) (fun _ => .inl rfl) (.inr ⟨_, vs.toArray, _, hk, rfl, rfl, rfl, by rw [List.size_toArray, lenV]; exact hl, by simpa using rv⟩) (fun b u z => by have z' : (none : Option HO) = some u := z; cases z') (fun b z => absurd rfl z) fun z => absurd rfl z
  | none =>
    refine core (fun b => if b = a then some (.frz { cls := .type "list", data := .seq vs.toArray } (.lst (ns.map V.int))) else none) (fun b => ?_) (.inl (.inr ⟨{ cls := .type "list", data := .seq vs.toArray }, if_pos rfl⟩)) (fun b u z => ?_) (fun b z => ?_) fun _ => hk
    · by_cases hb : b = a
      · exact .inr ⟨_, _, if_pos hb⟩
      · exact .inl (if_neg hb)
    · by_cases hb : b = a
      · have z' := (if_pos hb).symm.trans z
        cases z'
        subst hb
        exact ⟨ha, by rw [List.length_map]; exact hl, vs, _, rv, ha⟩
      · have z' := (if_neg hb).symm.trans z
        cases z'
    · by_cases hb : b = a
      · exact hb
      · exact absurd (if_neg hb) z
/-- k_head's goal, from the law's promise -/
theorem walk_ofG {l : PySem.W.OpenLaw} {n k : Nat} {q : Program} {loose : List Str} {XP : (Str → Option Value) → Heap → Prop} {YP : World → Heap → Prop} {d : DefRec} {K : Params → PySem.W.Frag} {sp : World → Sp} {x : Str}
    (hn : l.most = some n) (hn2 : n ≤ sizeLine) (hdf : d.params.defaults = []) (hr : Room k callerA)
    (hY : ∀ (w : World) (h : Heap), YP w h → (K w.params).In h)
    (F : ∀ (w : World) (mg : Str → Option Value) (fa : Addr) (h : Heap), (K w.params).In h → h.Ns mainGlobals mg → mg d.name = some (.ref fa) →
      ∃ fd : FuncData, (∀ (s : Shared) (u : Value), BindsTo s fd ⟨[u], []⟩ [(x, u)]) ∧
        ∀ base : Heap, (K w.params).In base → base.Ns mainGlobals mg → FnG l.prog w (K w.params) mg base k fa fd [x] (sp w))
    (hsp : ∀ (w : World) (H : Hp) (a : Addr) (ns : List Int), ns.length ≤ n → Only H → SqL (K w.params) H a (ns.map V.int) → sp w [.ref a] H (fun v _ => v = .bl true) EN) :
    PySem.W.WalkO q loose XP YP l.row.toRowW d [] (fun f vs => PySem.call f vs) := by
  refine Att.attach_call hn hdf fun w s₀ s₁ mg mb fa o pm cd doc a vs ns G Y ho hd hcd hmg hobj hints hlen hg => ?_
  have KX := hY w _ Y
  obtain ⟨fd, hb, hF⟩ := F w mg fa _ KX G.T.g hmg
  exact law_callG KX G.T.g G.T.b G.T.builtins G.T.nolimit hg hobj hints (Nat.le_trans hlen hn2) hr hF hb (fun H hO hS => hsp w H a ns hlen hO hS)
end N41
/-! GX6: xs[-k:] = ys. -/
namespace N41
open PySem PySem.Spec PyProof.Rows L2
section
variable {prog : Program} {w : World} {A : Around} {E : Value → Shared → Prop} {s : Shared}
/-- list.__setitem__ with a slice whose bounds are known -/
theorem setItem_sliceB {l b sl : Addr} {items new : Array Value} {n n2 : Nat} {vl vu : Value} {a c : Nat} {lo hi : Option Int} {Q : Unit → Shared → Prop}
    (e : s.heap.get? l = some { cls := .type "list", data := .seq items n }) (e2 : s.heap.get? b = some { cls := .type "list", data := .seq new n2 }) (hne : l ≠ b)
    (hs : s.heap.IsSliceOf sl vl vu .none) (pl : IsPart vl lo) (pu : IsPart vu hi) (hbd : sliceBounds lo hi none items.size = ((a : Int), (c : Int), 1)) (hac : a ≤ c) (hc : c ≤ items.size)
    (hsz : items.size + new.size ≤ sizeLine) (h : Q () { s with heap := s.heap.update l (Obj.mapSeq fun xs => xs.extract 0 a ++ new ++ xs.extract c xs.size) }) :
    wpAny (model prog w) A (setItem (.ref l) (.ref sl) (.ref b)) Q E s := by
  have hl : s.heap.IsList l items := PySem.IsL.isList e
  have hb : s.heap.IsList b new := PySem.IsL.isList e2
  obtain ⟨os, hos, hcs, hds⟩ := id hs
  have hTs : s.TypeIs (.ref sl) "slice" := ⟨os, hos, hcs⟩
  have hstep : ¬ ((rawPart none == rawInt 0) = true) := Bool.false_ne_true
  have hsame : Builtin.List.listSameRef (.ref l) (.ref b) = false := by
    unfold Builtin.List.listSameRef
    exact beq_eq_false_iff_ne.mpr hne
  have hmax : (max (a : Int) (c : Int)).toNat = c := by omega
  have hz' : ((fun xs : Array Value => xs.extract 0 a ++ new ++ xs.extract c xs.size) items).size ≤ sizeLine + 1 := by
    simp only [Array.size_append, Array.size_extract]
    omega
  unfold setItem
  try with_reducible refine wpAny_holding ?_
  first | refine wpAny_bind (wpAny_pure ?_) | skip
  refine wpAny_bind (wpAny_sequenceKey hl.typeIs (by decide) ?_)
  refine wpAny_bind (wpAny_callSpecial?_slot (name := Str.ofString "__setitem__") hl.typeIs slot_list_setitem
    (wpAny_call_entry slot_list_setitem hl.typeIs entry_list_setitem ?_ (args_list_setitem _ _ _)))
  show wpAny _ _ (Builtin.List.listSubscript? (.ref sl) >>= _) _ _ s
  refine wpAny_bind ?_
  unfold Builtin.List.listSubscript?
  refine wpAny_bind (wpAny_specialOf hTs slice_no_index ?_)
  simp only [Option.isNone_none, if_true]
  refine wpAny_pure ?_
  show wpAny _ _ (typeOf (.ref sl) >>= _) _ _ s
  refine wpAny_bind (wpAny_typeOf hTs ?_)
  first
    | rw [if_neg (by decide)]
    | refine PySem.W.KFB.if_not (by decide) ?_
  rw [listSliceParts_eq]
  refine wpAny_bind (wpAny_bind (wpAny_field hos hds (x := .none) rfl (wpAny_bind (wpAny_listPart .none ?_))))
  rw [if_neg hstep]
  refine wpAny_bind (wpAny_field hos hds (x := vl) rfl (wpAny_bind (wpAny_listPart pl ?_)))
  refine wpAny_bind (wpAny_field hos hds (x := vu) rfl (wpAny_bind (wpAny_listPart pu (wpAny_pure ?_))))
  first
    | simp only [hsame, Bool.false_eq_true, if_false]
    | refine PySem.W.KFB.if_not hsame ?_
    | (dsimp only
       rw [if_neg (by rw [hsame]; exact Bool.false_ne_true)])
  refine wpAny_bind (m := Builtin.List.listAllItems (.ref b) "must assign iterable to extended slice") ?_
  unfold Builtin.List.listAllItems
  refine wpAny_bind (wpAny_typeOf hb.typeIs ?_)
  first
    | refine PySem.W.KFB.if_so (by decide) ?_
    | rw [if_pos (by decide)]
    | simp only [beq_self_eq_true, Bool.true_or, if_true]
  unfold Builtin.List.listItems
  refine wpAny_bind (wpAny_seqItems e2 rfl (wpAny_pure ?_))
  refine wpAny_bind (wpAny_bind (wpAny_seqItems e rfl (wpAny_pure ?_)))
  refine wpAny_bind (wpAny_of_eq ((sliceIndices_raw lo hi none items.size (by simp)).trans (congrArg (pure : Int × Int × Int → Sem (Int × Int × Int)) hbd)) ?_)
  show wpAny _ _ (if ((1 : Int) == 1) = true then _ else _) _ _ s
  rw [if_pos (by decide)]
  refine wpAny_bind (wpAny_rule ?_)
  first
    | simp only [notLongL hsz, Bool.false_eq_true, if_false]
    | refine PySem.W.KFB.if_not (notLongL hsz) ?_
  first | refine wpAny_bind (wpAny_pure ?_) | skip
  show wpAny _ _ (updateSeq l (fun xs => xs.extract 0 ((a : Int)).toNat ++ new ++ xs.extract (max (a : Int) (c : Int)).toNat xs.size) >>= _) _ _ s
  rw [hmax, Int.toNat_natCast]
  refine wpAny_bind (wpAny_updateSeq (hz := Nat.le_trans (Nat.le_add_right _ _) hsz) (_hz' := hz') e rfl ?_)
  refine wpAny_bind (wpAny_letGo ?_)
  first
    | exact wpAny_bind (wpAny_pure (wpAny_pure ⟨.none, rfl, wpAny_pure h⟩))
    | exact wpAny_pure ⟨.none, rfl, wpAny_pure h⟩
end
theorem bounds_tail {k n : Nat} (h : 1 ≤ k) : sliceBounds (some (-(k : Int))) none none n = (((n - k : Nat) : Int), (n : Int), 1) := by
  simp only [sliceBounds, Option.getD_none]
  have h1 : (-(k : Int)) < 0 := by omega
  simp only [h1, if_true, show (1 : Int) > 0 by decide]
  congr 1
  · omega
section
variable {X : Cx}
/-- xs[-k:] = ys, ys another list -/
def gTail (to : TE) (k : Nat) : TG := fun v σ H Q => to σ H fun o H1 => ∃ l b xs ys, o = .ref l ∧ v = .ref b ∧ l ≠ b ∧ H1 l = some (.lst xs) ∧ H1 b = some (.lst ys) ∧ xs.length + ys.length ≤ sizeLine ∧ Q σ (upd H1 l (.lst (xs.take (xs.length - k) ++ ys)))
theorem pg_tail {o lo : Expr} {to : TE} {tl : TO} {k : Nat} {p2 pos : Pos} (h1k : 1 ≤ k) (ho : PE X o to) (hl : PO X (some lo) tl) (htl : ∀ σ H Q, Q (some (-(k : Int))) H → tl σ H Q)
    (ha : ∀ v, assign (.Subscript o (.Slice (some lo) none none p2) pos) X.env v = (do
      let ov ← holding [v] (eval o X.env)
      let iv ← holding [v, ov] (eval (.Slice (some lo) none none p2) X.env)
      standAt pos
      holding [v, ov, iv] (setItem ov iv v)
      release [iv, v, ov] []) := by intro _; rfl) : PG X (.Subscript o (.Slice (some lo) none none p2) pos) (gTail to k) := by
  refine ⟨fun pins s σ H v u Q I r h => ?_⟩
  rw [ha]
  refine wpAny_bind (wpAny_holding (thn (ho.run pins s σ H _ I h) fun ov s1 ⟨x, H1, I1, r1, q1⟩ => ?_))
  obtain ⟨l, b, xs, ys, rfl, rfl, hne, hx, hy, hz, q⟩ := q1
  refine wpAny_bind (wpAny_holding (wpAny_Slice (thn (hl.run pins s1 σ H1 (fun z H' => z = some (-(k : Int)) ∧ H' = H1) I1 (htl σ H1 _ ⟨rfl, rfl⟩)) fun vl s2 ⟨l', H2, I2, pl, q2⟩ => ?_)))
  obtain ⟨rfl, rfl⟩ := q2
  rw [evalPart_none]
  refine wpAny_pure ?_
  refine wpAny_pure ?_
  have I4 : Inv X pins σ H2 { s2 with heap := s2.heap.push { cls := .type "slice", data := .fields #[vl, .none, .none] } } := I2.kept (t' := s2.toks) fun b ob q => Heap.get?_push_of_some _ q
  refine wpAny_bind (wpAny_standAt (wpAny_bind (wpAny_holding ?_)))
  cases r1
  cases r
  obtain ⟨z, its, n, r, hl', e⟩ := I4.lstM hx
  obtain ⟨z2, its2, n2, r2, hl2, e2⟩ := I4.lstM hy
  refine setItem_sliceB (a := its.length - k) (c := its.length) e e2 hne (Heap.IsSliceOf.new ..) pl .none (by rw [List.size_toArray]; exact bounds_tail h1k) (by omega) (by rw [List.size_toArray]; omega) (by rw [List.size_toArray, List.size_toArray]; omega) ?_
  refine wpAny_release ⟨σ, _, I4.lset (its' := its.take (its.length - k) ++ its2) (t' := s2.toks) (ys := xs.take (xs.length - k) ++ ys) hx e ?_ ?_ ?_, q⟩
  · rw [splice_eq its its2, List.drop_length, List.append_nil]
  · rw [hl']
    exact Vals.append (r.take _) r2
  · rw [List.length_append, List.length_take]
    omega
end
section
variable {K : PySem.W.Frag} {Γ : List (Addr × HO)} {σ : L2.St} {G H : Hp} {te : TE} {ds : List PyData} {xs : List V} {l : Addr} {D : Ends}
/-- .. as a statement: the list at slot i owned -/
theorem s_tail {i k : Nat} (c : Cn Γ G H) (hi : σ[i]? = some (some (.ref l))) (o : Own G H l (.lst xs)) (h : EvL Γ te σ G ds) (hz : xs.length + ds.length ≤ sizeLine)
    (q : ∀ ys G2 H2, Stp [] G H G2 H2 → Das G2 ys ds → Stp [l] G H G2 (upd H2 l (.lst (xs.take (xs.length - k) ++ ys))) → Own G2 (upd H2 l (.lst (xs.take (xs.length - k) ++ ys))) l (.lst (xs.take (xs.length - k) ++ ys)) → D.nx σ (upd H2 l (.lst (xs.take (xs.length - k) ++ ys)))) :
    tAsg te (gTail (tVar i) k) D σ H := h G H (Same.refl _) c _ fun p ys G2 H2 s hp o2 dy =>
  ⟨_, hi, l, p, xs, ys, rfl, rfl, o.ne hp, (s.own o).2, o2.2, by rw [dy.length]; exact hz, q ys G2 H2 s dy (s.of0.trans (Stp.put s.i (s.own o) (by simp))) (s.own o).put⟩
end
end N41
/-! W0: the text's defs, their slots. -/
namespace N41
open PySem PySem.Spec PyProof.Rows L2
def top (i : Nat) : Stmt := PySem.Challenge.pw_neverhalves_k41_whole_rows_to_boards_and.main.body.getD i (.Pass ⟨0, 0, 0, 0⟩)
abbrev st_places_in : Stmt := top 8
abbrev N_places_in : List Str := ["told", "many", "row"]
theorem nd_places_in : (N_places_in).Nodup := by decide +kernel
theorem sc_places_in : FnScope N_places_in ["told"] (C8.fnScope st_places_in) := C8.fnScope_by (by decide +kernel)
abbrev st_near : Stmt := top 9
abbrev N_near : List Str := ["told", "place", "many", "other"]
theorem nd_near : (N_near).Nodup := by decide +kernel
theorem sc_near : FnScope N_near ["told", "place", "many"] (C8.fnScope st_near) := C8.fnScope_by (by decide +kernel)
abbrev st_weigh_piece : Stmt := top 10
abbrev N_weigh_piece : List Str := ["told", "found", "start", "many", "piece", "at", "place", "other", "here", "there", "scale", "one", "common"]
theorem nd_weigh_piece : (N_weigh_piece).Nodup := by decide +kernel
theorem sc_weigh_piece : FnScope N_weigh_piece ["told", "found", "start", "many"] (C8.fnScope st_weigh_piece) := C8.fnScope_by (by decide +kernel)
abbrev st_weights_of : Stmt := top 11
abbrev N_weights_of : List Str := ["told", "many", "found", "place", "other"]
theorem nd_weights_of : (N_weights_of).Nodup := by decide +kernel
theorem sc_weights_of : FnScope N_weights_of ["told"] (C8.fnScope st_weights_of) := C8.fnScope_by (by decide +kernel)
abbrev st_checked_board : Stmt := top 12
abbrev N_checked_board : List Str := ["board"]
theorem nd_checked_board : (N_checked_board).Nodup := by decide +kernel
theorem sc_checked_board : FnScope N_checked_board ["board"] (C8.fnScope st_checked_board) := C8.fnScope_by (by decide +kernel)
abbrev st_checked_row : Stmt := top 13
abbrev N_checked_row : List Str := ["board", "row", "place"]
theorem nd_checked_row : (N_checked_row).Nodup := by decide +kernel
theorem sc_checked_row : FnScope N_checked_row ["board", "row"] (C8.fnScope st_checked_row) := C8.fnScope_by (by decide +kernel)
abbrev st_swap : Stmt := top 14
abbrev N_swap : List Str := ["board", "place", "head", "rows", "at", "row", "entry", "side", "made", "over"]
theorem nd_swap : (N_swap).Nodup := by decide +kernel
theorem sc_swap : FnScope N_swap ["board", "place"] (C8.fnScope st_swap) := C8.fnScope_by (by decide +kernel)
abbrev st_swap_by : Stmt := top 15
abbrev N_swap_by : List Str := ["board", "row", "place"]
theorem nd_swap_by : (N_swap_by).Nodup := by decide +kernel
theorem sc_swap_by : FnScope N_swap_by ["board", "row"] (C8.fnScope st_swap_by) := C8.fnScope_by (by decide +kernel)
abbrev st_swapped_by : Stmt := top 16
abbrev N_swapped_by : List Str := ["board", "row"]
theorem nd_swapped_by : (N_swapped_by).Nodup := by decide +kernel
theorem sc_swapped_by : FnScope N_swapped_by ["board", "row"] (C8.fnScope st_swapped_by) := C8.fnScope_by (by decide +kernel)
abbrev st_joined_places : Stmt := top 17
abbrev N_joined_places : List Str := ["board", "many", "found", "seen", "start", "piece", "at", "other"]
theorem nd_joined_places : (N_joined_places).Nodup := by decide +kernel
theorem sc_joined_places : FnScope N_joined_places ["board"] (C8.fnScope st_joined_places) := C8.fnScope_by (by decide +kernel)
abbrev st_table_of : Stmt := top 18
abbrev N_table_of : List Str := ["board"]
theorem nd_table_of : (N_table_of).Nodup := by decide +kernel
theorem sc_table_of : FnScope N_table_of ["board"] (C8.fnScope st_table_of) := C8.fnScope_by (by decide +kernel)
abbrev st_rename : Stmt := top 19
abbrev N_rename : List Str := ["board", "order", "heads", "place", "row"]
theorem nd_rename : (N_rename).Nodup := by decide +kernel
theorem sc_rename : FnScope N_rename ["board", "order"] (C8.fnScope st_rename) := C8.fnScope_by (by decide +kernel)
abbrev st_least_renamed : Stmt := top 20
abbrev N_least_renamed : List Str := ["board", "order"]
theorem nd_least_renamed : (N_least_renamed).Nodup := by decide +kernel
theorem sc_least_renamed : FnScope N_least_renamed ["board"] (C8.fnScope st_least_renamed) := C8.fnScope_by (by decide +kernel)
abbrev st_check_most : Stmt := top 22
abbrev N_check_most : List Str := ["most"]
theorem nd_check_most : (N_check_most).Nodup := by decide +kernel
theorem sc_check_most : FnScope N_check_most ["most"] (C8.fnScope st_check_most) := C8.fnScope_by (by decide +kernel)
abbrev st_first_rows : Stmt := top 23
abbrev N_first_rows : List Str := ["board", "most", "found", "seen", "at", "row", "here", "place", "there"]
theorem nd_first_rows : (N_first_rows).Nodup := by decide +kernel
theorem sc_first_rows : FnScope N_first_rows ["board", "most"] (C8.fnScope st_first_rows) := C8.fnScope_by (by decide +kernel)
abbrev st_row_to_board : Stmt := top 24
abbrev N_row_to_board : List Str := ["one", "other", "most", "wanted", "row", "here"]
theorem nd_row_to_board : (N_row_to_board).Nodup := by decide +kernel
theorem sc_row_to_board : FnScope N_row_to_board ["one", "other", "most"] (C8.fnScope st_row_to_board) := C8.fnScope_by (by decide +kernel)
abbrev st_is_tree_table : Stmt := top 25
abbrev N_is_tree_table : List Str := ["told", "pairs", "at", "to"]
theorem nd_is_tree_table : (N_is_tree_table).Nodup := by decide +kernel
theorem sc_is_tree_table : FnScope N_is_tree_table ["told"] (C8.fnScope st_is_tree_table) := C8.fnScope_by (by decide +kernel)
abbrev st_is_tree : Stmt := top 26
abbrev N_is_tree : List Str := ["board"]
theorem nd_is_tree : (N_is_tree).Nodup := by decide +kernel
theorem sc_is_tree : FnScope N_is_tree ["board"] (C8.fnScope st_is_tree) := C8.fnScope_by (by decide +kernel)
abbrev st_row_to_tree : Stmt := top 27
abbrev N_row_to_tree : List Str := ["board", "most", "row", "here"]
theorem nd_row_to_tree : (N_row_to_tree).Nodup := by decide +kernel
theorem sc_row_to_tree : FnScope N_row_to_tree ["board", "most"] (C8.fnScope st_row_to_tree) := C8.fnScope_by (by decide +kernel)
abbrev st_sources : Stmt := top 28
abbrev N_sources : List Str := ["board", "many", "place", "entry"]
theorem nd_sources : (N_sources).Nodup := by decide +kernel
theorem sc_sources : FnScope N_sources ["board"] (C8.fnScope st_sources) := C8.fnScope_by (by decide +kernel)
abbrev st_directed_round : Stmt := top 29
abbrev N_directed_round : List Str := ["board", "left", "turn", "place", "other"]
theorem nd_directed_round : (N_directed_round).Nodup := by decide +kernel
theorem sc_directed_round : FnScope N_directed_round ["board"] (C8.fnScope st_directed_round) := C8.fnScope_by (by decide +kernel)
abbrev st__law_deck : Stmt := top 31
abbrev N__law_deck : List Str := ["_law_script", "_law_k", "_law_cell"]
theorem nd__law_deck : (N__law_deck).Nodup := by decide +kernel
theorem sc__law_deck : FnScope N__law_deck ["_law_script", "_law_k"] (C8.fnScope st__law_deck) := C8.fnScope_by (by decide +kernel)
abbrev st__law_draw : Stmt := top 32
abbrev N__law_draw : List Str := ["_law_deck_here", "_law_many", "_law_found", "_law_mixed"]
theorem nd__law_draw : (N__law_draw).Nodup := by decide +kernel
theorem sc__law_draw : FnScope N__law_draw ["_law_deck_here", "_law_many"] (C8.fnScope st__law_draw) := C8.fnScope_by (by decide +kernel)
abbrev st__law_order : Stmt := top 33
abbrev N__law_order : List Str := ["_law_deck_here", "_law_many", "_law_left", "_law_found", "_law_turn"]
theorem nd__law_order : (N__law_order).Nodup := by decide +kernel
theorem sc__law_order : FnScope N__law_order ["_law_deck_here", "_law_many"] (C8.fnScope st__law_order) := C8.fnScope_by (by decide +kernel)
abbrev st__law_swap : Stmt := top 34
abbrev N__law_swap : List Str := ["_law_grid", "_law_place", "_law_rows_here", "_law_at", "_law_line", "_law_made", "_law_to", "_law_entry", "_law_side", "_law_over"]
theorem nd__law_swap : (N__law_swap).Nodup := by decide +kernel
theorem sc__law_swap : FnScope N__law_swap ["_law_grid", "_law_place"] (C8.fnScope st__law_swap) := C8.fnScope_by (by decide +kernel)
abbrev st__law_swap_by : Stmt := top 35
abbrev N__law_swap_by : List Str := ["_law_grid", "_law_row", "_law_place"]
theorem nd__law_swap_by : (N__law_swap_by).Nodup := by decide +kernel
theorem sc__law_swap_by : FnScope N__law_swap_by ["_law_grid", "_law_row"] (C8.fnScope st__law_swap_by) := C8.fnScope_by (by decide +kernel)
abbrev st__law_edges : Stmt := top 36
abbrev N__law_edges : List Str := ["_law_kind", "_law_many", "_law_found", "_law_at"]
theorem nd__law_edges : (N__law_edges).Nodup := by decide +kernel
theorem sc__law_edges : FnScope N__law_edges ["_law_kind", "_law_many"] (C8.fnScope st__law_edges) := C8.fnScope_by (by decide +kernel)
abbrev st__law_table : Stmt := top 37
abbrev N__law_table : List Str := ["_law_deck_here", "_law_some", "_law_total", "_law_kind", "_law_many", "_law_rows_here", "_law_begin", "_law_order_here", "_law_at", "_law_to", "_law_here", "_law_back", "_law_sign", "_law_first_here", "_law_second_here", "_law_line"]
theorem nd__law_table : (N__law_table).Nodup := by decide +kernel
theorem sc__law_table : FnScope N__law_table ["_law_deck_here", "_law_some"] (C8.fnScope st__law_table) := C8.fnScope_by (by decide +kernel)
abbrev st__law_types : Stmt := top 38
abbrev N__law_types : List Str := ["_law_deck_here", "_law_total", "_law_two", "_law_three", "_law_lone", "_law_four", "_law_some", "_law_at", "_law_more"]
theorem nd__law_types : (N__law_types).Nodup := by decide +kernel
theorem sc__law_types : FnScope N__law_types ["_law_deck_here", "_law_total"] (C8.fnScope st__law_types) := C8.fnScope_by (by decide +kernel)
abbrev st__law_finite : Stmt := top 39
abbrev N__law_finite : List Str := ["_law_deck_here", "_law_total", "_law_some", "_law_grid", "_law_turn"]
theorem nd__law_finite : (N__law_finite).Nodup := by decide +kernel
theorem sc__law_finite : FnScope N__law_finite ["_law_deck_here", "_law_total"] (C8.fnScope st__law_finite) := C8.fnScope_by (by decide +kernel)
abbrev st__law_marks : Stmt := top 40
abbrev N__law_marks : List Str := ["_law_deck_here", "_law_many", "_law_limit", "_law_found", "_law_turn", "_law_at"]
theorem nd__law_marks : (N__law_marks).Nodup := by decide +kernel
theorem sc__law_marks : FnScope N__law_marks ["_law_deck_here", "_law_many", "_law_limit"] (C8.fnScope st__law_marks) := C8.fnScope_by (by decide +kernel)
abbrev st__law_wild : Stmt := top 41
abbrev N__law_wild : List Str := ["_law_deck_here", "_law_many", "_law_limit", "_law_weights", "_law_at", "_law_rows_here", "_law_to", "_law_parts", "_law_part", "_law_here", "_law_back", "_law_times", "_law_small", "_law_first_here", "_law_second_here", "_law_line"]
theorem nd__law_wild : (N__law_wild).Nodup := by decide +kernel
theorem sc__law_wild : FnScope N__law_wild ["_law_deck_here", "_law_many", "_law_limit"] (C8.fnScope st__law_wild) := C8.fnScope_by (by decide +kernel)
abbrev st__law_is_far : Stmt := top 42
abbrev N__law_is_far : List Str := ["_law_grid", "_law_many", "_law_at", "_law_to"]
theorem nd__law_is_far : (N__law_is_far).Nodup := by decide +kernel
theorem sc__law_is_far : FnScope N__law_is_far ["_law_grid"] (C8.fnScope st__law_is_far) := C8.fnScope_by (by decide +kernel)
abbrev st__law_far_row : Stmt := top 43
abbrev N__law_far_row : List Str := ["_law_grid", "_law_many", "_law_found", "_law_at", "_law_known", "_law_row", "_law_here", "_law_place", "_law_there"]
theorem nd__law_far_row : (N__law_far_row).Nodup := by decide +kernel
theorem sc__law_far_row : FnScope N__law_far_row ["_law_grid"] (C8.fnScope st__law_far_row) := C8.fnScope_by (by decide +kernel)
abbrev st__law_first : Stmt := top 44
abbrev N__law_first : List Str := ["_law_table_here", "_law_many", "_law_orders", "_law_at", "_law_longer", "_law_order_here", "_law_place", "_law_to"]
theorem nd__law_first : (N__law_first).Nodup := by decide +kernel
theorem sc__law_first : FnScope N__law_first ["_law_table_here"] (C8.fnScope st__law_first) := C8.fnScope_by (by decide +kernel)
abbrev st__law_rows : Stmt := top 45
abbrev N__law_rows : List Str := ["_law_table_here", "_law_limit", "_law_found", "_law_at", "_law_known", "_law_row", "_law_here", "_law_place", "_law_there"]
theorem nd__law_rows : (N__law_rows).Nodup := by decide +kernel
theorem sc__law_rows : FnScope N__law_rows ["_law_table_here", "_law_limit"] (C8.fnScope st__law_rows) := C8.fnScope_by (by decide +kernel)
abbrev st__law_is_tree : Stmt := top 46
abbrev N__law_is_tree : List Str := ["_law_table_here", "_law_met", "_law_pairs", "_law_turn", "_law_at", "_law_to"]
theorem nd__law_is_tree : (N__law_is_tree).Nodup := by decide +kernel
theorem sc__law_is_tree : FnScope N__law_is_tree ["_law_table_here"] (C8.fnScope st__law_is_tree) := C8.fnScope_by (by decide +kernel)
abbrev st__law_goes_round : Stmt := top 47
abbrev N__law_goes_round : List Str := ["_law_table_here", "_law_start", "_law_met", "_law_to", "_law_turn", "_law_at"]
theorem nd__law_goes_round : (N__law_goes_round).Nodup := by decide +kernel
theorem sc__law_goes_round : FnScope N__law_goes_round ["_law_table_here"] (C8.fnScope st__law_goes_round) := C8.fnScope_by (by decide +kernel)
abbrev st__law_looks_right : Stmt := top 48
abbrev N__law_looks_right : List Str := ["_law_grid", "_law_lines", "_law_turn", "_law_told", "_law_due", "_law_at", "_law_line", "_law_entry"]
theorem nd__law_looks_right : (N__law_looks_right).Nodup := by decide +kernel
theorem sc__law_looks_right : FnScope N__law_looks_right ["_law_grid"] (C8.fnScope st__law_looks_right) := C8.fnScope_by (by decide +kernel)
abbrev st__law_greatest : Stmt := top 49
abbrev N__law_greatest : List Str := ["_law_lines", "_law_entry", "_law_line"]
theorem nd__law_greatest : (N__law_greatest).Nodup := by decide +kernel
theorem sc__law_greatest : FnScope N__law_greatest ["_law_lines"] (C8.fnScope st__law_greatest) := C8.fnScope_by (by decide +kernel)
abbrev st__law_plain : Stmt := top 50
abbrev N__law_plain : List Str := ["_law_deck_here", "_law_many", "_law_lines"]
theorem nd__law_plain : (N__law_plain).Nodup := by decide +kernel
theorem sc__law_plain : FnScope N__law_plain ["_law_deck_here"] (C8.fnScope st__law_plain) := C8.fnScope_by (by decide +kernel)
abbrev st__law_second : Stmt := top 51
abbrev N__law_second : List Str := ["_law_deck_here", "_law_lines", "_law_many", "_law_order_here", "_law_there", "_law_turn", "_law_to", "_law_at"]
theorem nd__law_second : (N__law_second).Nodup := by decide +kernel
theorem sc__law_second : FnScope N__law_second ["_law_deck_here", "_law_lines"] (C8.fnScope st__law_second) := C8.fnScope_by (by decide +kernel)
abbrev st__law_right : Stmt := top 52
abbrev N__law_right : List Str := ["_law_deck_here", "_law_lines", "_law_grid", "_law_mate", "_law_limit", "_law_far", "_law_rows_here", "_law_wanted", "_law_due", "_law_row", "_law_here", "_law_tree", "_law_turn", "_law_told", "_law_small"]
theorem nd__law_right : (N__law_right).Nodup := by decide +kernel
theorem sc__law_right : FnScope N__law_right ["_law_deck_here"] (C8.fnScope st__law_right) := C8.fnScope_by (by decide +kernel)
abbrev st_law : Stmt := top 53
abbrev N_law : List Str := ["_law_script", "_law_k"]
theorem nd_law : (N_law).Nodup := by decide +kernel
theorem sc_law : FnScope N_law ["_law_script"] (C8.fnScope st_law) := C8.fnScope_by (by decide +kernel)
end N41
/-! W1: facts about the top. -/
namespace N41
open PySem PySem.Spec PyProof.Rows L2
structure Blt (mg : Str → Option Value) : Prop where
  len : mg "len" = none
  range : mg "range" = none
  tuple : mg "tuple" = none
  list : mg "list" = none
  int : mg "int" = none
  abs : mg "abs" = none
  min : mg "min" = none
  max : mg "max" = none
  sum : mg "sum" = none
  any : mg "any" = none
  all : mg "all" = none
  repr : mg "repr" = none
  enumerate : mg "enumerate" = none
  zip : mg "zip" = none
  sorted : mg "sorted" = none
  isinstance : mg "isinstance" = none
  gcd : mg "gcd" = some (.builtin "math.gcd")
  permutations : mg "permutations" = some (.type "itertools.permutations")
theorem bt_len : bootBuiltins "len" = some (.builtin "len") := by decide +kernel
theorem bt_abs : bootBuiltins "abs" = some (.builtin "abs") := by decide +kernel
theorem bt_min : bootBuiltins "min" = some (.builtin "min") := by decide +kernel
theorem bt_max : bootBuiltins "max" = some (.builtin "max") := by decide +kernel
theorem bt_sum : bootBuiltins "sum" = some (.builtin "sum") := by decide +kernel
theorem bt_any : bootBuiltins "any" = some (.builtin "any") := by decide +kernel
theorem bt_all : bootBuiltins "all" = some (.builtin "all") := by decide +kernel
theorem bt_repr : bootBuiltins "repr" = some (.builtin "repr") := by decide +kernel
theorem bt_sorted : bootBuiltins "sorted" = some (.builtin "sorted") := by decide +kernel
theorem bt_isinstance : bootBuiltins "isinstance" = some (.builtin "isinstance") := by decide +kernel
theorem bt_int : bootBuiltins "int" = some (.type "int") := by decide +kernel
theorem bt_tuple : bootBuiltins "tuple" = some (.type "tuple") := by decide +kernel
theorem bt_list : bootBuiltins "list" = some (.type "list") := by decide +kernel
theorem _root_.L2.Room.u200 {k : Nat} {A : Around} (r : Room k A) : A.units + 200 < cLine := by have := r.un; omega
theorem tail_num (σ : L2.St) (H : Hp) (Q : Option Int → Hp → Prop) (q : Q (some (-((2 : Nat) : Int))) H) : (tPart (tUn (rU fun i => .int (-i)) (tC (.int 2)))) σ H Q := ⟨_, rfl, _, rfl, q⟩
section
variable {X : Cx} {K : PySem.W.Frag} {tg l e e2 : Expr} {tl : TE} {ta : TA} {t : TGs} {es elts : List Expr} {k n kk : Nat} {p pos tpos : Pos}
theorem pi_listK (hK : X.K = K) (hl : PE X l tl) : PI X tg l (iList K tl) := hK ▸ pi_list hl
theorem pi_tupK (hK : X.K = K) (hl : PE X l tl) : PI X tg l (iTup K tl) := hK ▸ pi_tup hl
theorem pi_enumTK (hK : X.K = K) (hg : Gl X "enumerate") (hm : X.mg "enumerate" = none) (ha : PA X [e] ta) (hs : starEach [e] X.env = [(false, eval e X.env)] := by rfl) : PI X (.Tuple elts kk tpos) (.Call (.Name "enumerate" p) [e] [] pos) (iEnumT K ta) := hK ▸ pi_enumT hg hm ha hs
theorem pi_zipK (hK : X.K = K) (hg : Gl X "zip") (hm : X.mg "zip" = none) (ha : PA X [e, e2] ta)
    (hs : starEach [e, e2] X.env = (false, eval e X.env) :: starEach [e2] X.env := by rfl) (hpl : (backTo pos (starEach [e2] X.env)).any (·.1) = false := by rfl) : PI X (.Tuple elts kk tpos) (.Call (.Name "zip" p) [e, e2] [] pos) (RZ.iZipA K ta) := hK ▸ RZ.pi_zipA hg hm ha hs hpl
theorem pg_tupK (hK : X.K = K) (hc : X.calm = true) (h : PGs X es t) (hn : (assignEach es X.env).length = n := by rfl) (hst : (assignEach es X.env).findIdx? (·.1) = none := by rfl) : PG X (.Tuple es k pos) (gTup K n t) := hK ▸ pg_tup hc h hn hst
end
/-- a def of the module, as it stands -/
structure FD (K : PySem.W.Frag) (mg : Str → Option Value) (x : Str) (st : Stmt) : Prop where
  ex : ∃ (f : Addr) (fd : FuncData), C8.Def K mg x st f fd ∧ fd.defaults = .none
end N41
/-! M1: tables and the swap, in plain Lean. -/
namespace N41
open PySem PySem.Spec PyProof.Rows L2
abbrev Tab := List (List Int)
def cell (B : Tab) (i j : Nat) : Int := (B.getD i []).getD j 0
def mu (side entry over : Int) : Int := entry + (((side.natAbs : Nat) : Int) * over + side * ((over.natAbs : Nat) : Int)) / 2
def swE (B : Tab) (p at_ : Nat) (line : List Int) (x : Int × Nat) : Int := if p = at_ ∨ p = x.2 then -x.1 else mu (line.getD p 0) x.1 (cell B p x.2)
def swR (B : Tab) (p : Nat) (x : List Int × Nat) : List Int := x.1.zipIdx.map (swE B p x.2 x.1)
def sw (B : Tab) (p : Nat) : Tab := B.zipIdx.map (swR B p)
/-- rows of n entries -/
def Rows (n : Nat) (B : Tab) : Prop := ∀ r ∈ B, r.length = n
/-- a table of n places -/
structure Sq (n : Nat) (B : Tab) : Prop where
  len : B.length = n
  rows : Rows n B
/-- a board: n rows and marks -/
structure Bd (n : Nat) (B : Tab) : Prop where
  pos : 1 ≤ n
  most : n ≤ 4
  len : n ≤ B.length
  long : B.length ≤ 100
  rows : Rows n B
/-- entries below 2^k -/
def Lt2 (k : Nat) (B : Tab) : Prop := ∀ r ∈ B, ∀ x ∈ r, x.natAbs < 2 ^ k
theorem Rows.get {n : Nat} {B : Tab} (h : Rows n B) {i : Nat} {r : List Int} (e : B[i]? = some r) : r.length = n := h r (List.mem_of_getElem? e)
theorem rD_len (r : List Int) : (r.map PyData.int).length = r.length := List.length_map ..
theorem sw_len (B : Tab) (p : Nat) : (sw B p).length = B.length := by simp [sw]
theorem sw_rows {n : Nat} {B : Tab} (h : Rows n B) (p : Nat) : Rows n (sw B p) := fun r hr => by
  obtain ⟨x, hx, rfl⟩ := List.mem_map.mp hr
  unfold swR
  rw [List.length_map, List.length_zipIdx]
  exact h _ (List.fst_mem_of_mem_zipIdx hx)
theorem nat_lt2 {k : Nat} {x : Int} (h : x.natAbs < 2 ^ k) (hk : k ≤ 1000) : x.natAbs.log2 ≤ 1000 := by
  by_cases h0 : x.natAbs = 0
  · rw [h0]; simp
  · exact Nat.le_of_lt (Nat.lt_of_lt_of_le ((Nat.log2_lt h0).mpr h) hk)
theorem mulW {k m : Nat} {x y : Int} (hx : x.natAbs < 2 ^ k) (hy : y.natAbs < 2 ^ m) (hk : k ≤ 1000) (hm : m ≤ 1000) : CMulW x y := by
  have h1 := nat_lt2 hx hk
  have h2 := nat_lt2 hy hm
  unfold CMulW
  omega
theorem Lt2.get {k : Nat} {B : Tab} (h : Lt2 k B) {i j : Nat} {r : List Int} {x : Int} (e : B[i]? = some r) (e2 : r[j]? = some x) : x.natAbs < 2 ^ k := h r (List.mem_of_getElem? e) x (List.mem_of_getElem? e2)
theorem getD_of {α : Type} {l : List α} {i : Nat} {a d : α} (h : l[i]? = some a) : l.getD i d = a := by rw [List.getD_eq_getElem?_getD, h]; rfl
theorem get_of {α : Type} {l : List α} {i : Nat} (h : i < l.length) : ∃ a, l[i]? = some a := ⟨l[i], List.getElem?_eq_getElem h⟩
theorem Lt2.cell {k : Nat} {B : Tab} (h : Lt2 k B) (i j : Nat) : (cell B i j).natAbs < 2 ^ k := by
  unfold N41.cell
  by_cases h1 : i < B.length
  · obtain ⟨r, e⟩ := get_of h1
    rw [getD_of e]
    by_cases h2 : j < r.length
    · obtain ⟨x, e2⟩ := get_of h2
      rw [getD_of e2]
      exact h.get e e2
    · rw [List.getD_eq_getElem?_getD, List.getElem?_eq_none (by omega)]
      exact Nat.pos_of_ne_zero (by simp)
  · have e : B.getD i [] = [] := by rw [List.getD_eq_getElem?_getD, List.getElem?_eq_none (by omega)]; rfl
    rw [e]
    exact Nat.pos_of_ne_zero (by simp)
theorem getD_pt {l : List Int} {j : Nat} (h : j < l.length) : l[j]? = some (l.getD j 0) := by
  obtain ⟨x, e⟩ := get_of h
  rw [e, getD_of e]
theorem zip_mem {α : Type} {l : List α} {i : Nat} {x : α × Nat} (h : l.zipIdx[i]? = some x) : l[i]? = some x.1 ∧ x.2 = i := by
  rw [List.getElem?_zipIdx] at h
  cases e : l[i]? with
  | none => rw [e] at h; cases h
  | some a => rw [e] at h; cases h; exact ⟨rfl, by simp⟩
theorem swR_self (B : Tab) (p : Nat) (line : List Int) : swR B p (line, p) = line.map fun x => -x := by
  unfold swR
  have e : (fun x : Int × Nat => swE B p p line x) = fun x => -x.1 := by
    funext x
    unfold swE
    rw [if_pos (.inl rfl)]
  show line.zipIdx.map (fun x => swE B p p line x) = _
  rw [e]
  apply List.ext_getElem?
  intro i
  rw [List.getElem?_map, List.getElem?_map, List.getElem?_zipIdx]
  cases line[i]? <;> rfl
theorem swR_other {B : Tab} {p at_ n : Nat} {line rp : List Int} (ha : ¬ p = at_) (hl : line.length = n) (hr : B[p]? = some rp) (hrl : rp.length = n) (hp : p < n) :
    swR B p (line, at_) = ((line.zip rp).map fun x => mu (line.getD p 0) x.1 x.2).set p (-(line.getD p 0)) := by
  unfold swR
  apply List.ext_getElem?
  intro i
  show (line.zipIdx.map (swE B p at_ line))[i]? = _
  rw [List.getElem?_map, List.getElem?_zipIdx, List.getElem?_set]
  by_cases hi : i < n
  · obtain ⟨x, ex⟩ := get_of (l := line) (i := i) (by omega)
    obtain ⟨y, ey⟩ := get_of (l := rp) (i := i) (by omega)
    rw [ex]
    by_cases h : p = i
    · subst h
      rw [if_pos rfl, if_pos (by rw [List.length_map, List.length_zip]; omega)]
      show some (swE B p at_ line (x, 0 + p)) = _
      unfold swE
      rw [if_pos (.inr (by simp)), getD_of ex]
    · rw [if_neg h, List.getElem?_map, (List.getElem?_zip_eq_some (z := (x, y))).mpr ⟨ex, ey⟩]
      show some (swE B p at_ line (x, 0 + i)) = some (mu _ x y)
      unfold swE
      rw [if_neg (by simp; exact ⟨ha, h⟩)]
      unfold cell
      rw [Nat.zero_add, getD_of hr, getD_of ey]
  · rw [List.getElem?_eq_none (by omega), if_neg (by omega), List.getElem?_map, List.getElem?_eq_none (by rw [List.length_zip]; omega)]
    rfl
end N41
/-! GS2: more of the reading: calls, loops that gather a list. -/
namespace N41
open PySem PySem.Spec PyProof.Rows L2
section
variable {K : PySem.W.Frag} {Γ : List (Addr × HO)} {σ : L2.St} {G G' H : Hp} {ta tb tc te tx : TE} {t u : TT} {x y z v : V} {d d' e : PyData} {ds ds' es : List PyData} {vs xs : List V} {l : Addr} {D : Ends} {tu tw tz : TS} {g : TG} {H1 : Hp}
theorem e_cg {ι : Type} {args : ι → List PyData} {pre : ι → Prop} {res : ι → PyData} {ta : TA} (x : ι) (h : EvA Γ ta σ G (args x)) (hp : pre x) : EvD Γ (tCallG (SpF args pre res) ta) σ G (res x) := fun G1 H1 a b Q q =>
  h G1 H1 a b _ fun vs G2 H2 s dvs => ⟨x, G2, s.i, dvs, hp, fun v G3 H3 s2 dv => q v G3 H3 (s.trans s2) dv⟩
theorem e_ck {ι : Type} {args : ι → List PyData} {pre : ι → Prop} {res : ι → PyData} {ta : TA} {gV : List V → List V} {as : List PyData} (x : ι) (h : EvA Γ ta σ G as) (hg : ∀ G vs, Das G vs as → Das G (gV vs) (args x)) (hp : pre x) : EvD Γ (tCallGK (SpF args pre res) gV ta) σ G (res x) := fun G1 H1 a b Q q =>
  h G1 H1 a b _ fun vs G2 H2 s dvs => ⟨x, G2, s.i, hg _ _ dvs, hp, fun v G3 H3 s2 dv => q v G3 H3 (s.trans s2) dv⟩
theorem SpF.len {ι : Type} {args : ι → List PyData} {pre : ι → Prop} {res : ι → PyData} {n : Nat} (hn : ∀ x, (args x).length = n) {vs : List V} {H : Hp} {Q : VK} {E : XK} (h : SpF args pre res vs H Q E) : vs.length = n := by
  obtain ⟨x, G, _, d, _⟩ := h
  rw [d.length, hn]
theorem SpF.ln {ι : Type} {args : ι → List PyData} {pre : ι → Prop} {res : ι → PyData} {n : Nat} {vs : List V} {H : Hp} {Q : VK} {E : XK} (h : SpF args pre res vs H Q E) (hn : ∀ x, (args x).length = n) : vs.length = n := SpF.len hn h
/-- a def whose answer is a new list of its own -/
def SpL {ι : Type} (args : ι → List PyData) (pre : ι → Prop) (res : ι → List PyData) : Sp := fun vs H Q _ =>
  ∃ x G, Same G H ∧ Das G vs (args x) ∧ pre x ∧ ∀ p xs G2 H2, Stp [] G H G2 H2 → H p = none → Own G2 H2 p (.lst xs) → Das G2 xs (res x) → Q (.ref p) H2
theorem l_cg {ι : Type} {args : ι → List PyData} {pre : ι → Prop} {res : ι → List PyData} {ta : TA} (x : ι) (h : EvA Γ ta σ G (args x)) (hp : pre x) : EvL Γ (tCallG (SpL args pre res) ta) σ G (res x) := fun G1 H1 a b Q q =>
  h G1 H1 a b _ fun vs G2 H2 s dvs => ⟨x, G2, s.i, dvs, hp, fun p xs G3 H3 s2 hp o dx => q p xs G3 H3 (s.trans s2) (s.free hp) o dx⟩
theorem l_ck {ι : Type} {args : ι → List PyData} {pre : ι → Prop} {res : ι → List PyData} {ta : TA} {gV : List V → List V} {as : List PyData} (x : ι) (h : EvA Γ ta σ G as) (hg : ∀ G vs, Das G vs as → Das G (gV vs) (args x)) (hp : pre x) : EvL Γ (tCallGK (SpL args pre res) gV ta) σ G (res x) := fun G1 H1 a b Q q =>
  h G1 H1 a b _ fun vs G2 H2 s dvs => ⟨x, G2, s.i, hg _ _ dvs, hp, fun p xs G3 H3 s2 hp o dx => q p xs G3 H3 (s.trans s2) (s.free hp) o dx⟩
theorem SpL.len {ι : Type} {args : ι → List PyData} {pre : ι → Prop} {res : ι → List PyData} {n : Nat} (hn : ∀ x, (args x).length = n) {vs : List V} {H : Hp} {Q : VK} {E : XK} (h : SpL args pre res vs H Q E) : vs.length = n := by
  obtain ⟨x, G, _, d, _⟩ := h
  rw [d.length, hn]
theorem SpL.ln {ι : Type} {args : ι → List PyData} {pre : ι → Prop} {res : ι → List PyData} {n : Nat} {vs : List V} {H : Hp} {Q : VK} {E : XK} (h : SpL args pre res vs H Q E) (hn : ∀ x, (args x).length = n) : vs.length = n := SpL.len hn h
/-- a loop that appends one value a turn to an owned list -/
theorem s_forAcc {α : Type} {wi : TI} (L : List α) (enc : α → PyData) (h : α → PyData) (S : L2.St → Prop) (c : Cn Γ G H) (hi : EvI Γ wi σ G (L.map enc)) (o : Own G H l (.lst xs)) (hx : Das G xs ds) (S0 : S σ)
    (turn : ∀ i a G' H' σ' xs' x (N : L2.St → Hp → Prop), L[i]? = some a → Stp [l] G H G' H' → S σ' → Own G' H' l (.lst xs') → xs'.length = ds.length + i → Da G' x (enc a) →
      (∀ σ3 G3 H3 y, S σ3 → Stp [l] G' H' G3 H3 → Own G3 H3 l (.lst (xs' ++ [y])) → Da G3 y (h a) → N σ3 H3) → g x σ' H' fun σ2 H2 => tu { D with nx := N, ct := N, bk := D.nx } σ2 H2)
    (done : ∀ σ' G' H' xs', S σ' → Stp [l] G H G' H' → Own G' H' l (.lst xs') → Das G' xs' (ds ++ L.map h) → D.nx σ' H') : tFor wi g tu D σ H := by
  refine s_for L enc c hi (fun G1 _ i σ' G' H' => Same G1 G' ∧ ∃ xs', S σ' ∧ Stp [l] G H G' H' ∧ Own G' H' l (.lst xs') ∧ Das G' xs' (ds ++ (L.take i).map h) ∧ i ≤ L.length) (fun G1 H1 s => ⟨Same.refl _, xs, S0, s.of0, s.own o, by simpa using s.das hx, Nat.zero_le _⟩) (fun G1 H1 i σ' G' H' ⟨sg, xs', _, s, _⟩ => ⟨sg, s.i⟩) (fun G1 H1 i a σ' G' H' x G2 H2 s1 e ⟨sg, xs', hS, s, ow, dx, hi⟩ s2 dxx => ?_) (fun G1 H1 σ' G' H' s1 ⟨sg, xs', hS, s, ow, dx, _⟩ => ?_)
  · refine turn i a G2 H2 σ' xs' x _ e (s.up s2) hS (s2.own ow) ?_ dxx fun σ3 G3 H3 y h1 h2 h3 h4 => ⟨G3, sg.trans (s2.g.trans h2.g), xs' ++ [y], h1, (s.up s2).trans h2, h3, ?_, ?_⟩
    · rw [dx.length, List.length_append, List.length_map, List.length_take, Nat.min_eq_left hi]
    · rw [List.take_add_one, e, List.map_append, ← List.append_assoc]
      exact ((s2.das dx).mono h2.g).snoc h4
    · exact (List.getElem?_eq_some_iff.mp e).1
  · rw [List.take_length] at dx
    exact done σ' G' H' xs' hS s ow dx
/-- tuple(x), x an owned list -/
theorem e_tupleO {i : Nat} (hm : (l, HO.lst xs) ∈ Γ) (hi : σ[i]? = some (some (.ref l))) (hx : Das G xs ds) : EvD Γ (tCB (rTup K) (tCons (tVar i) tNil)) σ G (.tuple ds) := fun G1 H1 a b Q q =>
  ⟨_, hi, l, xs, rfl, .inl ⟨SqL.of (b.o _ hm).2, fun p hp => q _ (upd G1 p (.tup xs)) _ (Stp.new b.i hp) (.tup upd_same ((hx.mono a).mono (Stp.new (m := []) b.i hp).g))⟩⟩
theorem l_listO {i : Nat} (hm : (l, HO.lst xs) ∈ Γ) (hi : σ[i]? = some (some (.ref l))) (hx : Das G xs ds) : EvL Γ (tCB (rList K) (tCons (tVar i) tNil)) σ G ds := fun G1 H1 a b Q q =>
  ⟨_, hi, l, xs, rfl, .inl (SqL.of (b.o _ hm).2), fun p hp => q p xs G1 _ (Stp.newO b.i hp) hp ⟨Same.free b.i hp, upd_same⟩ (hx.mono a)⟩
/-- an owned list read as data, where nothing is written to it any more: the known heap takes it in -/
theorem e_varO {i : Nat} (hm : (l, HO.lst xs) ∈ Γ) (hi : σ[i]? = some (some (.ref l))) (hx : Das G xs ds) {G1 H1 : Hp} (a : Same G G1) (b : Cn Γ G1 H1) : tVar i σ H1 fun v H2 => H2 = H1 ∧ v = .ref l ∧ H1 l = some (.lst xs) ∧ Das G1 xs ds := ⟨_, hi, rfl, rfl, (b.o _ hm).2, hx.mono a⟩
/-- some data with the property -/
def EvS (Γ : List (Addr × HO)) (te : TE) (σ : L2.St) (G : Hp) (p : PyData → Prop) : Prop := ∀ G1 H1, Same G G1 → Cn Γ G1 H1 → ∀ Q : VK, (∀ d v G2 H2, p d → Stp [] G1 H1 G2 H2 → Da G2 v d → Q v H2) → te σ H1 Q
theorem e_isNS {p : PyData → Prop} {b : Bool} (ha : EvS Γ ta σ G p) (hp : ∀ d, p d → isNone d = b) : EvD Γ (tOp rIsN ta (tC .non)) σ G (.bool b) := fun G1 H1 a b' Q q =>
  ha G1 H1 a b' _ fun d x G2 H2 hd s dx => ⟨rfl, by rw [dx.dec_non, hp d hd]; exact q _ G2 H2 s (.bl _)⟩
/-- a def whose answer is some data with a property -/
def SpS {ι : Type} (args : ι → List PyData) (pre : ι → Prop) (res : ι → PyData → Prop) : Sp := fun vs H Q _ =>
  ∃ x G, Same G H ∧ Das G vs (args x) ∧ pre x ∧ ∀ d v G2 H2, res x d → Stp [] G H G2 H2 → Da G2 v d → Q v H2
theorem SpS.ln {ι : Type} {args : ι → List PyData} {pre : ι → Prop} {res : ι → PyData → Prop} {n : Nat} {vs : List V} {H : Hp} {Q : VK} {E : XK} (h : SpS args pre res vs H Q E) (hn : ∀ x, (args x).length = n) : vs.length = n := by
  obtain ⟨x, G, _, d, _⟩ := h
  rw [d.length, hn]
theorem es_cg {ι : Type} {args : ι → List PyData} {pre : ι → Prop} {res : ι → PyData → Prop} {ta : TA} (x : ι) (h : EvA Γ ta σ G (args x)) (hp : pre x) : EvS Γ (tCallG (SpS args pre res) ta) σ G (res x) := fun G1 H1 a b Q q =>
  h G1 H1 a b _ fun vs G2 H2 s dvs => ⟨x, G2, s.i, dvs, hp, fun d v G3 H3 hd s2 dv => q d v G3 H3 hd (s.trans s2) dv⟩
theorem q_drop (c : Cn Γ G H) (h : EvD Γ te σ G d) (k : ∀ G2 H2, Stp [] G H G2 H2 → tz D σ H2) : tSeq (tDrop te) tz D σ H := h G H (Same.refl _) c _ fun v G2 H2 s _ => k G2 H2 s
theorem eqv_nil_list {L : List PyData} : PyData.eqv (.list L) (.list []) = L.isEmpty := by
  cases L with
  | nil => simp [PyData.eqv, PyData.eqvAll]
  | cons x L => simp [PyData.eqv, PyData.eqvAll]
/-! ### the same in a row of statements -/
theorem q_asg {i : Nat} (c : Cn Γ G H) (h : EvD Γ te σ G d) (k : ∀ v G2 H2, Stp [] G H G2 H2 → Da G2 v d → tz D (σ.set i (some v)) H2) : tSeq (tAsg te (gName i)) tz D σ H := s_asg (D := { D with nx := tz D }) c h k
theorem q_asgI {i : Nat} {n : Int} (c : Cn Γ G H) (h : EvD Γ te σ G (.int n)) (k : ∀ G2 H2, Stp [] G H G2 H2 → tz D (σ.set i (some (.int n))) H2) : tSeq (tAsg te (gName i)) tz D σ H := s_asgI (D := { D with nx := tz D }) c h k
theorem q_asgL {i : Nat} (c : Cn Γ G H) (h : EvL Γ te σ G ds) (k : ∀ p xs G2 H2, Stp [] G H G2 H2 → H p = none → Own G2 H2 p (.lst xs) → Das G2 xs ds → tz D (σ.set i (some (.ref p))) H2) : tSeq (tAsg te (gName i)) tz D σ H := s_asgL (D := { D with nx := tz D }) c h k
theorem q_if {b : Bool} (c : Cn Γ G H) (h : EvB Γ t σ G b) (h1 : b = true → ∀ G2 H2, Stp [] G H G2 H2 → tu { D with nx := tz D } σ H2) (h2 : b = false → ∀ G2 H2, Stp [] G H G2 H2 → tw { D with nx := tz D } σ H2) : tSeq (tIfS t tu tw) tz D σ H := s_if (D := { D with nx := tz D }) c h h1 h2
theorem q_when {b : Bool} (c : Cn Γ G H) (h : EvB Γ t σ G b) (h1 : b = true → ∀ G2 H2, Stp [] G H G2 H2 → tu { D with nx := tz D } σ H2) (h2 : b = false → ∀ G2 H2, Stp [] G H G2 H2 → tz D σ H2) : tSeq (tIfS t tu tNext) tz D σ H := s_when (D := { D with nx := tz D }) c h h1 h2
theorem q_par {i j : Nat} {ta : TA} (c : Cn Γ G H) (h : EvA Γ ta σ G [d, e]) (k : ∀ v w G2 H2, Stp [] G H G2 H2 → Da G2 v d → Da G2 w e → tz D ((σ.set i (some v)).set j (some w)) H2) : tSeq (tPar i j ta) tz D σ H := s_par (D := { D with nx := tz D }) c h k
/-- a, b = e, [..] -/
theorem q_parL {i j : Nat} (c : Cn Γ G H) (h : EvD Γ ta σ G d) (h2 : EvL Γ tb σ G ds) (k : ∀ v p xs G2 H2, Stp [] G H G2 H2 → Da G2 v d → H p = none → Own G2 H2 p (.lst xs) → Das G2 xs ds → tz D ((σ.set i (some v)).set j (some (.ref p))) H2) : tSeq (tPar i j (tCons ta (tCons tb tNil))) tz D σ H :=
  h G H (Same.refl _) c _ fun v G1 H1 s dv => h2 G1 H1 s.g (c.up s) _ fun p xs G2 H2 s2 hp o dx => ⟨v, .ref p, rfl, k v p xs G2 H2 (s.trans s2) (s2.da dv) (s.free hp) o dx⟩
theorem q_parLD {i j : Nat} (c : Cn Γ G H) (h2 : EvL Γ ta σ G ds) (h : EvD Γ tb σ G d) (k : ∀ v p xs G2 H2, Stp [] G H G2 H2 → Da G2 v d → H p = none → Own G2 H2 p (.lst xs) → Das G2 xs ds → tz D ((σ.set i (some (.ref p))).set j (some v)) H2) : tSeq (tPar i j (tCons ta (tCons tb tNil))) tz D σ H :=
  h2 G H (Same.refl _) c _ fun p xs G1 H1 s hp o dx => h G1 H1 s.g (c.up s) _ fun v G2 H2 s2 dv => ⟨.ref p, v, rfl, k v p xs G2 H2 (s.trans s2) dv hp (s2.own o) (s2.das dx)⟩
theorem q_parLL {i j : Nat} (c : Cn Γ G H) (h : EvL Γ ta σ G ds) (h2 : EvL Γ tb σ G es) (k : ∀ p xs p' ys G2 H2, Stp [] G H G2 H2 → H p = none → H p' = none → p ≠ p' → Own G2 H2 p (.lst xs) → Das G2 xs ds → Own G2 H2 p' (.lst ys) → Das G2 ys es → tz D ((σ.set i (some (.ref p))).set j (some (.ref p'))) H2) : tSeq (tPar i j (tCons ta (tCons tb tNil))) tz D σ H :=
  h G H (Same.refl _) c _ fun p xs G1 H1 s hp o dx => h2 G1 H1 s.g (c.up s) _ fun p' ys G2 H2 s2 hp' o' dy => ⟨.ref p, .ref p', rfl, k p xs p' ys G2 H2 (s.trans s2) hp (s.free hp') (o.ne hp') (s2.own o) (s2.das dx) o' dy⟩
/-- a, b, c = e, [..], [..] -/
theorem q_par3DLL {i j k3 : Nat} {t3 : TE} (c : Cn Γ G H) (h0 : EvD Γ ta σ G d) (h : EvL Γ tb σ G ds) (h2 : EvL Γ t3 σ G es) (k : ∀ v p xs p' ys G2 H2, Stp [] G H G2 H2 → Da G2 v d → H p = none → H p' = none → p ≠ p' → Own G2 H2 p (.lst xs) → Das G2 xs ds → Own G2 H2 p' (.lst ys) → Das G2 ys es → tz D (((σ.set i (some v)).set j (some (.ref p))).set k3 (some (.ref p'))) H2) : tSeq (tPar3 i j k3 (tCons ta (tCons tb (tCons t3 tNil)))) tz D σ H :=
  h0 G H (Same.refl _) c _ fun v G0 H0 s0 dv => h G0 H0 s0.g (c.up s0) _ fun p xs G1 H1 s hp o dx => h2 G1 H1 (s0.g.trans s.g) ((c.up s0).up s) _ fun p' ys G2 H2 s2 hp' o' dy => ⟨v, .ref p, .ref p', rfl, k v p xs p' ys G2 H2 (s0.trans (s.trans s2)) (s2.da (s.da dv)) (s0.free hp) (s0.free (s.free hp')) (o.ne hp') (s2.own o) (s2.das dx) o' dy⟩
theorem q_app {i : Nat} (c : Cn Γ G H) (hi : σ[i]? = some (some (.ref l))) (o : Own G H l (.lst xs)) (h : EvD Γ te σ G d) (hz : xs.length < sizeLine) (k : ∀ v G2 H2, Stp [] G H G2 H2 → Da G2 v d → Stp [l] G H G2 (upd H2 l (.lst (xs ++ [v]))) → Own G2 (upd H2 l (.lst (xs ++ [v]))) l (.lst (xs ++ [v])) → tz D σ (upd H2 l (.lst (xs ++ [v])))) :
    tSeq (tDrop (tBM K "list" rAppend (tVar i) (tCons te tNil))) tz D σ H := s_app (D := { D with nx := tz D }) c hi o h hz k
theorem q_appL {i : Nat} (c : Cn Γ G H) (hi : σ[i]? = some (some (.ref l))) (o : Own G H l (.lst xs)) (h : EvL Γ te σ G ds) (hz : xs.length < sizeLine)
    (k : ∀ p ys G2 H2, Stp [] G H G2 H2 → H p = none → Own G2 H2 p (.lst ys) → Das G2 ys ds → tz D σ (upd H2 l (.lst (xs ++ [.ref p])))) :
    tSeq (tDrop (tBM K "list" rAppend (tVar i) (tCons te tNil))) tz D σ H := s_appL (D := { D with nx := tz D }) c hi o h hz k
theorem q_ext {i : Nat} (c : Cn Γ G H) (hi : σ[i]? = some (some (.ref l))) (o : Own G H l (.lst xs)) (h : EvD Γ te σ G (.list ds)) (hz : xs.length + ds.length ≤ sizeLine)
    (k : ∀ ys G2 H2, Stp [] G H G2 H2 → Das G2 ys ds → Stp [l] G H G2 (upd H2 l (.lst (xs ++ ys))) → Own G2 (upd H2 l (.lst (xs ++ ys))) l (.lst (xs ++ ys)) → tz D σ (upd H2 l (.lst (xs ++ ys)))) :
    tSeq (tDrop (tBM K "list" rExtend (tVar i) (tCons te tNil))) tz D σ H := s_ext (D := { D with nx := tz D }) c hi o h hz k
theorem q_extO {i j : Nat} {l' : Addr} {ys : List V} (hi : σ[i]? = some (some (.ref l))) (o : Own G H l (.lst xs)) (hj : σ[j]? = some (some (.ref l'))) (o' : Own G H l' (.lst ys)) (gh : Same G H) (hz : xs.length + ys.length ≤ sizeLine)
    (k : Stp [l] G H G (upd H l (.lst (xs ++ ys))) → Own G (upd H l (.lst (xs ++ ys))) l (.lst (xs ++ ys)) → tz D σ (upd H l (.lst (xs ++ ys)))) :
    tSeq (tDrop (tBM K "list" rExtend (tVar i) (tCons (tVar j) tNil))) tz D σ H := s_extO (D := { D with nx := tz D }) hi o hj o' gh hz k
theorem q_put {i j : Nat} (c : Cn Γ G H) (hi : σ[i]? = some (some (.ref l))) (o : Own G H l (.lst xs)) (h : EvD Γ te σ G d) (hj : EvD Γ tb σ G (.int (j : Int))) (hl : j < xs.length)
    (k : ∀ v G2 H2, Stp [] G H G2 H2 → Da G2 v d → Stp [l] G H G2 (upd H2 l (.lst (xs.set j v))) → Own G2 (upd H2 l (.lst (xs.set j v))) l (.lst (xs.set j v)) → tz D σ (upd H2 l (.lst (xs.set j v)))) :
    tSeq (tAsg te (gSub (tVar i) tb rSetL)) tz D σ H := s_put (D := { D with nx := tz D }) c hi o h hj hl k
theorem q_aug {i : Nat} {f : Int → Int → Int} {a b : Int} (c : Cn Γ G H) (hx : σ[i]? = some (some (.int a))) (h : EvD Γ te σ G (.int b)) (k : ∀ G2 H2, Stp [] G H G2 H2 → tz D (σ.set i (some (.int (f a b)))) H2) : tSeq (tAug i te (ipI f)) tz D σ H := s_aug (D := { D with nx := tz D }) c hx h k
theorem q_forAcc {α : Type} {wi : TI} (L : List α) (enc : α → PyData) (h : α → PyData) (S : L2.St → Prop) (c : Cn Γ G H) (hi : EvI Γ wi σ G (L.map enc)) (o : Own G H l (.lst xs)) (hx : Das G xs ds) (S0 : S σ)
    (turn : ∀ i a G' H' σ' xs' x (N : L2.St → Hp → Prop), L[i]? = some a → Stp [l] G H G' H' → S σ' → Own G' H' l (.lst xs') → xs'.length = ds.length + i → Da G' x (enc a) →
      (∀ σ3 G3 H3 y, S σ3 → Stp [l] G' H' G3 H3 → Own G3 H3 l (.lst (xs' ++ [y])) → Da G3 y (h a) → N σ3 H3) → g x σ' H' fun σ2 H2 => tu { D with nx := N, ct := N, bk := tz D } σ2 H2)
    (done : ∀ σ' G' H' xs', S σ' → Stp [l] G H G' H' → Own G' H' l (.lst xs') → Das G' xs' (ds ++ L.map h) → tz D σ' H') : tSeq (tFor wi g tu) tz D σ H := s_forAcc (D := { D with nx := tz D }) L enc h S c hi o hx S0 turn done
theorem q_for {α : Type} {wi : TI} (L : List α) (enc : α → PyData) (c : Cn Γ G H) (hi : EvI Γ wi σ G (L.map enc)) (Pv : Hp → Hp → Nat → L2.St → Hp → Hp → Prop)
    (h0 : ∀ G1 H1, Stp [] G H G1 H1 → Pv G1 H1 0 σ G1 H1) (hk : ∀ G1 H1 i σ' G' H', Pv G1 H1 i σ' G' H' → Same G1 G' ∧ Same G' H')
    (hs : ∀ G1 H1 i a σ' G' H' x G2 H2, Stp [] G H G1 H1 → L[i]? = some a → Pv G1 H1 i σ' G' H' → Stp [] G' H' G2 H2 → Da G2 x (enc a) →
      g x σ' H2 fun σ2 H3 => tu { D with nx := fun σ3 H4 => ∃ G4, Pv G1 H1 (i + 1) σ3 G4 H4, ct := fun σ3 H4 => ∃ G4, Pv G1 H1 (i + 1) σ3 G4 H4, bk := tz D } σ2 H3)
    (hd : ∀ G1 H1 σ' G' H', Stp [] G H G1 H1 → Pv G1 H1 L.length σ' G' H' → tz D σ' H') : tSeq (tFor wi g tu) tz D σ H := s_for (D := { D with nx := tz D }) L enc c hi Pv h0 hk hs hd
theorem q_while (W : Nat → L2.St → Hp → Hp → Prop) (m0 : Nat) (h0 : W m0 σ G H)
    (hs : ∀ m σ' G' H', W m σ' G' H' → ∃ Γ b, Cn Γ G' H' ∧ EvB Γ t σ' G' b ∧ (b = true → ∀ G1 H1, Stp [] G' H' G1 H1 → tu { D with nx := fun σ2 H2 => ∃ m' G2, m' < m ∧ W m' σ2 G2 H2, ct := fun σ2 H2 => ∃ m' G2, m' < m ∧ W m' σ2 G2 H2, bk := tz D } σ' H1) ∧ (b = false → ∀ G1 H1, Stp [] G' H' G1 H1 → tz D σ' H1)) : tSeq (tWhile t tu) tz D σ H := s_while (D := { D with nx := tz D }) W m0 h0 (fun _ _ _ => []) hs
theorem zipIdx_map' {α β : Type} (f : α → β) (l : List α) : (l.map f).zipIdx = l.zipIdx.map fun x => (f x.1, x.2) := by
  rw [List.zipIdx_map]
  rfl
theorem i_enum {α : Type} (L : List α) (enc : α → PyData) (h : EvD Γ te σ G (.tuple (L.map enc))) : EvI Γ (iEnumT K (tCons te tNil)) σ G (L.zipIdx.map fun x => pairD x.2 (enc x.1)) := (i_enumT h).eq (by rw [zipIdx_map', List.map_map]; rfl)
end
end N41
/-! GS3: comprehensions over owned lists, with two clauses; naturals. -/
namespace N41
open PySem PySem.Spec PyProof.Rows L2
abbrev vN (x : Nat) : V := .int (x : Int)
section
variable {K : PySem.W.Frag} {Γ : List (Addr × HO)} {σ : L2.St} {G G' H : Hp} {ta tb tc te tx : TE} {t u : TT} {x y z v : V} {d d' e : PyData} {ds ds' es : List PyData} {vs xs : List V} {l : Addr} {D : Ends} {tu tw tz : TS} {g : TG} {H1 : Hp}
theorem das_nats (G : Hp) : ∀ ns : List Nat, Das G (ns.map vN) (ns.map natD)
  | [] => .nil
  | n :: ns => .cons (.int _) (das_nats G ns)
theorem Das.inv_nats : ∀ {ns : List Nat} {vs : List V}, Das G vs (ns.map natD) → vs = ns.map vN
  | [], _, h => by cases h; rfl
  | n :: ns, _, h => by
    cases h with
    | cons h1 h2 =>
      cases h1.inv_int
      rw [Das.inv_nats h2]
      rfl
theorem nat_get {ns : List Nat} {i x : Nat} (h : ns[i]? = some x) : (ns.map natD)[i]? = some (natD x) := by rw [List.getElem?_map, h]; rfl
theorem nats_ints (ns : List Nat) : ns.map vN = (ns.map fun x : Nat => (x : Int)).map V.int := by rw [List.map_map]; rfl
theorem natsD_ints (ns : List Nat) : ns.map natD = (ns.map fun x : Nat => (x : Int)).map PyData.int := by rw [List.map_map]; rfl
theorem mem_cast {k : Nat} {ns : List Nat} : (k : Int) ∈ ns.map (fun x : Nat => (x : Int)) ↔ k ∈ ns := by
  constructor
  · intro h
    obtain ⟨x, hx, e⟩ := List.mem_map.mp h
    have : x = k := by omega
    rw [← this]; exact hx
  · intro h
    exact List.mem_map.mpr ⟨k, h, rfl⟩
theorem dec_cast {k : Nat} {ns : List Nat} : decide ((k : Int) ∈ ns.map (fun x : Nat => (x : Int))) = decide (k ∈ ns) := by
  by_cases h : k ∈ ns
  · rw [decide_eq_true h, decide_eq_true (mem_cast.mpr h)]
  · rw [decide_eq_false h, decide_eq_false (fun z => h (mem_cast.mp z))]
theorem e_inON {neg : Bool} {i k : Nat} {ns : List Nat} (hm : (l, HO.lst (ns.map vN)) ∈ Γ) (hi : σ[i]? = some (some (.ref l))) (ha : EvD Γ ta σ G (.int (k : Int))) :
    EvD Γ (tOp (rIn K neg) ta (tVar i)) σ G (.bool (if neg then !decide (k ∈ ns) else decide (k ∈ ns))) := by
  rw [nats_ints] at hm
  have := e_inO (K := K) (neg := neg) hm hi ha
  rw [dec_cast] at this
  exact this
theorem e_inLN {neg : Bool} {k : Nat} {ns : List Nat} (ha : EvD Γ ta σ G (.int (k : Int))) (hb : EvD Γ tb σ G (.list (ns.map natD))) : EvD Γ (tOp (rIn K neg) ta tb) σ G (.bool (if neg then !decide (k ∈ ns) else decide (k ∈ ns))) := by
  rw [natsD_ints] at hb
  have := e_inL (K := K) (neg := neg) ha hb
  rw [dec_cast] at this
  exact this
theorem e_inTN {neg : Bool} {k : Nat} {ns : List Nat} (ha : EvD Γ ta σ G (.int (k : Int))) (hb : EvD Γ tb σ G (.tuple (ns.map natD))) : EvD Γ (tOp (rIn K neg) ta tb) σ G (.bool (if neg then !decide (k ∈ ns) else decide (k ∈ ns))) := by
  rw [natsD_ints] at hb
  have := e_inT (K := K) (neg := neg) ha hb
  rw [dec_cast] at this
  exact this
/-- a comprehension over an owned list -/
theorem l_lcO {α : Type} {i0 j : Nat} {tt : TT} {ws : List Nat} (L : List α) (enc : α → PyData) (p : α → Bool) (h : α → PyData) (hm : (l, HO.lst xs) ∈ Γ) (hi : σ[i0]? = some (some (.ref l))) (hx : Das G xs (L.map enc)) (hz : L.length < sizeLine) (hw : ∀ x, wipe ((wipe σ ws).set j (some x)) ws = wipe σ ws)
    (turn : ∀ a G1 x, a ∈ L → Same G G1 → Da G1 x (enc a) → EvB Γ tt ((wipe σ ws).set j (some x)) G1 (p a) ∧ (p a = true → EvD Γ te ((wipe σ ws).set j (some x)) G1 (h a))) :
    EvL Γ (tLc (iList K (tVar i0)) (gName j) tt te ws) σ G ((L.filter p).map h) := fun G1 H1 a b Q q => i_listO hm hi hx G1 H1 a b _ fun J gos sto D hD => by
  have gD : G1 D = none := Same.free b.i hD
  have start : Stp [] G1 H1 G1 (upd H1 D (.lst [])) := Stp.newO b.i hD
  refine ⟨fun i m H' => m = L.length - i ∧ i ≤ L.length ∧ ∃ G' xs, Stp [D] G1 (upd H1 D (.lst [])) G' H' ∧ Own G' H' D (.lst xs) ∧ Das G' xs (((L.take i).filter p).map h), ⟨L.length, rfl, Nat.zero_le _, G1, [], Stp.refl start.i, ⟨gD, upd_same⟩, .nil⟩, ?_⟩
  rintro i m H' ⟨rfl, hiL, G', xs', st, ow, dx⟩
  have cn : Cn Γ G' H' := ⟨st.i, fun pr hp => by
    have o1 := (b.up start).o pr hp
    refine st.ownM (fun z => ?_) o1
    have z' : pr.1 = D := by simpa using z
    have o2 := b.o pr hp
    rw [z'] at o2
    have o3 := o2.2
    rw [hD] at o3
    cases o3⟩
  by_cases hlt : i < L.length
  · have e : L[i]? = some L[i] := List.getElem?_eq_getElem hlt
    obtain ⟨go, yl⟩ := gos i (enc L[i]) G' H' (by rw [List.getElem?_map, e]; rfl) st.g st.i (cn.o _ hm)
    refine .inr ⟨go, fun H'' => i + 1 ≤ L.length ∧ ∃ G' xs, Stp [D] G1 (upd H1 D (.lst [])) G' H'' ∧ Own G' H'' D (.lst xs) ∧ Das G' xs (((L.take (i + 1)).filter p).map h), fun H'' z => ⟨L.length - (i + 1), by omega, rfl, z.1, z.2⟩, fun x H'' y => ?_⟩
    obtain ⟨rfl, dx2⟩ := yl x H'' y
    obtain ⟨hb, he⟩ := turn L[i] G' x (List.getElem_mem hlt) (a.trans st.g) dx2
    refine ⟨hw x, hb G' H'' (Same.refl _) cn _ fun G3 H3 s3 => ?_⟩
    have st3 : Stp [D] G1 (upd H1 D (.lst [])) G3 H3 := st.up s3
    cases hp : p L[i] with
    | false =>
      rw [if_neg Bool.false_ne_true]
      refine ⟨hlt, G3, xs', st3, s3.own ow, ?_⟩
      rw [take_succ_filter p h e, hp, if_neg Bool.false_ne_true, List.append_nil]
      exact s3.das dx
    | true =>
      rw [if_pos rfl]
      refine he hp G3 H3 s3.g (cn.up s3) _ fun y G4 H4 s4 dy => ?_
      have ow4 := s4.own (s3.own ow)
      have dx4 := s4.das (s3.das dx)
      refine ⟨xs', ow4.2, ?_, hlt, G4, xs' ++ [y], (st3.up s4).trans (Stp.put s4.i ow4 (by simp)), ow4.put, ?_⟩
      · have h1 := dx.length
        have h2 : (((L.take i).filter p).map h).length ≤ i := by
          rw [List.length_map]
          refine Nat.le_trans (List.length_filter_le _ _) ?_
          rw [List.length_take]
          exact Nat.min_le_left _ _
        exact Nat.lt_of_le_of_lt (by omega) hz
      · rw [take_succ_filter p h e, hp, if_pos rfl]
        exact dx4.snoc dy
  · have ei : i = L.length := by omega
    subst ei
    refine .inl ⟨?_, ?_⟩
    · have z := sto G' H' st.g st.i (cn.o _ hm)
      rw [List.length_map] at z
      exact z
    · rw [List.take_length] at dx
      exact q D xs' G' H' (start.comp st fun c hc => .inr (by have : c = D := by simpa using hc
                                                              subst this; exact hD)) hD ow dx
theorem flat_snoc {α : Type} {β : Type} {L : List α} {i : Nat} {a : α} (f : α → List β) (hi : L[i]? = some a) : (L.take (i + 1)).flatMap f = (L.take i).flatMap f ++ f a := by
  rw [List.take_add_one, hi, List.flatMap_append]
  simp
/-- a comprehension with two clauses, the second with a test -/
theorem l_lc2N {α β : Type} {wi wi1 : TI} {j j1 : Nat} {tt1 : TT} {ws ws1 : List Nat} (L : List α) (enc : α → PyData) (L1 : α → List β) (enc1 : β → PyData) (p1 : α → β → Bool) (h : α → β → PyData) (hi : EvI Γ wi σ G (L.map enc)) (hz : (L.flatMap fun a => L1 a).length < sizeLine)
    (hw : ∀ x, wipe ((wipe σ ws).set j (some x)) ws = wipe σ ws) (hw1 : ∀ x y, wipe ((wipe ((wipe σ ws).set j (some x)) ws1).set j1 (some y)) ws1 = wipe ((wipe σ ws).set j (some x)) ws1)
    (src : ∀ a G1 x, a ∈ L → Same G G1 → Da G1 x (enc a) → EvI Γ wi1 ((wipe σ ws).set j (some x)) G1 ((L1 a).map enc1))
    (turn : ∀ a b G1 x y, a ∈ L → b ∈ L1 a → Same G G1 → Da G1 x (enc a) → Da G1 y (enc1 b) → EvB Γ tt1 ((wipe ((wipe σ ws).set j (some x)) ws1).set j1 (some y)) G1 (p1 a b) ∧ (p1 a b = true → EvD Γ te ((wipe ((wipe σ ws).set j (some x)) ws1).set j1 (some y)) G1 (h a b))) :
    EvL Γ (tLc2 wi (gName j) tYes wi1 (gName j1) tt1 te ws ws1) σ G (L.flatMap fun a => ((L1 a).filter (p1 a)).map (h a)) := fun G1 H1 a b Q q => hi G1 H1 a b _ fun J G2 H2 s Y D hD => by
  have gD : G2 D = none := Same.free s.i hD
  have start : Stp [] G2 H2 G2 (upd H2 D (.lst [])) := Stp.newO s.i hD
  have cnOf : ∀ {G' H'}, Stp [D] G2 (upd H2 D (.lst [])) G' H' → Cn Γ G' H' := fun {G' H'} st => ⟨st.i, fun pr hp => by
    have o1 := ((b.up s).up start).o pr hp
    refine st.ownM (fun z => ?_) o1
    have z' : pr.1 = D := by simpa using z
    have o2 := (b.up s).o pr hp
    rw [z'] at o2
    have o3 := o2.2
    rw [hD] at o3
    cases o3⟩
  have lenb : ∀ i, ((L.take i).flatMap fun a => ((L1 a).filter (p1 a)).map (h a)).length ≤ ((L.take i).flatMap fun a => L1 a).length := fun i => by
    generalize L.take i = M
    induction M with
    | nil => simp
    | cons c M ih =>
      rw [List.flatMap_cons, List.flatMap_cons, List.length_append, List.length_append, List.length_map]
      have := List.length_filter_le (p1 c) (L1 c)
      omega
  refine ⟨fun i m H' => m = L.length - i ∧ i ≤ L.length ∧ ∃ G' xs, Stp [D] G2 (upd H2 D (.lst [])) G' H' ∧ Own G' H' D (.lst xs) ∧ Das G' xs ((L.take i).flatMap fun a => ((L1 a).filter (p1 a)).map (h a)), ⟨L.length, rfl, Nat.zero_le _, G2, [], Stp.refl start.i, ⟨gD, upd_same⟩, by simpa using Das.nil⟩, ?_⟩
  rintro i m H' ⟨rfl, hiL, G', xs, st, ow, dx⟩
  by_cases hlt : i < L.length
  · have e : L[i]? = some L[i] := List.getElem?_eq_getElem hlt
    obtain ⟨go, yl⟩ := Y.go i (enc L[i]) G' H' (by rw [List.getElem?_map, e]; rfl) st.g st.i
    refine .inr ⟨go, fun H'' => i + 1 ≤ L.length ∧ ∃ G' xs, Stp [D] G2 (upd H2 D (.lst [])) G' H'' ∧ Own G' H'' D (.lst xs) ∧ Das G' xs ((L.take (i + 1)).flatMap fun a => ((L1 a).filter (p1 a)).map (h a)), fun H'' z => ⟨L.length - (i + 1), by omega, rfl, z.1, z.2⟩, fun x H'' y => ?_⟩
    obtain ⟨G3, s3, dx3⟩ := yl x H'' y
    have st3 := st.up s3
    refine ⟨hw x, ?_⟩
    refine b_yes G3 H'' (Same.refl _) (cnOf st3) _ fun G4 H4 s4 => ?_
    rw [if_pos rfl]
    have st4 := st3.up s4
    refine src L[i] G4 x (List.getElem_mem hlt) (a.trans (s.g.trans st4.g)) (s4.da dx3) G4 H4 (Same.refl _) (cnOf st4) _ fun J1 G5 H5 s5 Y1 => ?_
    have st5 := st4.up s5
    have ow5 := s5.own (s4.own (s3.own ow))
    have dx5 := (s5.das (s4.das (s3.das dx)))
    refine ⟨fun k m' H6 => m' = (L1 L[i]).length - k ∧ k ≤ (L1 L[i]).length ∧ ∃ G6 xs, Same G5 G6 ∧ Stp [D] G2 (upd H2 D (.lst [])) G6 H6 ∧ Own G6 H6 D (.lst xs) ∧ Das G6 xs (((L.take i).flatMap fun a => ((L1 a).filter (p1 a)).map (h a)) ++ (((L1 L[i]).take k).filter (p1 L[i])).map (h L[i])), ⟨_, rfl, Nat.zero_le _, G5, xs, Same.refl _, st5, ow5, by simpa using dx5⟩, ?_⟩
    rintro k m' H6 ⟨rfl, hkL, G6, xs6, sg6, st6, ow6, dx6⟩
    by_cases hkt : k < (L1 L[i]).length
    · have ek : (L1 L[i])[k]? = some (L1 L[i])[k] := List.getElem?_eq_getElem hkt
      obtain ⟨go1, yl1⟩ := Y1.go k (enc1 (L1 L[i])[k]) G6 H6 (by rw [List.getElem?_map, ek]; rfl) sg6 st6.i
      refine .inr ⟨go1, fun H7 => k + 1 ≤ (L1 L[i]).length ∧ ∃ G7 xs, Same G5 G7 ∧ Stp [D] G2 (upd H2 D (.lst [])) G7 H7 ∧ Own G7 H7 D (.lst xs) ∧ Das G7 xs (((L.take i).flatMap fun a => ((L1 a).filter (p1 a)).map (h a)) ++ (((L1 L[i]).take (k + 1)).filter (p1 L[i])).map (h L[i])), fun H7 z => ⟨(L1 L[i]).length - (k + 1), by omega, rfl, z.1, z.2⟩, fun x1 H7 y1 => ?_⟩
      obtain ⟨G7, s7, dx7⟩ := yl1 x1 H7 y1
      have st7 := st6.up s7
      have ow7 := s7.own ow6
      refine ⟨hw1 x x1, ?_⟩
      obtain ⟨hb, he⟩ := turn L[i] (L1 L[i])[k] G7 x x1 (List.getElem_mem hlt) (List.getElem_mem hkt) (a.trans (s.g.trans st7.g)) ((s4.da dx3).mono (s5.g.trans (sg6.trans s7.g))) dx7
      refine hb G7 H7 (Same.refl _) (cnOf st7) _ fun G8 H8 s8 => ?_
      have st8 := st7.up s8
      cases hp : p1 L[i] (L1 L[i])[k] with
      | false =>
        rw [if_neg Bool.false_ne_true]
        refine ⟨hkt, G8, xs6, sg6.trans (s7.g.trans s8.g), st8, s8.own ow7, ?_⟩
        rw [take_succ_filter (p1 L[i]) (h L[i]) ek, hp, if_neg Bool.false_ne_true, List.append_nil]
        exact s8.das (s7.das dx6)
      | true =>
        rw [if_pos rfl]
        refine he hp G8 H8 s8.g (cnOf st8) _ fun y9 G9 H9 s9 dy => ?_
        have ow9 := s9.own (s8.own ow7)
        have dx9 := s9.das (s8.das (s7.das dx6))
        refine ⟨xs6, ow9.2, ?_, hkt, G9, xs6 ++ [y9], sg6.trans (s7.g.trans (s8.g.trans s9.g)), (st8.up s9).trans (Stp.put s9.i ow9 (by simp)), ow9.put, ?_⟩
        · rw [dx6.length, List.length_append, List.length_map]
          have h1 := lenb i
          have h2 : (((L1 L[i]).take k).filter (p1 L[i])).length ≤ k := by
            refine Nat.le_trans (List.length_filter_le _ _) ?_
            rw [List.length_take]
            exact Nat.min_le_left _ _
          have h3 : ((L.take (i + 1)).flatMap fun a => L1 a).length ≤ (L.flatMap fun a => L1 a).length := by
            conv => rhs; rw [← List.take_append_drop (i + 1) L]
            rw [List.flatMap_append, List.length_append]
            omega
          rw [flat_snoc (fun a => L1 a) e, List.length_append] at h3
          exact Nat.lt_of_le_of_lt (by omega) hz
        · rw [take_succ_filter (p1 L[i]) (h L[i]) ek, hp, if_pos rfl, ← List.append_assoc]
          exact dx9.snoc dy
    · have ei : k = (L1 L[i]).length := by omega
      subst ei
      refine .inl ⟨?_, hlt, G6, xs6, st6, ow6, ?_⟩
      · have z := Y1.stop G6 H6 sg6 st6.i
        rw [List.length_map] at z
        exact z
      · rw [List.take_length] at dx6
        rw [flat_snoc (fun a => ((L1 a).filter (p1 a)).map (h a)) e]
        exact dx6
  · have ei : i = L.length := by omega
    subst ei
    refine .inl ⟨?_, ?_⟩
    · have z := Y.stop G' H' st.g st.i
      rw [List.length_map] at z
      exact z
    · rw [List.take_length] at dx
      exact q D xs G' H' ((s.trans start).comp st fun c hc => .inr (by have : c = D := by simpa using hc
                                                                       subst this; exact s.free hD)) (s.free hD) ow dx
/-- a, b = [..], e where a name is a cell -/
theorem q_parC {i j : Nat} (c : Cn Γ G H) (h : EvL Γ ta σ G ds) (h2 : EvD Γ tb σ G d) (k : ∀ v p xs G2 H2, Stp [] G H G2 H2 → Da G2 v d → H p = none → Own G2 H2 p (.lst xs) → Das G2 xs ds → tz D ((σ.set i (some (.ref p))).set j (some v)) H2) :
    tSeq (tAsg (tTup (tCons ta (tCons tb tNil))) (gTup K 2 (gCons (gName i) (gCons (gName j) gNil)))) tz D σ H :=
  h G H (Same.refl _) c _ fun p xs G1 H1 s hp o dx => h2 G1 H1 s.g (c.up s) _ fun v G2 H2 s2 dv => ⟨(by decide : 2 ≤ sizeLine), fun q hq => ⟨q, [.ref p, v], rfl, SqT.of upd_same, rfl, .ref p, [v], rfl, v, [], rfl, rfl,
    k v p xs G2 _ (s.trans (s2.trans (Stp.newO s2.i hq))) dv hp ((Stp.newO (m := []) s2.i hq).own (s2.own o)) (s2.das dx)⟩⟩
theorem s_appS {i : Nat} {p : PyData → Prop} (c : Cn Γ G H) (hi : σ[i]? = some (some (.ref l))) (o : Own G H l (.lst xs)) (h : EvS Γ te σ G p) (hz : xs.length < sizeLine) (k : ∀ d v G2 H2, p d → Stp [] G H G2 H2 → Da G2 v d → Stp [l] G H G2 (upd H2 l (.lst (xs ++ [v]))) → Own G2 (upd H2 l (.lst (xs ++ [v]))) l (.lst (xs ++ [v])) → D.nx σ (upd H2 l (.lst (xs ++ [v])))) :
    tDrop (tBM K "list" rAppend (tVar i) (tCons te tNil)) D σ H :=
  ⟨_, hi, Or.inl ⟨rfl, xs, SqL.of o.2⟩, h G H (Same.refl _) c _ fun d v G2 H2 hd s dv => ⟨l, xs, v, rfl, rfl, (s.own o).2, hz, k d v G2 H2 hd s dv (s.of0.trans (Stp.put s.i (s.own o) (by simp))) (s.own o).put⟩⟩
/-- tuple(sorted(x)), x an owned list of naturals: some tuple -/
theorem es_tupSorted {i : Nat} {ns : List Nat} (hm : (l, HO.lst (ns.map vN)) ∈ Γ) (hi : σ[i]? = some (some (.ref l))) (h64 : ns.length < 64) : EvS Γ (tCB (rTup K) (tCons (tCB (rSorted K) (tCons (tVar i) tNil)) tNil)) σ G (fun d => ∃ ds, d = .tuple ds) := fun G1 H1 a b Q q =>
  ⟨_, hi, l, ns.map fun x : Nat => (x : Int), rfl, by rw [← nats_ints]; exact SqL.of (b.o _ hm).2, by rw [List.length_map]; exact h64, fun ns' p p1 p2 hp => ⟨p, ns'.map V.int, rfl, .inl ⟨SqL.of upd_same, fun r hr => by
    have s1 : Stp [] G1 H1 G1 (upd H1 p (.lst (ns'.map V.int))) := Stp.newO b.i hp
    have s2 : Stp [] G1 (upd H1 p (.lst (ns'.map V.int))) (upd G1 r (.tup (ns'.map V.int))) _ := Stp.new s1.i hr
    exact q _ _ _ _ ⟨_, rfl⟩ (s1.trans s2) (.tup upd_same (das_ints ns'))⟩⟩⟩
/-- len of some list whose length is known -/
theorem es_len {n : Nat} (h : EvS Γ te σ G (fun d => ∃ ds, d = .list ds ∧ ds.length = n)) : EvD Γ (tCB (rLen K) (tCons te tNil)) σ G (.int (n : Int)) := fun G1 H1 a b Q q => h G1 H1 a b _ fun d v G2 H2 hd s dv => by
  obtain ⟨ds, rfl, hn⟩ := hd
  obtain ⟨p, xs, rfl, hp, hs⟩ := dv.inv_lst
  exact ⟨p, xs, rfl, .inl (SqL.of (s.i _ _ hp)), by rw [hs.length, hn]; exact q _ G2 H2 s (.int _)⟩
theorem e_eqI' {x : Nat} {j : Int} (ha : EvD Γ ta σ G (.int (x : Int))) (hb : EvD Γ tb σ G (.int j)) : EvD Γ (tOp rEq ta tb) σ G (.bool (decide ((x : Int) = j))) := e_eqI ha hb
/-- an owned list handed out as data -/
theorem s_retO {i : Nat} (c : Cn Γ G H) (hi : σ[i]? = some (some (.ref l))) (k : D.rt (.ref l) H) : tRet (tVar i) D σ H := ⟨_, hi, k⟩
theorem q_extO' {i j : Nat} {l' : Addr} {fs gs : List Nat} (hi : σ[i]? = some (some (.ref l))) (o : Own G H l (.lst (fs.map vN))) (hj : σ[j]? = some (some (.ref l'))) (o' : Own G H l' (.lst (gs.map vN))) (gh : Same G H) (hz : fs.length + gs.length ≤ sizeLine)
    (k : ∀ H2, Stp [l] G H G H2 → Own G H2 l (.lst ((fs ++ gs).map vN)) → tz D σ H2) : tSeq (tDrop (tBM K "list" rExtend (tVar i) (tCons (tVar j) tNil))) tz D σ H := q_extO hi o hj o' gh (by simpa using hz) fun st ow => by
  rw [← List.map_append] at st ow ⊢
  exact k _ st ow
theorem q_extN {i : Nat} {fs gs : List Nat} (c : Cn Γ G H) (hi : σ[i]? = some (some (.ref l))) (o : Own G H l (.lst (fs.map vN))) (h : EvD Γ te σ G (.list (gs.map natD))) (hz : fs.length + gs.length ≤ sizeLine)
    (k : ∀ G2 H2, Stp [l] G H G2 H2 → Own G2 H2 l (.lst ((fs ++ gs).map vN)) → tz D σ H2) : tSeq (tDrop (tBM K "list" rExtend (tVar i) (tCons te tNil))) tz D σ H := q_ext c hi o h (by simpa using hz) fun ys G2 H2 s dy st ow => by
  rw [Das.inv_nats dy, ← List.map_append] at st ow ⊢
  exact k _ _ st ow
theorem s_extN {i : Nat} {fs gs : List Nat} (c : Cn Γ G H) (hi : σ[i]? = some (some (.ref l))) (o : Own G H l (.lst (fs.map vN))) (h : EvD Γ te σ G (.list (gs.map natD))) (hz : fs.length + gs.length ≤ sizeLine)
    (k : ∀ G2 H2, Stp [l] G H G2 H2 → Own G2 H2 l (.lst ((fs ++ gs).map vN)) → D.nx σ H2) : tDrop (tBM K "list" rExtend (tVar i) (tCons te tNil)) D σ H := s_ext c hi o h (by simpa using hz) fun ys G2 H2 s dy st ow => by
  rw [Das.inv_nats dy, ← List.map_append] at st ow ⊢
  exact k _ _ st ow
end
end N41
/-! GS4: owned dicts: keys that are texts, keys that are tables. -/
namespace N41
open PySem PySem.Spec PyProof.Rows L2
section
variable {P : Program} {w : World} {K : PySem.W.Frag} {Γ : List (Addr × HO)} {σ : L2.St} {G G' H : Hp} {ta tb tc te tx tk tv : TE} {t u : TT} {x y z v : V} {d d' e : PyData} {ds ds' es : List PyData} {vs xs : List V} {l : Addr} {D : Ends} {tu tw tz : TS} {g : TG} {H1 : Hp}
/-- texts known -/
def SK (ss : List Str) : List (Key × V) := ss.map fun s => (Sum.inr s, V.bl true)
theorem sk_val {ss : List Str} {s : Str} : (valV (SK ss) (Sum.inr s)).isSome = decide (s ∈ ss) := by
  induction ss with
  | nil => rfl
  | cons a ss ih =>
    by_cases h : a = s
    · subst h
      rw [show SK (a :: ss) = (Sum.inr a, V.bl true) :: SK ss from rfl, valV_pos rfl]
      simp
    · have h2 : ¬ (Sum.inr a : Key) = Sum.inr s := fun z => h (by injection z)
      have h3 : ¬ s = a := fun z => h z.symm
      rw [show SK (a :: ss) = (Sum.inr a, V.bl true) :: SK ss from rfl, valV_neg h2, ih]
      simp [h3]
/-- {text: True} -/
theorem q_dispS {i : Nat} {s0 : Str} (c : Cn Γ G H) (h : EvD Γ tk σ G (.str s0)) (q : ∀ p G2 H2, Stp [] G H G2 H2 → H p = none → Own G2 H2 p (.dK (SK [s0])) → tz D (σ.set i (some (.ref p))) H2) :
    tSeq (tAsg (tDisp [(tk, tC (.bl true))]) (gName i)) tz D σ H := fun p hp => by
  have n0 : Stp [] G H G (upd H p (.dK [])) := Stp.newO c.i hp
  have o0 : Own G (upd H p (.dK [])) p (.dK []) := ⟨Same.free c.i hp, upd_same⟩
  refine h G (upd H p (.dK [])) (Same.refl _) (c.up n0) _ fun x G2 H2 s dx => ?_
  cases dx.inv_str
  refine ⟨(s.own o0).2, [(Sum.inr s0, .bl true)], rfl, by simp, ?_⟩
  show tz D (σ.set i (some (.ref p))) (upd H2 p (.dK (mergeK [] [(Sum.inr s0, V.bl true)])))
  have e : mergeK [] [((Sum.inr s0 : Key), V.bl true)] = SK [s0] := rfl
  rw [e]
  exact q p G2 _ ((n0.trans s).comp (Stp.put (m := [p]) s.i (s.own o0) (by simp)) fun c hc => .inr (by
    have : c = p := by simpa using hc
    rw [this]; exact hp)) hp (s.own o0).put
/-- repr(..) not in d -/
theorem b_ninS {i : Nat} {s0 : Str} {ss : List Str} (hm : (l, HO.dK (SK ss)) ∈ Γ) (hi : σ[i]? = some (some (.ref l))) (h : EvD Γ ta σ G (.str s0)) : EvB Γ (tB (tDNotIn ta (tVar i))) σ G (!decide (s0 ∈ ss)) := fun G1 H1 a b Q q =>
  h G1 H1 a b _ fun x G2 H2 s dx => ⟨_, hi, by
    cases dx.inv_str
    exact ⟨l, _, rfl, DGet.k (k := Sum.inr s0) ((b.up s).o _ hm).2, _, rfl, by rw [sk_val]; exact q G2 H2 s⟩⟩
/-- d[text] = True -/
theorem q_putS {i : Nat} {s0 : Str} {ss : List Str} (c : Cn Γ G H) (hi : σ[i]? = some (some (.ref l))) (o : Own G H l (.dK (SK ss))) (h : EvD Γ ta σ G (.str s0)) (hn : s0 ∉ ss) (hz : ss.length < sizeLine)
    (q : ∀ G2 H2, Stp [l] G H G2 H2 → Own G2 H2 l (.dK (SK (ss ++ [s0]))) → tz D σ H2) : tSeq (tAsg (tC (.bl true)) (gSub (tVar i) ta rSetD)) tz D σ H :=
  ⟨_, hi, h G H (Same.refl _) c _ fun x G2 H2 s dx => by
    cases dx.inv_str
    have o2 := s.own o
    have hv : valV (SK ss) (Sum.inr s0) = none := by
      have := sk_val (ss := ss) (s := s0)
      rw [decide_eq_false hn] at this
      cases e : valV (SK ss) (Sum.inr s0) with
      | none => rfl
      | some x => rw [e] at this; cases this
    have e : putK (SK ss) (Sum.inr s0) (V.bl true) = SK (ss ++ [s0]) := by
      rw [putK_new _ hv]
      unfold SK
      rw [List.map_append]
      rfl
    refine ⟨l, _, rfl, DPut.k (k := Sum.inr s0) o2.2 (by unfold SK; rw [List.length_map]; exact hz), ?_⟩
    rw [e]
    exact q G2 _ (s.of0.trans (Stp.put s.i o2 (by simp))) o2.put⟩
/-! ### tables -/
theorem KeysD.mono {H H' : Hp} {xs : List (List (List Int) × Addr)} (e : Same H H') (h : KeysD H xs) : KeysD H' xs := fun x hx => (h x hx).mono e
/-- [..], {table: True}, 0 -/
theorem q_par3LDI {i j k3 : Nat} {T : List (List Int)} (c : Cn Γ G H) (h : EvL Γ ta σ G ds) (hk : EvD Γ tk σ G (tD T)) (q : ∀ p xs p' a G2 H2, Stp [] G H G2 H2 → H p = none → H p' = none → p ≠ p' → Own G2 H2 p (.lst xs) → Das G2 xs ds → Own G2 H2 p' (NDo P w p' [(T, a)]) → Da G2 (.ref a) (tD T) → tz D (((σ.set i (some (.ref p))).set j (some (.ref p'))).set k3 (some (.int 0))) H2) :
    tSeq (tPar3 i j k3 (tCons ta (tCons (tDisp1 P w tk (tC (.bl true))) (tCons (tC (.int 0)) tNil)))) tz D σ H :=
  h G H (Same.refl _) c _ fun p xs G1 H1 s hp o dx p' hp' => by
    have n0 : Stp [] G1 H1 G1 (upd H1 p' (NDo P w p' [])) := Stp.newO s.i hp'
    have o0 : Own G1 (upd H1 p' (NDo P w p' [])) p' (NDo P w p' []) := ⟨Same.free s.i hp', upd_same⟩
    refine hk G1 _ s.g ((c.up s).up n0) _ fun v G2 H2 s2 dv => ?_
    obtain ⟨a, ys, rfl, ha, hs⟩ := dv.inv_tup
    have o2 := s2.own o0
    refine ⟨o2.2, a, T, rfl, rfl, dv.mono s2.i, _, _, _, rfl, ?_⟩
    have st : Stp [] G1 H1 G2 (upd H2 p' (NDo P w p' [(T, a)])) := (n0.trans s2).comp (Stp.put (m := [p']) s2.i o2 (by simp)) fun c hc => .inr (by
      have : c = p' := by simpa using hc
      rw [this]; exact hp')
    exact q p xs p' a G2 _ (s.trans st) hp (s.free hp') (o.ne hp') (st.own o) (st.das dx) o2.put dv
theorem b_ninT {i : Nat} {T : List (List Int)} {xs : List (List (List Int) × Addr)} (hm : (l, NDo P w l xs) ∈ Γ) (hi : σ[i]? = some (some (.ref l))) (hk : KeysD G xs) (h : EvD Γ ta σ G (tD T)) : EvB Γ (tTest (tOp (rNinD P w) ta (tVar i))) σ G (!decide (T ∈ xs.map (·.1))) := fun G1 H1 a b Q q =>
  h G1 H1 a b _ fun x G2 H2 s dx => ⟨_, hi, by
    obtain ⟨p, ys, rfl, ha, hs⟩ := dx.inv_tup
    exact ⟨p, l, xs, T, rfl, rfl, ((b.up s).o _ hm).2, hk.mono (a.trans (s.g.trans s.i)), dx.mono s.i, _, rfl, q G2 H2 s⟩⟩
theorem q_putT {i : Nat} {T : List (List Int)} {xs : List (List (List Int) × Addr)} (c : Cn Γ G H) (hi : σ[i]? = some (some (.ref l))) (o : Own G H l (NDo P w l xs)) (hk : KeysD G xs) (h : EvD Γ ta σ G (tD T)) (hn : T ∉ xs.map (·.1)) (hz : xs.length < sizeLine)
    (q : ∀ a G2 H2, Stp [l] G H G2 H2 → Own G2 H2 l (NDo P w l (xs ++ [(T, a)])) → KeysD G2 (xs ++ [(T, a)]) → tz D σ H2) : tSeq (tAsg (tC (.bl true)) (gSub (tVar i) ta (rPutD P w))) tz D σ H :=
  ⟨_, hi, h G H (Same.refl _) c _ fun x G2 H2 s dx => by
    obtain ⟨a, ys, rfl, ha, hs⟩ := dx.inv_tup
    have o2 := s.own o
    refine ⟨l, a, xs, T, rfl, rfl, rfl, o2.2, hk.mono (s.g.trans s.i), dx.mono s.i, hn, hz, ?_⟩
    exact q a G2 _ (s.of0.trans (Stp.put s.i o2 (by simp))) o2.put fun y hy => by
      rcases List.mem_append.mp hy with hy | hy
      · exact (hk y hy).mono s.g
      · have e : y = (T, a) := by simpa using hy
        rw [e]
        exact dx⟩
end
end N41
/-! GS5: comprehensions whose element changes something; a table of rows that are all owned. -/
namespace N41
open PySem PySem.Spec PyProof.Rows L2
section
variable {K : PySem.W.Frag} {Γ : List (Addr × HO)} {σ : L2.St} {G G' H : Hp} {ta tb tc te tx : TE} {ds ds' es : List PyData} {l : Addr} {D : Ends} {tu tw tz : TS}
theorem r_lcG {α : Type} {wi : TI} {j : Nat} {ws : List Nat} (L : List α) (enc : α → PyData) (m : List Addr) (R : Addr → List V → Hp → Hp → Prop) (cn : Cn Γ G H) (hm : ∀ c ∈ m, H c ≠ none) (hi : EvI Γ wi σ G (L.map enc)) (hz : L.length < sizeLine) (hw : ∀ x, wipe ((wipe σ ws).set j (some x)) ws = wipe σ ws)
    (R0 : ∀ C G1 H1, Stp [] G H G1 H1 → H1 C = none → R C [] G1 (upd H1 C (.lst []))) (Rup : ∀ C xs G1 H1 G2 H2, R C xs G1 H1 → Stp [] G1 H1 G2 H2 → R C xs G2 H2) (Rput : ∀ C xs G1 H1 o o', Own G1 H1 C o → R C xs G1 H1 → R C xs G1 (upd H1 C o'))
    (turn : ∀ C i a G' H' xs x, L[i]? = some a → H C = none → H' C ≠ none → Stp (C :: m) G H G' H' → xs.length = i → R C xs G' H' → Da G' x (enc a) → ∀ Q' : VK, (∀ y G2 H2, Stp m G' H' G2 H2 → R C (xs ++ [y]) G2 H2 → Q' y H2) → te ((wipe σ ws).set j (some x)) H' Q')
    (Q : VK) (q : ∀ p xs G2 H2, Stp m G H G2 H2 → H p = none → Own G2 H2 p (.lst xs) → xs.length = L.length → R p xs G2 H2 → Q (.ref p) H2) : tLc wi (gName j) tYes te ws σ H Q := hi G H (Same.refl _) cn _ fun J G2 H2 s Y C hC => by
  have gC : G2 C = none := Same.free s.i hC
  have hC0 : H C = none := s.free hC
  have start : Stp [] G2 H2 G2 (upd H2 C (.lst [])) := Stp.newO s.i hC
  have hCm : C ∉ m := fun z => hm C z hC0
  refine ⟨fun i k H' => k = L.length - i ∧ i ≤ L.length ∧ ∃ G' xs, Same G2 G' ∧ Stp (C :: m) G H G' H' ∧ Own G' H' C (.lst xs) ∧ xs.length = i ∧ R C xs G' H', ⟨L.length, rfl, Nat.zero_le _, G2, [], Same.refl _, (s.trans start).of0, ⟨gC, upd_same⟩, rfl, R0 C G2 H2 s hC⟩, ?_⟩
  rintro i k H' ⟨rfl, hiL, G', xs, sg, st, ow, hxl, r⟩
  by_cases hlt : i < L.length
  · have e : L[i]? = some L[i] := List.getElem?_eq_getElem hlt
    obtain ⟨go, yl⟩ := Y.go i (enc L[i]) G' H' (by rw [List.getElem?_map, e]; rfl) sg st.i
    refine .inr ⟨go, fun H'' => i + 1 ≤ L.length ∧ ∃ G' xs, Same G2 G' ∧ Stp (C :: m) G H G' H'' ∧ Own G' H'' C (.lst xs) ∧ xs.length = i + 1 ∧ R C xs G' H'', fun H'' z => ⟨L.length - (i + 1), by omega, rfl, z.1, z.2⟩, fun x H'' y => ?_⟩
    obtain ⟨G3, s3, dx3⟩ := yl x H'' y
    have ow3 := s3.own ow
    refine ⟨hw x, ?_⟩
    show tYes ((wipe σ ws).set j (some x)) H'' _
    unfold tYes
    simp only [if_true]
    refine turn C i L[i] G3 H'' xs x e hC0 (by rw [ow3.2]; exact fun z => nomatch z) (st.up s3) hxl (Rup _ _ _ _ _ _ r s3) dx3 _ fun y4 G4 H4 s4 r4 => ?_
    have ow4 := s4.ownM hCm ow3
    refine ⟨xs, ow4.2, Nat.lt_of_le_of_lt (by omega) hz, hlt, G4, xs ++ [y4], sg.trans (s3.g.trans s4.g), ((st.up s3).trans (s4.weak (fun c hc => List.mem_cons_of_mem _ hc))).trans (Stp.put s4.i ow4 (by simp)), ow4.put, by simp [hxl], Rput _ _ _ _ _ _ ow4 r4⟩
  · have ei : i = L.length := by omega
    refine .inl ⟨?_, ?_⟩
    · have z := Y.stop G' H' sg st.i
      rw [List.length_map] at z
      rw [ei]
      exact z
    · refine q C xs G' H' ((Stp.refl cn.i : Stp m G H G H).comp st fun c hc => ?_) hC0 ow (by omega) r
      rcases List.mem_cons.mp hc with z | z
      · rw [z]; exact .inr hC0
      · exact .inl z
/-- many owned things become known -/
theorem know_all {m : List Addr} {H1 : Hp} : ∀ (L : List (Addr × HO)) {G1 : Hp}, (∀ q ∈ L, Own G1 H1 q.1 q.2) → (L.map (·.1)).Nodup → (∀ q ∈ L, H q.1 = none) → Stp m G H G1 H1 → ∃ G2, Stp m G H G2 H1 ∧ Same G1 G2 ∧ (∀ q ∈ L, G2 q.1 = some q.2) ∧ ∀ c, c ∉ L.map (·.1) → G2 c = G1 c
  | [], G1, _, _, _, s => ⟨G1, s, Same.refl _, (fun _ h => by cases h), fun _ _ => rfl⟩
  | x :: L, G1, ho, nd, hn, s => by
    obtain ⟨n1, n2⟩ := List.nodup_cons.mp nd
    have ox := ho x (by simp)
    have k1 := Own.know s.i ox
    have sk := s.know ox (hn x (by simp))
    obtain ⟨G2, s2, e2, h2, h3⟩ := know_all L (G1 := upd G1 x.1 x.2) (fun y hy => ⟨by
      have : y.1 ≠ x.1 := fun z => n1 (List.mem_map.mpr ⟨y, hy, z⟩)
      show upd G1 x.1 x.2 y.1 = none
      rw [upd_ne this]
      exact (ho y (by simp [hy])).1, (ho y (by simp [hy])).2⟩) n2 (fun y hy => hn y (by simp [hy])) sk
    refine ⟨G2, s2, k1.2.trans e2, fun y hy => ?_, fun c hc => ?_⟩
    · rcases List.mem_cons.mp hy with rfl | hy
      · exact e2 _ _ upd_same
      · exact h2 y hy
    · have hcx : c ≠ x.1 := fun z => hc (by rw [z]; exact List.mem_cons_self ..)
      rw [h3 c fun z => hc (List.mem_cons_of_mem _ z), upd_ne hcx]
/-! ### a table whose rows are owned -/
structure Mat (G H : Hp) (p : Addr) (rs : List Addr) (M : List (List Int)) : Prop where
  own : Own G H p (.lst (rs.map V.ref))
  len : rs.length = M.length
  row : ∀ (i : Nat) (r : Addr) (row : List Int), rs[i]? = some r → M[i]? = some row → Own G H r (.lst (row.map V.int))
  nd : (p :: rs).Nodup
theorem Mat.step {m : List Addr} {p : Addr} {rs : List Addr} {M : List (List Int)} {G1 H1 : Hp} (h : Mat G H p rs M) (s : Stp m G H G1 H1) (hm : ∀ c ∈ m, c ∉ p :: rs) : Mat G1 H1 p rs M :=
  ⟨s.ownM (fun z => hm p z (by simp)) h.own, h.len, fun i r row e1 e2 => s.ownM (fun z => hm r z (by simp [List.mem_of_getElem? e1])) (h.row i r row e1 e2), h.nd⟩
theorem Mat.up {p : Addr} {rs : List Addr} {M : List (List Int)} {G1 H1 : Hp} (h : Mat G H p rs M) (s : Stp [] G H G1 H1) : Mat G1 H1 p rs M := h.step s fun _ z => by cases z
/-- one entry written -/
theorem Mat.put {p r : Addr} {rs : List Addr} {M : List (List Int)} {i j : Nat} {row : List Int} {x : Int} (h : Mat G H p rs M) (er : rs[i]? = some r) (em : M[i]? = some row) : Mat G (upd H r (.lst ((row.set j x).map V.int))) p rs (M.set i (row.set j x)) := by
  obtain ⟨n1, n2⟩ := List.nodup_cons.mp h.nd
  have hrp : p ≠ r := fun z => n1 (by rw [z]; exact List.mem_of_getElem? er)
  refine ⟨h.own.putN hrp, by rw [List.length_set]; exact h.len, fun k r' row' e1 e2 => ?_, h.nd⟩
  rw [List.getElem?_set] at e2
  by_cases hk : i = k
  · subst hk
    rw [er] at e1
    cases e1
    rw [if_pos rfl, if_pos (List.getElem?_eq_some_iff.mp em).1] at e2
    cases e2
    exact (h.row i r row er em).put
  · rw [if_neg hk] at e2
    have hne : r' ≠ r := fun z => by
      subst z
      have h1 : k < rs.length := (List.getElem?_eq_some_iff.mp e1).1
      exact hk ((List.getElem?_inj h1 n2).mp (e1.trans er.symm)).symm
    exact (h.row k r' row' e1 e2).putN hne
/-- the table is read from now on -/
theorem Mat.know {m : List Addr} {p : Addr} {rs : List Addr} {M : List (List Int)} {G1 H1 : Hp} (h : Mat G1 H1 p rs M) (s : Stp m G H G1 H1) (hn : ∀ c ∈ p :: rs, H c = none) : ∃ G2, Stp m G H G2 H1 ∧ Same G1 G2 ∧ Da G2 (.ref p) (.list (M.map fun row => .list (row.map PyData.int))) ∧ ∀ c, c ∉ p :: rs → G2 c = G1 c := by
  obtain ⟨n1, n2⟩ := List.nodup_cons.mp h.nd
  have hz : ∀ (i : Nat) (q : Addr × HO), (rs.zip (M.map fun row => HO.lst (row.map V.int)))[i]? = some q → ∃ r row, rs[i]? = some r ∧ M[i]? = some row ∧ q = (r, .lst (row.map V.int)) := fun i ⟨q1, q2⟩ e => by
    rw [List.getElem?_zip_eq_some] at e
    obtain ⟨e1, e2⟩ := e
    rw [List.getElem?_map] at e2
    cases em : M[i]? with
    | none => rw [em] at e2; cases e2
    | some row =>
      rw [em] at e2
      have e3 : q2 = .lst (row.map V.int) := (Option.some.inj e2).symm
      exact ⟨q1, row, e1, rfl, by rw [e3]⟩
  have em : (rs.zip (M.map fun row => HO.lst (row.map V.int))).map (·.1) = rs := by
    rw [List.map_fst_zip]
    rw [List.length_map]
    exact Nat.le_of_eq h.len
  obtain ⟨G2, s2, e2, h2, h3⟩ := know_all (m := m) (H := H) (G := G) (H1 := H1) ((p, HO.lst (rs.map V.ref)) :: rs.zip (M.map fun row => HO.lst (row.map V.int))) (G1 := G1) (fun q hq => by
    rcases List.mem_cons.mp hq with rfl | hq
    · exact h.own
    · obtain ⟨i, ei⟩ := List.mem_iff_getElem?.mp hq
      obtain ⟨r, row, e1, e2, rfl⟩ := hz i q ei
      exact h.row i r row e1 e2) (by rw [List.map_cons, em]; exact h.nd) (fun q hq => by
    rcases List.mem_cons.mp hq with rfl | hq
    · exact hn p (by simp)
    · have : q.1 ∈ rs := by rw [← em]; exact List.mem_map_of_mem hq
      exact hn q.1 (by simp [this])) s
  refine ⟨G2, s2, e2, .lst (h2 (p, HO.lst (rs.map V.ref)) (by simp)) ?_, fun c hc => h3 c (by rw [List.map_cons, em]; exact hc)⟩
  have hr : ∀ (i : Nat) (r : Addr) (row : List Int), rs[i]? = some r → M[i]? = some row → Da G2 (.ref r) (.list (row.map PyData.int)) := fun i r row e1 e3 => by
    refine .lst (h2 (r, .lst (row.map V.int)) (List.mem_cons_of_mem _ (List.mem_of_getElem? (i := i) ?_))) (das_ints row)
    rw [List.getElem?_zip_eq_some]
    exact ⟨e1, by rw [List.getElem?_map, e3]; rfl⟩
  have key : ∀ (rs : List Addr) (M : List (List Int)), rs.length = M.length → (∀ (i : Nat) (r : Addr) (row : List Int), rs[i]? = some r → M[i]? = some row → Da G2 (.ref r) (.list (row.map PyData.int))) → Das G2 (rs.map V.ref) (M.map fun row => PyData.list (row.map PyData.int)) := by
    intro rs
    induction rs with
    | nil =>
      intro M hl _
      cases M with
      | nil => exact .nil
      | cons _ _ => simp at hl
    | cons r rs ih =>
      intro M hl hh
      cases M with
      | nil => simp at hl
      | cons row M => exact .cons (hh 0 r row rfl rfl) (ih M (by simpa using hl) fun i r' row' e1 e2 => hh (i + 1) r' row' (by simpa using e1) (by simpa using e2))
  exact key rs M h.len hr
end
end N41
/-! M2: tables as data: compared, ordered; renamed tables; the greatest entry; far tables. -/
namespace N41
open PySem PySem.Spec PyProof.Rows L2
theorem Bd.zero {n : Nat} {B : Tab} (h : Bd n B) : ∃ r, B[0]? = some r ∧ r.length = n := by
  obtain ⟨r, e⟩ := get_of (l := B) (i := 0) (by have := h.pos; have := h.len; omega)
  exact ⟨r, e, h.rows.get e⟩
theorem Bd.get {n : Nat} {B : Tab} (h : Bd n B) {i : Nat} (hi : i < n) : ∃ r, B[i]? = some r ∧ r.length = n := by
  obtain ⟨r, e⟩ := get_of (l := B) (i := i) (by have := h.len; omega)
  exact ⟨r, e, h.rows.get e⟩
theorem Sq.get {n : Nat} {B : Tab} (h : Sq n B) {i : Nat} (hi : i < n) : ∃ r, B[i]? = some r ∧ r.length = n := by
  obtain ⟨r, e⟩ := get_of (l := B) (i := i) (by rw [h.len]; exact hi)
  exact ⟨r, e, h.rows.get e⟩
theorem Sq.bd {n : Nat} {T : Tab} (h : Sq n T) (h1 : 1 ≤ n) (h4 : n ≤ 4) : Bd n T := ⟨h1, h4, Nat.le_of_eq h.len.symm, by rw [h.len]; omega, h.rows⟩
theorem Bd.top {n : Nat} {B : Tab} (h : Bd n B) : Sq n (B.take n) := ⟨by rw [List.length_take, Nat.min_eq_left h.len], fun r hr => h.rows r (List.mem_of_mem_take hr)⟩
theorem cell_get {B : Tab} {i j : Nat} {r : List Int} {x : Int} (e : B[i]? = some r) (e2 : r[j]? = some x) : cell B i j = x := by
  unfold cell
  rw [getD_of e, getD_of e2]
theorem cell_top {n : Nat} {B : Tab} {i : Nat} (hi : i < n) (j : Nat) : cell (B.take n) i j = cell B i j := by
  have e : (B.take n).getD i [] = B.getD i [] := by rw [List.getD_eq_getElem?_getD, List.getElem?_take_of_lt hi, ← List.getD_eq_getElem?_getD]
  unfold cell
  rw [e]
/-! ### depth, compared -/
theorem depth_ints : ∀ r : List Int, PyData.depthAll (r.map PyData.int) = 0
  | [] => rfl
  | x :: r => by simp [PyData.depthAll, PyData.depth, depth_ints r]
theorem depth_rD (r : List Int) : (rD r).depth = 1 := by unfold rD; simp [PyData.depth, depth_ints]
theorem depth_rows : ∀ T : List (List Int), PyData.depthAll (T.map rD) ≤ 1
  | [] => by simp [PyData.depthAll]
  | r :: T => by
    have := depth_rows T
    simp only [List.map_cons, PyData.depthAll, depth_rD]
    omega
theorem depth_tD (T : Tab) : (tD T).depth ≤ 2 := by
  have := depth_rows T
  unfold tD
  simp only [PyData.depth]
  omega
theorem alike_row : ∀ {a b : List Int}, a.length = b.length → PySem.W.alikeAll (a.map PyData.int) (b.map PyData.int) = true
  | [], [], _ => rfl
  | x :: a, y :: b, h => by
    simp only [List.map_cons, PySem.W.alikeAll, PySem.W.alike, Bool.true_and]
    exact alike_row (by simpa using h)
  | [], _ :: _, h => by simp at h
  | _ :: _, [], h => by simp at h
theorem alike_rD {a b : List Int} (h : a.length = b.length) : PySem.W.alike (rD a) (rD b) = true := by
  unfold rD
  simp only [PySem.W.alike]
  exact alike_row h
theorem alike_rows {n : Nat} : ∀ {S T : Tab}, S.length = T.length → Rows n S → Rows n T → PySem.W.alikeAll (S.map rD) (T.map rD) = true
  | [], [], _, _, _ => rfl
  | a :: S, b :: T, h, h1, h2 => by
    simp only [List.map_cons, PySem.W.alikeAll, Bool.and_eq_true]
    exact ⟨alike_rD (by rw [h1 a (by simp), h2 b (by simp)]), alike_rows (by simpa using h) (fun r hr => h1 r (by simp [hr])) (fun r hr => h2 r (by simp [hr]))⟩
  | [], _ :: _, h, _, _ => by simp at h
  | _ :: _, [], h, _, _ => by simp at h
theorem alike_tD {n : Nat} {S T : Tab} (hS : Sq n S) (hT : Sq n T) : PySem.W.alike (tD S) (tD T) = true := by
  unfold tD
  simp only [PySem.W.alike]
  exact alike_rows (by rw [hS.len, hT.len]) hS.rows hT.rows
/-! ### renamed -/
def renM (T : Tab) (o : List Nat) : Tab := o.map fun i => o.map fun j => cell T i j
theorem renM_sq {n : Nat} (T : Tab) {o : List Nat} (h : o.length = n) : Sq n (renM T o) := ⟨by simp [renM, h], fun r hr => by
  obtain ⟨i, _, rfl⟩ := List.mem_map.mp hr
  simp [h]⟩
theorem perms_ok : ∀ n, n ≤ 4 → ∀ o ∈ Prm.perms n, o.length = n ∧ ∀ i ∈ o, i < n := by decide +kernel
theorem perms_ne : ∀ n, 1 ≤ n → n ≤ 4 → Prm.perms n ≠ [] := by
  intro n h1 h4
  have : n = 1 ∨ n = 2 ∨ n = 3 ∨ n = 4 := by omega
  rcases this with rfl | rfl | rfl | rfl <;> decide
def renAll (n : Nat) (T : Tab) : List PyData := (Prm.perms n).map fun o => tD (renM T o)
def leastD (n : Nat) (T : Tab) : PyData := minD (renAll n T)
theorem comp_tabs {n : Nat} {Ts : List Tab} (h : ∀ T ∈ Ts, Sq n T) : Comp (Ts.map tD) := fun d hd => by
  obtain ⟨T, hT, rfl⟩ := List.mem_map.mp hd
  refine ⟨(fun z => by unfold tD at z; cases z), Nat.le_trans (depth_tD T) (by decide), fun e he => ?_⟩
  obtain ⟨S, hS, rfl⟩ := List.mem_map.mp he
  exact alike_tD (h T hT) (h S hS)
theorem comp_ren {n : Nat} (h4 : n ≤ 4) (T : Tab) : Comp (renAll n T) := by
  have e : renAll n T = ((Prm.perms n).map (renM T)).map tD := by unfold renAll; rw [List.map_map]; rfl
  rw [e]
  refine comp_tabs (n := n) fun S hS => ?_
  obtain ⟨o, ho, rfl⟩ := List.mem_map.mp hS
  exact renM_sq T (perms_ok n h4 o ho).1
theorem minD_mem {ds : List PyData} (h : 0 < ds.length) : minD ds ∈ ds := by
  have h1 : argBest (btD ds) (ds.length - 1) < ds.length := by
    have := argBest_le (btD ds) (ds.length - 1)
    omega
  unfold minD
  rw [List.getD_eq_getElem?_getD, List.getElem?_eq_getElem h1]
  exact List.getElem_mem h1
theorem renAll_pos {n : Nat} (h1 : 1 ≤ n) (h4 : n ≤ 4) (T : Tab) : 0 < (renAll n T).length := by
  unfold renAll
  rw [List.length_map]
  exact List.length_pos_iff.mpr (perms_ne n h1 h4)
/-- the least one is a table -/
theorem leastD_tab {n : Nat} (h1 : 1 ≤ n) (h4 : n ≤ 4) (T : Tab) : ∃ S, Sq n S ∧ leastD n T = tD S := by
  obtain ⟨o, ho, e⟩ := List.mem_map.mp (minD_mem (renAll_pos h1 h4 T))
  exact ⟨_, renM_sq T (perms_ok n h4 o ho).1, e.symm⟩
theorem shaped_tD (T : Tab) : SeqAt.shaped (tD T) = true := by
  have k1 : ∀ r : List Int, PyData.canLayAll0 (r.map PyData.int) = true := by
    intro r
    induction r with
    | nil => rfl
    | cons x r ih => simp [PyData.canLayAll0, PyData.canLay0, ih]
  have k2 : ∀ T : List (List Int), PyData.canLayAll0 (T.map rD) = true := by
    intro T
    induction T with
    | nil => rfl
    | cons x r ih => simp [PyData.canLayAll0, PyData.canLay0, rD, ih, k1]
  unfold SeqAt.shaped
  rw [Bool.and_eq_true, decide_eq_true_eq]
  refine ⟨?_, Nat.le_trans (depth_tD T) (by decide)⟩
  unfold tD
  simp [PyData.canLay0, k2]
/-! ### the greatest entry -/
def grR (r : List Int) : Int := (r.map fun x => ((x.natAbs : Nat) : Int)).foldl max 0
def gr (T : Tab) : Int := (T.map grR).foldl max 0
theorem foldl_max_ge : ∀ (ns : List Int) (a : Int), a ≤ ns.foldl max a ∧ ∀ y ∈ ns, y ≤ ns.foldl max a
  | [], a => ⟨Int.le_refl _, fun _ h => by cases h⟩
  | x :: ns, a => by
    obtain ⟨h1, h2⟩ := foldl_max_ge ns (max a x)
    refine ⟨by rw [List.foldl_cons]; omega, fun y hy => ?_⟩
    rw [List.foldl_cons]
    rcases List.mem_cons.mp hy with rfl | hy
    · omega
    · exact h2 y hy
theorem foldl_max_mem : ∀ (ns : List Int) (a : Int), ns.foldl max a = a ∨ ns.foldl max a ∈ ns
  | [], a => .inl rfl
  | x :: ns, a => by
    rw [List.foldl_cons]
    rcases foldl_max_mem ns (max a x) with h | h
    · rw [h]
      rcases Int.le_total a x with h' | h'
      · rw [Int.max_eq_right h']; exact .inr (by simp)
      · rw [Int.max_eq_left h']; exact .inl rfl
    · exact .inr (List.mem_cons_of_mem _ h)
theorem isMax_fold {ns : List Int} (h : ns ≠ []) (h0 : ∀ y ∈ ns, 0 ≤ y) : IsMax ns (ns.foldl max 0) := by
  refine ⟨?_, (foldl_max_ge ns 0).2⟩
  rcases foldl_max_mem ns 0 with h1 | h1
  · obtain ⟨x, hx⟩ := List.exists_mem_of_ne_nil _ h
    have h2 := (foldl_max_ge ns 0).2 x hx
    have h3 := h0 x hx
    have : x = ns.foldl max 0 := by omega
    rw [← this]
    exact hx
  · exact h1
theorem fold_le {ns : List Int} {m : Int} (h0 : 0 ≤ m) (h : ∀ y ∈ ns, y ≤ m) : ns.foldl max 0 ≤ m := by
  rcases foldl_max_mem ns 0 with h1 | h1
  · omega
  · exact h _ h1
def LeE (m : Nat) (T : Tab) : Prop := ∀ r ∈ T, ∀ x ∈ r, x.natAbs ≤ m
theorem gr_le {m : Nat} {T : Tab} : gr T ≤ (m : Int) ↔ LeE m T := by
  constructor
  · intro h r hr x hx
    have h1 : grR r ≤ gr T := (foldl_max_ge _ 0).2 _ (List.mem_map_of_mem hr)
    have h2 : ((x.natAbs : Nat) : Int) ≤ grR r := (foldl_max_ge _ 0).2 _ (List.mem_map.mpr ⟨x, hx, rfl⟩)
    omega
  · intro h
    refine fold_le (by omega) fun y hy => ?_
    obtain ⟨r, hr, rfl⟩ := List.mem_map.mp hy
    refine fold_le (by omega) fun z hz => ?_
    obtain ⟨x, hx, rfl⟩ := List.mem_map.mp hz
    have := h r hr x hx
    omega
theorem grR_nonneg (r : List Int) : 0 ≤ grR r := (foldl_max_ge _ 0).1
theorem LeE.lt2 {m k : Nat} {T : Tab} (h : LeE m T) (hk : m < 2 ^ k) : Lt2 k T := fun r hr x hx => Nat.lt_of_le_of_lt (h r hr x hx) hk
/-! ### far -/
def farAt (T : Tab) (i j : Nat) : Bool := decide (cell T i j * cell T j i < -3)
def isFar (n : Nat) (T : Tab) : Bool := (List.range n).any fun i => (List.range i).any fun j => farAt T i j
/-! ### near -/
def nearL (n : Nat) (B : Tab) (p : Nat) : List Nat := (List.range n).filter fun o => !decide (cell B p o = 0)
end N41
/-! M3: the weights of a board, in plain Lean. -/
namespace N41
def Skw (n : Nat) (B : Tab) : Prop := ∃ w : Nat → Nat, (∀ i, i < n → 0 < w i) ∧ ∀ i j, i < n → j < n → ((w i : Nat) : Int) * cell B i j = -((w j : Nat) : Int) * cell B j i
def Sm (n : Nat) (B : Tab) : Prop := ∀ i j, i < n → j < n → (cell B i j).natAbs ≤ 4
abbrev fa (fs : List Nat) (i : Nat) : Nat := fs.getD i 0
def updAt (f : Nat → Nat) (fs ps : List Nat) : List Nat := ps.foldl (fun g i => g.set i (f (fa g i))) fs
theorem fa_set {fs : List Nat} {i j x : Nat} (h : i < fs.length) : fa (fs.set i x) j = if i = j then x else fa fs j := by
  unfold fa
  rw [List.getD_eq_getElem?_getD, List.getElem?_set]
  by_cases e : i = j
  · rw [if_pos e, if_pos h, if_pos e]; rfl
  · rw [if_neg e, if_neg e, List.getD_eq_getElem?_getD]
theorem updAt_len (f : Nat → Nat) : ∀ (ps fs : List Nat), (updAt f fs ps).length = fs.length
  | [], fs => rfl
  | p :: ps, fs => by
    unfold updAt
    rw [List.foldl_cons]
    have := updAt_len f ps (fs.set p (f (fa fs p)))
    unfold updAt at this
    rw [this, List.length_set]
theorem updAt_get (f : Nat → Nat) : ∀ (ps fs : List Nat), ps.Nodup → (∀ i ∈ ps, i < fs.length) → ∀ j, fa (updAt f fs ps) j = if j ∈ ps then f (fa fs j) else fa fs j
  | [], fs, _, _, j => by simp [updAt]
  | p :: ps, fs, nd, hl, j => by
    obtain ⟨h1, h2⟩ := List.nodup_cons.mp nd
    have hp : p < fs.length := hl p (by simp)
    have ih := updAt_get f ps (fs.set p (f (fa fs p))) h2 (fun i hi => by rw [List.length_set]; exact hl i (by simp [hi])) j
    have e : updAt f fs (p :: ps) = updAt f (fs.set p (f (fa fs p))) ps := rfl
    rw [e, ih, fa_set hp]
    by_cases hj : j ∈ ps
    · have : ¬ p = j := fun z => h1 (z ▸ hj)
      simp [hj, this]
    · by_cases hpj : p = j
      · subst hpj
        simp [hj]
      · have : ¬ j = p := fun z => hpj z.symm
        simp [hj, hpj, this]
theorem pigeon : ∀ (m : Nat) (ps : List Nat), ps.Nodup → (∀ i ∈ ps, i < m) → ps.length ≤ m
  | 0, ps, _, h => by
    cases ps with
    | nil => exact Nat.le_refl _
    | cons p ps => exact absurd (h p (by simp)) (by omega)
  | m + 1, ps, nd, h => by
    by_cases hm : m ∈ ps
    · have nd2 := nd.erase m
      have h2 := pigeon m (ps.erase m) nd2 fun i hi => by
        have := (List.Nodup.mem_erase_iff nd).mp hi
        have := h i this.2
        omega
      rw [List.length_erase_of_mem hm] at h2
      omega
    · have := pigeon m ps nd fun i hi => by
        have := h i hi
        have : i ≠ m := fun z => hm (z ▸ hi)
        omega
      omega
/-- the weights found so far fit along the entries that are not 0 -/
structure WI (n : Nat) (B : Tab) (w : Nat → Nat) (fs : List Nat) : Prop where
  len : fs.length = n
  bnd : ∀ i, fa fs i ≤ 65536
  fit : ∀ i j, i < n → j < n → cell B i j ≠ 0 → fa fs i ≠ 0 → fa fs j ≠ 0 ∧ fa fs i * w j = fa fs j * w i
/-- in a piece -/
structure PI_ (n : Nat) (B : Tab) (w : Nat → Nat) (start : Nat) (fs0 fs ps : List Nat) : Prop where
  len : fs.length = n
  nd : ps.Nodup
  lt : ∀ i ∈ ps, i < n
  st : start ∈ ps
  out : ∀ i, i ∉ ps → fa fs i = fa fs0 i
  pos : ∀ i ∈ ps, 1 ≤ fa fs i
  bnd : ∀ i ∈ ps, fa fs i ≤ 16 ^ ps.length
  rat : ∀ i ∈ ps, ∀ j ∈ ps, fa fs i * w j = fa fs j * w i
  zer : ∀ i ∈ ps, fa fs0 i = 0
section
variable {n : Nat} {B : Tab} {w : Nat → Nat} {start : Nat} {fs0 fs ps : List Nat}
theorem PI_.size (h : PI_ n B w start fs0 fs ps) : ps.length ≤ n := pigeon n ps h.nd h.lt
theorem PI_.begin (h0 : WI n B w fs0) (hs : start < n) (hz : fa fs0 start = 0) : PI_ n B w start fs0 (fs0.set start 1) [start] := by
  have e : ∀ j, fa (fs0.set start 1) j = if start = j then 1 else fa fs0 j := fun j => fa_set (by rw [h0.len]; exact hs)
  refine ⟨by rw [List.length_set]; exact h0.len, by simp, fun i hi => ?_, by simp, fun i hi => ?_, fun i hi => ?_, fun i hi => ?_, fun i hi j hj => ?_, fun i hi => ?_⟩
  · have : i = start := by simpa using hi
    omega
  · rw [e, if_neg (fun z => hi (by simp [z]))]
  · have h1 : start = i := (by simpa using hi : i = start).symm
    rw [e, if_pos h1]
    exact Nat.le_refl _
  · have h1 : start = i := (by simpa using hi : i = start).symm
    rw [e, if_pos h1]
    simp
  · have h1 : i = start := by simpa using hi
    have h2 : j = start := by simpa using hj
    rw [h1, h2]
  · have h1 : i = start := by simpa using hi
    rw [h1]; exact hz
theorem skw_abs {i j : Nat} (h : ((w i : Nat) : Int) * cell B i j = -((w j : Nat) : Int) * cell B j i) : w i * (cell B i j).natAbs = w j * (cell B j i).natAbs := by
  have := congrArg Int.natAbs h
  rw [Int.natAbs_mul, Int.natAbs_mul, Int.natAbs_neg] at this
  simpa using this
theorem skw_zero {i j : Nat} (hw : 0 < w j) (h : ((w i : Nat) : Int) * cell B i j = -((w j : Nat) : Int) * cell B j i) (h0 : cell B i j = 0) : cell B j i = 0 := by
  have h1 := skw_abs h
  rw [h0, Int.natAbs_zero, Nat.mul_zero] at h1
  rcases Nat.mul_eq_zero.mp h1.symm with h1 | h1
  · omega
  · exact Int.natAbs_eq_zero.mp h1
/-- another place joins the piece -/
theorem PI_.add (hw : ∀ i, i < n → 0 < w i) (hsk : ∀ i j, i < n → j < n → ((w i : Nat) : Int) * cell B i j = -((w j : Nat) : Int) * cell B j i) (hsm : Sm n B) (h : PI_ n B w start fs0 fs ps) {p o : Nat} (hp : p ∈ ps) (ho : o < n) (hz : fa fs o = 0) (hc : cell B o p ≠ 0) :
    let here := (cell B p o).natAbs
    let there := (cell B o p).natAbs
    let scale := there / Nat.gcd (fa fs p * here) there
    let fs1 := updAt (fun x => x * scale) fs ps
    PI_ n B w start fs0 (fs1.set o (fa fs1 p * here / there)) (ps ++ [o]) ∧ 1 ≤ scale ∧ scale ≤ 4 := by
  intro here there scale fs1
  have hpn := h.lt p hp
  have hthere : 1 ≤ there := Nat.pos_of_ne_zero fun z => hc (Int.natAbs_eq_zero.mp z)
  have hab : w p * here = w o * there := skw_abs (hsk p o hpn ho)
  have hhere : 1 ≤ here := Nat.pos_of_ne_zero fun z => by
    rw [z] at hab
    have h1 := hw o ho
    have : 0 < w o * there := Nat.mul_pos h1 hthere
    omega
  have hN : 1 ≤ fa fs p * here := Nat.mul_pos (h.pos p hp) hhere
  have hg : 0 < Nat.gcd (fa fs p * here) there := Nat.gcd_pos_of_pos_left _ hN
  obtain ⟨a, ea⟩ := Nat.gcd_dvd_left (fa fs p * here) there
  obtain ⟨b, eb⟩ := Nat.gcd_dvd_right (fa fs p * here) there
  have hscale : scale = b := by
    show there / Nat.gcd (fa fs p * here) there = b
    rw [show there / Nat.gcd (fa fs p * here) there = (Nat.gcd (fa fs p * here) there * b) / Nat.gcd (fa fs p * here) there from by rw [← eb]]
    exact Nat.mul_div_cancel_left b hg
  have hb1 : 1 ≤ b := Nat.pos_of_ne_zero fun z => by rw [z, Nat.mul_zero] at eb; omega
  have ha1 : 1 ≤ a := Nat.pos_of_ne_zero fun z => by rw [z, Nat.mul_zero] at ea; omega
  have hb4 : b ≤ 4 := by
    have h1 : there ≤ 4 := hsm o p ho hpn
    have h2 : b ≤ there := by
      rw [eb]
      exact Nat.le_mul_of_pos_left b hg
    omega
  have hlf : ∀ i ∈ ps, i < fs.length := fun i hi => by rw [h.len]; exact h.lt i hi
  have g1 : ∀ j, fa fs1 j = if j ∈ ps then fa fs j * b else fa fs j := fun j => by
    have := updAt_get (fun x => x * scale) ps fs h.nd hlf j
    rw [hscale] at this
    show fa (updAt (fun x => x * scale) fs ps) j = _
    rw [hscale]
    exact this
  have hol : o ∉ ps := fun z => by
    have := h.pos o z
    omega
  have hl1 : fs1.length = n := by
    show (updAt _ fs ps).length = n
    rw [updAt_len, h.len]
  have gp : fa fs1 p * here / there = a := by
    rw [g1 p, if_pos hp]
    have : fa fs p * b * here = there * a := by
      calc fa fs p * b * here = fa fs p * here * b := by rw [Nat.mul_right_comm]
        _ = Nat.gcd (fa fs p * here) there * a * b := by rw [← ea]
        _ = Nat.gcd (fa fs p * here) there * b * a := by rw [Nat.mul_right_comm]
        _ = there * a := by rw [← eb]
    rw [this]
    exact Nat.mul_div_cancel_left a hthere
  have g2 : ∀ j, fa (fs1.set o (fa fs1 p * here / there)) j = if o = j then a else fa fs1 j := fun j => by
    rw [gp]
    exact fa_set (by rw [hl1]; exact ho)
  have hgo : fa (fs1.set o (fa fs1 p * here / there)) o = a := by rw [g2, if_pos rfl]
  have hgi : ∀ i ∈ ps, fa (fs1.set o (fa fs1 p * here / there)) i = fa fs i * b := fun i hi => by
    have hne : ¬ o = i := fun z => hol (by rw [z]; exact hi)
    rw [g2, if_neg hne, g1, if_pos hi]
  have hmem : ∀ {i : Nat}, i ∈ ps ++ [o] → i ∈ ps ∨ i = o := fun hi => by simpa using hi
  -- the new one fits
  have key : ∀ i ∈ ps, a * w i = fa fs i * b * w o := fun i hi => by
    have e1 : a * there = fa fs p * b * here := by
      have : fa fs p * b * here = there * a := by
        calc fa fs p * b * here = fa fs p * here * b := by rw [Nat.mul_right_comm]
          _ = Nat.gcd (fa fs p * here) there * a * b := by rw [← ea]
          _ = Nat.gcd (fa fs p * here) there * b * a := by rw [Nat.mul_right_comm]
          _ = there * a := by rw [← eb]
      rw [this, Nat.mul_comm]
    have e2 := h.rat p hp i hi
    refine Nat.eq_of_mul_eq_mul_right (Nat.mul_pos hthere (hw p hpn)) ?_
    calc a * w i * (there * w p) = (a * there) * (w i * w p) := by ac_rfl
      _ = fa fs p * b * here * (w i * w p) := by rw [e1]
      _ = (fa fs p * w i) * b * (w p * here) := by ac_rfl
      _ = (fa fs i * w p) * b * (w o * there) := by rw [e2, hab]
      _ = fa fs i * b * w o * (there * w p) := by ac_rfl
  refine ⟨⟨by rw [List.length_set]; exact hl1, ?_, ?_, ?_, ?_, ?_, ?_, ?_, ?_⟩, by rw [hscale]; exact hb1, by rw [hscale]; exact hb4⟩
  · rw [List.nodup_append]
    exact ⟨h.nd, by simp, fun x hx y hy => by
      have : y = o := by simpa using hy
      intro z
      exact hol (by rw [← this, ← z]; exact hx)⟩
  · intro i hi
    rcases hmem hi with h1 | rfl
    · exact h.lt i h1
    · exact ho
  · simp [h.st]
  · intro i hi
    have h1 : i ∉ ps := fun z => hi (by simp [z])
    have h2 : ¬ o = i := fun z => hi (by simp [z])
    rw [g2, if_neg h2, g1, if_neg h1]
    exact h.out i h1
  · intro i hi
    rcases hmem hi with h1 | rfl
    · rw [hgi i h1]
      exact Nat.mul_pos (h.pos i h1) hb1
    · rw [hgo]; exact ha1
  · intro i hi
    have hk : (ps ++ [o]).length = ps.length + 1 := by simp
    rw [hk, Nat.pow_succ]
    rcases hmem hi with h1 | rfl
    · rw [hgi i h1]
      exact Nat.mul_le_mul (h.bnd i h1) (by omega)
    · rw [hgo]
      have h1 : a ≤ fa fs p * here := by
        rw [ea]
        exact Nat.le_mul_of_pos_left a hg
      have h2 : fa fs p * here ≤ 16 ^ ps.length * 16 := Nat.mul_le_mul (h.bnd p hp) (by have : here ≤ 4 := hsm p i hpn ho; omega)
      omega
  · intro i hi j hj
    rcases hmem hi with h1 | rfl <;> rcases hmem hj with h2 | rfl
    · rw [hgi i h1, hgi j h2]
      have := h.rat i h1 j h2
      calc fa fs i * b * w j = (fa fs i * w j) * b := by ac_rfl
        _ = (fa fs j * w i) * b := by rw [this]
        _ = fa fs j * b * w i := by ac_rfl
    · rw [hgi i h1, hgo]
      exact (key i h1).symm
    · rw [hgo, hgi j h2]
      exact key j h2
    · rfl
  · intro i hi
    rcases hmem hi with h1 | rfl
    · exact h.zer i h1
    · rw [← h.out i hol]; exact hz
/-- the common divisor of a piece -/
def comm (fs ps : List Nat) : Nat := ps.foldl (fun g i => Nat.gcd g (fa fs i)) 0
theorem comm_dvd (fs : List Nat) : ∀ (ps : List Nat) (g : Nat), ps.foldl (fun g i => Nat.gcd g (fa fs i)) g ∣ g ∧ ∀ i ∈ ps, ps.foldl (fun g i => Nat.gcd g (fa fs i)) g ∣ fa fs i
  | [], g => ⟨Nat.dvd_refl _, fun _ h => by cases h⟩
  | p :: ps, g => by
    obtain ⟨h1, h2⟩ := comm_dvd fs ps (Nat.gcd g (fa fs p))
    rw [List.foldl_cons]
    refine ⟨Nat.dvd_trans h1 (Nat.gcd_dvd_left _ _), fun i hi => ?_⟩
    rcases List.mem_cons.mp hi with rfl | hi
    · exact Nat.dvd_trans h1 (Nat.gcd_dvd_right _ _)
    · exact h2 i hi
/-- a piece is done -/
theorem PI_.done (hw : ∀ i, i < n → 0 < w i) (hsk : ∀ i j, i < n → j < n → ((w i : Nat) : Int) * cell B i j = -((w j : Nat) : Int) * cell B j i) (h4 : n ≤ 4) (h0 : WI n B w fs0) (h : PI_ n B w start fs0 fs ps)
    (hcl : ∀ i ∈ ps, ∀ j, j < n → cell B i j ≠ 0 → fa fs j ≠ 0) : WI n B w (updAt (fun x => x / comm fs ps) fs ps) ∧ 0 < comm fs ps := by
  have hd := (comm_dvd fs ps 0).2
  have hd : ∀ i ∈ ps, comm fs ps ∣ fa fs i := hd
  have hgp : 0 < comm fs ps := Nat.pos_of_ne_zero fun z => by
    have := hd start h.st
    rw [z] at this
    have h1 := Nat.eq_zero_of_zero_dvd this
    have := h.pos start h.st
    omega
  have g1 : ∀ j, fa (updAt (fun x => x / comm fs ps) fs ps) j = if j ∈ ps then fa fs j / comm fs ps else fa fs j := updAt_get _ ps fs h.nd fun i hi => by rw [h.len]; exact h.lt i hi
  refine ⟨⟨by rw [updAt_len, h.len], fun i => ?_, fun i j hi hj hc hne => ?_⟩, hgp⟩
  · rw [g1]
    split
    · rename_i hi
      have h1 := h.bnd i hi
      have h2 : 16 ^ ps.length ≤ 16 ^ 4 := Nat.pow_le_pow_right (by decide) (by have := h.size; omega)
      have h3 : fa fs i / comm fs ps ≤ fa fs i := Nat.div_le_self _ _
      have h5 : (16 : Nat) ^ 4 = 65536 := by decide
      omega
    · rename_i hi
      rw [h.out i hi]
      exact h0.bnd i
  · by_cases hip : i ∈ ps
    · have hfj := hcl i hip j hj hc
      have hjp : j ∈ ps := Classical.byContradiction fun hjp => by
        rw [h.out j hjp] at hfj
        have hcj : cell B j i ≠ 0 := fun z => hc (skw_zero (hw i hi) (hsk j i hj hi) z)
        exact (h0.fit j i hj hi hcj hfj).1 (h.zer i hip)
      obtain ⟨a, ea⟩ := hd i hip
      obtain ⟨b, eb⟩ := hd j hjp
      have ei : fa fs i / comm fs ps = a := by rw [ea]; exact Nat.mul_div_cancel_left a hgp
      have ej : fa fs j / comm fs ps = b := by rw [eb]; exact Nat.mul_div_cancel_left b hgp
      rw [g1 i, g1 j, if_pos hip, if_pos hjp, ei, ej]
      refine ⟨fun z => ?_, ?_⟩
      · rw [z, Nat.mul_zero] at eb
        exact hfj eb
      · have hr := h.rat i hip j hjp
        rw [ea, eb] at hr
        refine Nat.eq_of_mul_eq_mul_left hgp ?_
        rw [← Nat.mul_assoc, ← Nat.mul_assoc]
        exact hr
    · rw [g1 i, if_neg hip, h.out i hip] at hne ⊢
      obtain ⟨k1, k2⟩ := h0.fit i j hi hj hc hne
      have hjp : j ∉ ps := fun z => k1 (h.zer j z)
      rw [g1 j, if_neg hjp, h.out j hjp]
      exact ⟨k1, k2⟩
theorem WI.none (n : Nat) (B : Tab) (w : Nat → Nat) : WI n B w (List.replicate n 0) := by
  have e : ∀ i, fa (List.replicate n 0) i = 0 := fun i => by
    unfold fa
    rw [List.getD_eq_getElem?_getD, List.getElem?_replicate]
    split <;> rfl
  exact ⟨List.length_replicate, fun i => by rw [e]; omega, fun i j _ _ _ h => absurd (e i) h⟩
/-- what weights_of tests -/
theorem WI.test (hw : ∀ i, i < n → 0 < w i) (hsk : ∀ i j, i < n → j < n → ((w i : Nat) : Int) * cell B i j = -((w j : Nat) : Int) * cell B j i) (h : WI n B w fs) {i j : Nat} (hi : i < n) (hj : j < n) :
    ((fa fs i : Nat) : Int) * cell B i j = -((fa fs j : Nat) : Int) * cell B j i := by
  by_cases hc : cell B i j = 0
  · rw [hc, skw_zero (hw j hj) (hsk i j hi hj) hc]
    simp
  · have hcj : cell B j i ≠ 0 := fun z => hc (skw_zero (hw i hi) (hsk j i hj hi) z)
    by_cases hf : fa fs i = 0
    · have hf2 : fa fs j = 0 := Classical.byContradiction fun z => (h.fit j i hj hi hcj z).1 hf
      rw [hf, hf2]
      simp
    · obtain ⟨_, k⟩ := h.fit i j hi hj hc hf
      have hs := hsk i j hi hj
      have hwj : ((w j : Nat) : Int) ≠ 0 := by have := hw j hj; omega
      have hwi : ((w i : Nat) : Int) ≠ 0 := by have := hw i hi; omega
      have k2 : ((fa fs i : Nat) : Int) * (w j : Nat) = ((fa fs j : Nat) : Int) * (w i : Nat) := by
        have := congrArg (fun x : Nat => (x : Int)) k
        simpa using this
      refine Int.eq_of_mul_eq_mul_right hwj ?_
      calc ((fa fs i : Nat) : Int) * cell B i j * (w j : Nat) = (((fa fs i : Nat) : Int) * (w j : Nat)) * cell B i j := by ac_rfl
        _ = (((fa fs j : Nat) : Int) * (w i : Nat)) * cell B i j := by rw [k2]
        _ = ((fa fs j : Nat) : Int) * (((w i : Nat) : Int) * cell B i j) := by ac_rfl
        _ = ((fa fs j : Nat) : Int) * (-((w j : Nat) : Int) * cell B j i) := by rw [hs]
        _ = -((fa fs j : Nat) : Int) * cell B j i * (w j : Nat) := by
          rw [Int.neg_mul, Int.neg_mul, Int.neg_mul, Int.mul_neg]
          congr 1
          ac_rfl
end
end N41
/-! M4: trees and rounds of small tables: both ways to tell agree. -/
namespace N41
abbrev Adj := Nat → Nat → Bool
def nrA (n : Nat) (a : Adj) (p : Nat) : List Nat := (List.range n).filter fun o => a p o
def pcStep (n : Nat) (a : Adj) (k : Nat) (ps : List Nat) : List Nat := match ps[k]? with
  | some p => ps ++ (nrA n a p).filter fun o => !decide (o ∈ ps)
  | none => ps
def pcIt (n : Nat) (a : Adj) (s : Nat) : Nat → List Nat
  | 0 => [s]
  | k + 1 => pcStep n a k (pcIt n a s k)
def jnStep (n : Nat) (a : Adj) (s : List Nat × Nat) (i : Nat) : List Nat × Nat := if i ∈ s.1 then s else (s.1 ++ pcIt n a i n, s.2 + 1)
def jn (n : Nat) (a : Adj) : List Nat × Nat := (List.range n).foldl (jnStep n a) ([], 0)
def prs (n : Nat) (a : Adj) : Nat := ((List.range n).flatMap fun i => (List.range i).filter fun j => a i j).length
def progTree (n : Nat) (a : Adj) : Bool := decide ((jn n a).2 = 1) && decide (prs n a = n - 1)
def lmStep (a : Adj) (met : List Nat) (i : Nat) : List Nat := if (!decide (i ∈ met) && !(met.filter fun t => a i t).isEmpty) = true then met ++ [i] else met
def lmTurn (n : Nat) (a : Adj) (met : List Nat) : List Nat := (List.range n).foldl (lmStep a) met
def lm (n : Nat) (a : Adj) : Nat → List Nat
  | 0 => [0]
  | k + 1 => lmTurn n a (lm n a k)
def lprs (n : Nat) (a : Adj) : Nat := (List.range n).foldl (fun s i => s + ((List.range i).filter fun j => a i j).length) 0
def lawTree (n : Nat) (a : Adj) : Bool := decide ((lm n a n).length = n) && decide (lprs n a = n - 1)
def drS (b : Adj) (L : List Nat) : List Nat := L.filter fun p => (L.map fun o => b p o).any id
def drI (b : Adj) (n : Nat) : Nat → List Nat
  | 0 => List.range n
  | i + 1 => drS b (drI b n i)
def dirR (n : Nat) (b : Adj) : Bool := !(drI b n n).isEmpty
def grStep (n : Nat) (b : Adj) (m : List Nat) (p : Nat) : List Nat := m ++ (List.range n).filter fun o => b p o && !decide (o ∈ m)
def grTurn (n : Nat) (b : Adj) (met : List Nat) : List Nat := met.foldl (grStep n b) met
def grI (n : Nat) (b : Adj) (s : Nat) : Nat → List Nat
  | 0 => (List.range n).filter fun o => b s o
  | k + 1 => grTurn n b (grI n b s k)
def goesR (n : Nat) (b : Adj) : Bool := (List.range n).any fun s => decide (s ∈ grI n b s n)
/-! ### finitely many tables -/
def bit (m : List (List Bool)) : Adj := fun i j => (m.getD i []).getD j false
def tri (t : Fin 3) : Bool × Bool := (t == 1, t == 2)
theorem tri_of {x y : Bool} (h : (x && y) = false) : ∃ t : Fin 3, x = (tri t).1 ∧ y = (tri t).2 := by
  cases x <;> cases y
  · exact ⟨0, rfl, rfl⟩
  · exact ⟨2, rfl, rfl⟩
  · exact ⟨1, rfl, rfl⟩
  · cases h
theorem tree1 : progTree 1 (bit [[false]]) = lawTree 1 (bit [[false]]) := by decide +kernel
theorem tree2 : ∀ a : Bool, progTree 2 (bit [[false, a], [a, false]]) = lawTree 2 (bit [[false, a], [a, false]]) := by decide +kernel
theorem tree3 : ∀ a b c : Bool, progTree 3 (bit [[false, a, b], [a, false, c], [b, c, false]]) = lawTree 3 (bit [[false, a, b], [a, false, c], [b, c, false]]) := by decide +kernel
theorem tree4 : ∀ a b c d e f : Bool, progTree 4 (bit [[false, a, b, c], [a, false, d, e], [b, d, false, f], [c, e, f, false]]) = lawTree 4 (bit [[false, a, b, c], [a, false, d, e], [b, d, false, f], [c, e, f, false]]) := by decide +kernel
theorem round1 : dirR 1 (bit [[false]]) = goesR 1 (bit [[false]]) := by decide +kernel
theorem round2 : ∀ a : Fin 3, dirR 2 (bit [[false, (tri a).1], [(tri a).2, false]]) = goesR 2 (bit [[false, (tri a).1], [(tri a).2, false]]) := by decide +kernel
theorem round3 : ∀ a b c : Fin 3, dirR 3 (bit [[false, (tri a).1, (tri b).1], [(tri a).2, false, (tri c).1], [(tri b).2, (tri c).2, false]]) = goesR 3 (bit [[false, (tri a).1, (tri b).1], [(tri a).2, false, (tri c).1], [(tri b).2, (tri c).2, false]]) := by decide +kernel
theorem round4 : ∀ a b c d e f : Fin 3, dirR 4 (bit [[false, (tri a).1, (tri b).1, (tri c).1], [(tri a).2, false, (tri d).1, (tri e).1], [(tri b).2, (tri d).2, false, (tri f).1], [(tri c).2, (tri e).2, (tri f).2, false]]) = goesR 4 (bit [[false, (tri a).1, (tri b).1, (tri c).1], [(tri a).2, false, (tri d).1, (tri e).1], [(tri b).2, (tri d).2, false, (tri f).1], [(tri c).2, (tri e).2, (tri f).2, false]]) := by decide +kernel
def mm (n : Nat) (a : Adj) : List (List Bool) := (List.range n).map fun i => (List.range n).map fun j => a i j
theorem bit_mm {n : Nat} {a : Adj} (h : ∀ i j, ¬ (i < n ∧ j < n) → a i j = false) : bit (mm n a) = a := by
  funext i j
  unfold bit mm
  rw [List.getD_eq_getElem?_getD (l := List.map _ _), List.getElem?_map]
  by_cases hi : i < n
  · rw [List.getElem?_range hi]
    show (List.map (fun j => a i j) (List.range n)).getD j false = a i j
    rw [List.getD_eq_getElem?_getD, List.getElem?_map]
    by_cases hj : j < n
    · rw [List.getElem?_range hj]
      rfl
    · rw [List.getElem?_eq_none (by rw [List.length_range]; omega)]
      exact (h i j (by omega)).symm
  · rw [List.getElem?_eq_none (by rw [List.length_range]; omega)]
    show ([] : List Bool).getD j false = a i j
    rw [h i j (by omega)]
    rfl
theorem tree_eq {n : Nat} {a : Adj} (h1 : 1 ≤ n) (h4 : n ≤ 4) (out : ∀ i j, ¬ (i < n ∧ j < n) → a i j = false) (di : ∀ i, i < n → a i i = false) (sy : ∀ i j, i < n → j < n → a i j = a j i) : progTree n a = lawTree n a := by
  rw [← bit_mm out]
  have : n = 1 ∨ n = 2 ∨ n = 3 ∨ n = 4 := by omega
  rcases this with rfl | rfl | rfl | rfl
  · have e : mm 1 a = [[a 0 0]] := rfl
    rw [e, di 0 (by omega)]
    exact tree1
  · have e : mm 2 a = [[a 0 0, a 0 1], [a 1 0, a 1 1]] := rfl
    rw [e, di 0 (by omega), di 1 (by omega), sy 1 0 (by omega) (by omega)]
    exact tree2 _
  · have e : mm 3 a = [[a 0 0, a 0 1, a 0 2], [a 1 0, a 1 1, a 1 2], [a 2 0, a 2 1, a 2 2]] := rfl
    rw [e, di 0 (by omega), di 1 (by omega), di 2 (by omega), sy 1 0 (by omega) (by omega), sy 2 0 (by omega) (by omega), sy 2 1 (by omega) (by omega)]
    exact tree3 _ _ _
  · have e : mm 4 a = [[a 0 0, a 0 1, a 0 2, a 0 3], [a 1 0, a 1 1, a 1 2, a 1 3], [a 2 0, a 2 1, a 2 2, a 2 3], [a 3 0, a 3 1, a 3 2, a 3 3]] := rfl
    rw [e, di 0 (by omega), di 1 (by omega), di 2 (by omega), di 3 (by omega), sy 1 0 (by omega) (by omega), sy 2 0 (by omega) (by omega), sy 2 1 (by omega) (by omega), sy 3 0 (by omega) (by omega), sy 3 1 (by omega) (by omega), sy 3 2 (by omega) (by omega)]
    exact tree4 _ _ _ _ _ _
theorem round_eq {n : Nat} {b : Adj} (h1 : 1 ≤ n) (h4 : n ≤ 4) (out : ∀ i j, ¬ (i < n ∧ j < n) → b i j = false) (sy : ∀ i j, i < n → j < n → (b i j && b j i) = false) : dirR n b = goesR n b := by
  have di : ∀ i, i < n → b i i = false := fun i hi => by
    have := sy i i hi hi
    rwa [Bool.and_self] at this
  rw [← bit_mm out]
  have : n = 1 ∨ n = 2 ∨ n = 3 ∨ n = 4 := by omega
  rcases this with rfl | rfl | rfl | rfl
  · have e : mm 1 b = [[b 0 0]] := rfl
    rw [e, di 0 (by omega)]
    exact round1
  · have e : mm 2 b = [[b 0 0, b 0 1], [b 1 0, b 1 1]] := rfl
    obtain ⟨t1, e1, e2⟩ := tri_of (sy 0 1 (by omega) (by omega))
    rw [e, di 0 (by omega), di 1 (by omega), e1, e2]
    exact round2 _
  · have e : mm 3 b = [[b 0 0, b 0 1, b 0 2], [b 1 0, b 1 1, b 1 2], [b 2 0, b 2 1, b 2 2]] := rfl
    obtain ⟨t1, e1, e2⟩ := tri_of (sy 0 1 (by omega) (by omega))
    obtain ⟨t2, e3, e4⟩ := tri_of (sy 0 2 (by omega) (by omega))
    obtain ⟨t3, e5, e6⟩ := tri_of (sy 1 2 (by omega) (by omega))
    rw [e, di 0 (by omega), di 1 (by omega), di 2 (by omega), e1, e2, e3, e4, e5, e6]
    exact round3 _ _ _
  · have e : mm 4 b = [[b 0 0, b 0 1, b 0 2, b 0 3], [b 1 0, b 1 1, b 1 2, b 1 3], [b 2 0, b 2 1, b 2 2, b 2 3], [b 3 0, b 3 1, b 3 2, b 3 3]] := rfl
    obtain ⟨t1, e1, e2⟩ := tri_of (sy 0 1 (by omega) (by omega))
    obtain ⟨t2, e3, e4⟩ := tri_of (sy 0 2 (by omega) (by omega))
    obtain ⟨t3, e5, e6⟩ := tri_of (sy 0 3 (by omega) (by omega))
    obtain ⟨t4, e7, e8⟩ := tri_of (sy 1 2 (by omega) (by omega))
    obtain ⟨t5, e9, e10⟩ := tri_of (sy 1 3 (by omega) (by omega))
    obtain ⟨t6, e11, e12⟩ := tri_of (sy 2 3 (by omega) (by omega))
    rw [e, di 0 (by omega), di 1 (by omega), di 2 (by omega), di 3 (by omega), e1, e2, e3, e4, e5, e6, e7, e8, e9, e10, e11, e12]
    exact round4 _ _ _ _ _ _
/-! ### of a table -/
def adjT (T : Tab) : Adj := fun i j => !decide (cell T i j = 0)
def posT (T : Tab) : Adj := fun i j => decide (0 < cell T i j)
theorem cell_out {n : Nat} {T : Tab} (h : Sq n T) {i j : Nat} (hij : ¬ (i < n ∧ j < n)) : cell T i j = 0 := by
  unfold cell
  by_cases hi : i < n
  · obtain ⟨r, e, hl⟩ := h.get hi
    rw [getD_of e, List.getD_eq_getElem?_getD, List.getElem?_eq_none (by omega)]
    rfl
  · have e : T.getD i [] = [] := by
      rw [List.getD_eq_getElem?_getD, List.getElem?_eq_none (by rw [h.len]; omega)]
      rfl
    rw [e]
    rfl
theorem skw_sign {n : Nat} {B : Tab} (h : Skw n B) {i j : Nat} (hi : i < n) (hj : j < n) : (cell B i j = 0 ↔ cell B j i = 0) ∧ ¬ (0 < cell B i j ∧ 0 < cell B j i) ∧ ¬ (cell B i j < 0 ∧ cell B j i < 0) := by
  obtain ⟨w, wp, sk⟩ := h
  refine ⟨⟨fun z => skw_zero (wp j hj) (sk i j hi hj) z, fun z => skw_zero (wp i hi) (sk j i hj hi) z⟩, fun ⟨a, b⟩ => ?_, fun ⟨a, b⟩ => ?_⟩
  · have h1 := sk i j hi hj
    have w1 : (0 : Int) < ((w i : Nat) : Int) := by have := wp i hi; omega
    have w2 : (0 : Int) < ((w j : Nat) : Int) := by have := wp j hj; omega
    have p1 := Int.mul_pos w1 a
    have p2 := Int.mul_pos w2 b
    rw [Int.neg_mul] at h1
    omega
  · have h1 := sk i j hi hj
    have w1 : (0 : Int) < ((w i : Nat) : Int) := by have := wp i hi; omega
    have w2 : (0 : Int) < ((w j : Nat) : Int) := by have := wp j hj; omega
    have p1 := Int.mul_neg_of_pos_of_neg w1 a
    have p2 := Int.mul_neg_of_pos_of_neg w2 b
    rw [Int.neg_mul] at h1
    omega
theorem tree_tab {n : Nat} {T : Tab} (h1 : 1 ≤ n) (h4 : n ≤ 4) (h : Sq n T) (sk : Skw n T) : progTree n (adjT T) = lawTree n (adjT T) := by
  refine tree_eq h1 h4 (fun i j hij => ?_) (fun i hi => ?_) (fun i j hi hj => ?_)
  · unfold adjT
    rw [cell_out h hij]
    rfl
  · have := skw_sign sk hi hi
    have z : cell T i i = 0 := by omega
    unfold adjT
    rw [z]
    rfl
  · have := (skw_sign sk hi hj).1
    unfold adjT
    by_cases z : cell T i j = 0
    · rw [z, this.mp z]
    · have z2 : ¬ cell T j i = 0 := fun y => z (this.mpr y)
      rw [decide_eq_false z, decide_eq_false z2]
theorem round_tab {n : Nat} {T : Tab} (h1 : 1 ≤ n) (h4 : n ≤ 4) (h : Sq n T) (sk : Skw n T) : dirR n (posT T) = goesR n (posT T) := by
  refine round_eq h1 h4 (fun i j hij => ?_) (fun i j hi hj => ?_)
  · unfold posT
    rw [cell_out h hij]
    rfl
  · have := (skw_sign sk hi hj).2.1
    unfold posT
    by_cases z : 0 < cell T i j
    · have z2 : ¬ 0 < cell T j i := fun y => this ⟨z, y⟩
      rw [decide_eq_false z2, Bool.and_false]
    · rw [decide_eq_false z, Bool.false_and]
end N41
/-! M5: pieces of a table: small facts. -/
namespace N41
theorem nrA_lt {n : Nat} {a : Adj} {p o : Nat} (h : o ∈ nrA n a p) : o < n := List.mem_range.mp (List.mem_filter.mp h).1
theorem nrA_nd (n : Nat) (a : Adj) (p : Nat) : (nrA n a p).Nodup := List.nodup_range.sublist List.filter_sublist
theorem pcStep_ok {n : Nat} {a : Adj} {k : Nat} {ps : List Nat} (nd : ps.Nodup) (lt : ∀ i ∈ ps, i < n) : (pcStep n a k ps).Nodup ∧ ∀ i ∈ pcStep n a k ps, i < n := by
  unfold pcStep
  split
  · rename_i p _
    constructor
    · rw [List.nodup_append]
      refine ⟨nd, (nrA_nd n a p).sublist List.filter_sublist, fun x hx y hy e => ?_⟩
      have := (List.mem_filter.mp hy).2
      rw [← e] at this
      simp [hx] at this
    · intro i hi
      rcases List.mem_append.mp hi with h | h
      · exact lt i h
      · exact nrA_lt (List.mem_filter.mp h).1
  · exact ⟨nd, lt⟩
theorem pcIt_ok {n : Nat} {a : Adj} {s : Nat} (hs : s < n) : ∀ k, (pcIt n a s k).Nodup ∧ ∀ i ∈ pcIt n a s k, i < n
  | 0 => ⟨by simp [pcIt], fun i hi => by
    have : i = s := by simpa [pcIt] using hi
    omega⟩
  | k + 1 => pcStep_ok (pcIt_ok hs k).1 (pcIt_ok hs k).2
theorem pcIt_len {n : Nat} {a : Adj} {s : Nat} (hs : s < n) (k : Nat) : (pcIt n a s k).length ≤ n := pigeon n _ (pcIt_ok hs k).1 (pcIt_ok hs k).2
theorem pc_stable {n : Nat} {a : Adj} {s k : Nat} (h : (pcIt n a s k).length ≤ k) : ∀ j, pcIt n a s (k + j) = pcIt n a s k
  | 0 => rfl
  | j + 1 => by
    have ih := pc_stable h j
    show pcStep n a (k + j) (pcIt n a s (k + j)) = _
    rw [ih]
    unfold pcStep
    rw [List.getElem?_eq_none (by omega)]
theorem pc_end {n : Nat} {a : Adj} {s k : Nat} (hk : k ≤ n) (h : (pcIt n a s k).length ≤ k) : pcIt n a s n = pcIt n a s k := by
  have := pc_stable h (n - k)
  rwa [show k + (n - k) = n by omega] at this
theorem jn_bnd (n : Nat) (a : Adj) : ∀ (L : List Nat) (s : List Nat × Nat), (∀ i ∈ L, i < n) → (L.foldl (jnStep n a) s).1.length ≤ s.1.length + L.length * n ∧ (L.foldl (jnStep n a) s).2 ≤ s.2 + L.length
  | [], s, _ => by simp
  | i :: L, s, h => by
    obtain ⟨h1, h2⟩ := jn_bnd n a L (jnStep n a s i) fun j hj => h j (by simp [hj])
    have h3 : (jnStep n a s i).1.length ≤ s.1.length + n ∧ (jnStep n a s i).2 ≤ s.2 + 1 := by
      unfold jnStep
      split
      · exact ⟨by omega, by omega⟩
      · constructor
        · show (s.1 ++ pcIt n a i n).length ≤ _
          rw [List.length_append]
          have := pcIt_len (a := a) (h i (by simp)) n
          omega
        · exact Nat.le_refl _
    rw [List.foldl_cons, List.length_cons, Nat.succ_mul]
    exact ⟨by omega, by omega⟩
theorem take_fold {β : Type} (f : β → Nat → β) (b : β) {n i : Nat} (h : i < n) : ((List.range n).take (i + 1)).foldl f b = f (((List.range n).take i).foldl f b) i := by
  have e : (List.range n)[i]? = some i := List.getElem?_range h
  rw [List.take_add_one, e, List.foldl_append]
  rfl
theorem lm_ok (n : Nat) (a : Adj) : ∀ (L met : List Nat), met.Nodup → (∀ i ∈ met, i < n) → (∀ i ∈ L, i < n) → (L.foldl (lmStep a) met).Nodup ∧ ∀ i ∈ L.foldl (lmStep a) met, i < n
  | [], met, nd, lt, _ => ⟨nd, lt⟩
  | j :: L, met, nd, lt, hL => by
    rw [List.foldl_cons]
    refine lm_ok n a L _ ?_ ?_ fun i hi => hL i (by simp [hi])
    · unfold lmStep
      split
      · rename_i h
        rw [List.nodup_append]
        refine ⟨nd, by simp, fun x hx y hy e => ?_⟩
        have : y = j := by simpa using hy
        have hnj : j ∉ met := by
          have := (Bool.and_eq_true_iff.mp h).1
          simpa using this
        exact hnj (by rw [← this, ← e]; exact hx)
      · exact nd
    · unfold lmStep
      split
      · intro i hi
        rcases List.mem_append.mp hi with h | h
        · exact lt i h
        · have : i = j := by simpa using h
          rw [this]
          exact hL j (by simp)
      · exact lt
theorem lmIt_ok {n : Nat} (h1 : 1 ≤ n) (a : Adj) : ∀ k, (lm n a k).Nodup ∧ ∀ i ∈ lm n a k, i < n
  | 0 => ⟨by simp [lm], fun i hi => by
    have : i = 0 := by simpa [lm] using hi
    omega⟩
  | k + 1 => lm_ok n a (List.range n) (lm n a k) (lmIt_ok h1 a k).1 (lmIt_ok h1 a k).2 fun i hi => List.mem_range.mp hi
theorem gr_ok (n : Nat) (b : Adj) : ∀ (L met : List Nat), met.Nodup → (∀ i ∈ met, i < n) → (L.foldl (grStep n b) met).Nodup ∧ ∀ i ∈ L.foldl (grStep n b) met, i < n
  | [], met, nd, lt => ⟨nd, lt⟩
  | j :: L, met, nd, lt => by
    rw [List.foldl_cons]
    refine gr_ok n b L _ ?_ ?_
    · unfold grStep
      rw [List.nodup_append]
      refine ⟨nd, List.nodup_range.sublist List.filter_sublist, fun x hx y hy e => ?_⟩
      have := (Bool.and_eq_true_iff.mp (List.mem_filter.mp hy).2).2
      rw [← e] at this
      simp [hx] at this
    · intro i hi
      rcases List.mem_append.mp hi with h | h
      · exact lt i h
      · exact List.mem_range.mp (List.mem_filter.mp h).1
theorem grI_ok (n : Nat) (b : Adj) (s : Nat) : ∀ k, (grI n b s k).Nodup ∧ ∀ i ∈ grI n b s k, i < n
  | 0 => ⟨List.nodup_range.sublist List.filter_sublist, fun i hi => List.mem_range.mp (List.mem_filter.mp hi).1⟩
  | k + 1 => gr_ok n b _ _ (grI_ok n b s k).1 (grI_ok n b s k).2
end N41
/-! M6: the tables that are reached, breadth first. -/
namespace N41
open PySem PySem.Spec PyProof.Rows L2
/-! ### the swap's entries -/
theorem cell_sw {n p i j : Nat} {B : Tab} (h : Rows n B) (hB : n ≤ B.length) (hi : i < n) (hj : j < n) : cell (sw B p) i j = if p = i ∨ p = j then -cell B i j else mu (cell B i p) (cell B i j) (cell B p j) := by
  obtain ⟨r, e⟩ := get_of (l := B) (i := i) (by omega)
  have hr := h.get e
  obtain ⟨x, ex⟩ := get_of (l := r) (i := j) (by omega)
  have e1 : (sw B p)[i]? = some (swR B p (r, i)) := by
    unfold sw
    rw [List.getElem?_map, List.getElem?_zipIdx, e]
    simp
  have e2 : (swR B p (r, i))[j]? = some (swE B p i r (x, j)) := by
    unfold swR
    rw [List.getElem?_map, List.getElem?_zipIdx, ex]
    simp
  rw [cell_get e1 e2, cell_get e ex]
  unfold swE
  have e3 : r.getD p 0 = cell B i p := by
    unfold cell
    rw [getD_of e]
  rw [e3]
theorem sw_sq {n : Nat} {T : Tab} (h : Sq n T) (p : Nat) : Sq n (sw T p) := ⟨by rw [sw_len, h.len], sw_rows h.rows p⟩
theorem abs_sum {a b : Int} : (((a.natAbs : Nat) : Int) * b + a * ((b.natAbs : Nat) : Int)) / 2 = 0 ∨ (((a.natAbs : Nat) : Int) * b + a * ((b.natAbs : Nat) : Int)) / 2 = ((a.natAbs * b.natAbs : Nat) : Int) ∨ (((a.natAbs : Nat) : Int) * b + a * ((b.natAbs : Nat) : Int)) / 2 = -((a.natAbs * b.natAbs : Nat) : Int) := by
  rcases Int.natAbs_eq a with ha | ha <;> rcases Int.natAbs_eq b with hb | hb
  · right; left
    conv => lhs; rw [hb]; arg 1; arg 2; rw [ha]
    rw [Int.natAbs_natCast, Int.natCast_mul]
    omega
  · left
    conv => lhs; rw [hb]; arg 1; arg 2; rw [ha]
    rw [Int.natAbs_neg, Int.natAbs_natCast, Int.mul_neg]
    omega
  · left
    conv => lhs; rw [hb]; arg 1; arg 2; rw [ha]
    rw [Int.natAbs_natCast, Int.neg_mul]
    omega
  · right; right
    conv => lhs; rw [hb]; arg 1; arg 2; rw [ha]
    rw [Int.natAbs_neg, Int.natAbs_natCast, Int.mul_neg, Int.neg_mul, Int.natCast_mul]
    omega
theorem mu_le {s e o : Int} {m : Nat} (h1 : e.natAbs ≤ m) (h2 : s.natAbs * o.natAbs ≤ m) : (mu s e o).natAbs ≤ 2 * m := by
  unfold mu
  rcases abs_sum (a := s) (b := o) with h | h | h <;> rw [h]
  · omega
  · have := Int.natAbs_add_le e ((s.natAbs * o.natAbs : Nat) : Int)
    rw [Int.natAbs_natCast] at this
    omega
  · have := Int.natAbs_add_le e (-((s.natAbs * o.natAbs : Nat) : Int))
    rw [Int.natAbs_neg, Int.natAbs_natCast] at this
    omega
theorem sw_lt2 {k p : Nat} {B : Tab} (h : Lt2 k B) : Lt2 (2 * k + 1) (sw B p) := fun r hr x hx => by
  obtain ⟨⟨line, i⟩, hl, rfl⟩ := List.mem_map.mp hr
  obtain ⟨⟨en, j⟩, he, rfl⟩ := List.mem_map.mp hx
  have hline : line ∈ B := List.fst_mem_of_mem_zipIdx hl
  have hen : en ∈ line := List.fst_mem_of_mem_zipIdx he
  have b1 := h line hline en hen
  have hk : 2 ^ k ≤ 2 ^ (2 * k) := Nat.pow_le_pow_right (by decide) (by omega)
  have hk2 : 2 ^ (2 * k + 1) = 2 * 2 ^ (2 * k) := by rw [Nat.pow_succ, Nat.mul_comm]
  show (swE B p i line (en, j)).natAbs < _
  unfold swE
  split
  · rw [Int.natAbs_neg]
    show en.natAbs < _
    omega
  · have b2 : (line.getD p 0).natAbs < 2 ^ k := by
      by_cases hp : p < line.length
      · exact h line hline _ (List.mem_of_getElem? (getD_pt hp))
      · rw [List.getD_eq_getElem?_getD, List.getElem?_eq_none (by omega)]
        exact Nat.pos_of_ne_zero (by simp)
    have b3 := h.cell p j
    have hm : (line.getD p 0).natAbs * (cell B p j).natAbs ≤ 2 ^ (2 * k) - 1 := by
      have h1 : (line.getD p 0).natAbs * (cell B p j).natAbs ≤ (2 ^ k - 1) * (2 ^ k - 1) := Nat.mul_le_mul (by omega) (by omega)
      have h2 : 2 ^ (2 * k) = 2 ^ k * 2 ^ k := by rw [Nat.two_mul, Nat.pow_add]
      have hpos : 1 ≤ 2 ^ k := Nat.one_le_two_pow
      have h3 : (2 ^ k - 1) * (2 ^ k - 1) ≤ 2 ^ k * 2 ^ k - 1 := by
        generalize 2 ^ k = a at hpos
        obtain ⟨c, rfl⟩ : ∃ c, a = c + 1 := ⟨a - 1, by omega⟩
        show c * c ≤ (c + 1) * (c + 1) - 1
        rw [Nat.add_mul, Nat.mul_add]
        omega
      omega
    have := mu_le (m := 2 ^ (2 * k) - 1) (e := en) (by omega) hm
    show (mu (line.getD p 0) en (cell B p j)).natAbs < _
    omega
/-! ### a swap keeps the weights -/
theorem mu_skw {a b c wi wj wp : Int} : True := trivial
theorem sw_skw {n p : Nat} {B : Tab} (h : Rows n B) (hB : n ≤ B.length) (hp : p < n) (sk : Skw n B) : Skw n (sw B p) := by
  obtain ⟨w, wpos, ws⟩ := sk
  refine ⟨w, wpos, fun i j hi hj => ?_⟩
  rw [cell_sw h hB hi hj, cell_sw h hB hj hi]
  by_cases hc : p = i ∨ p = j
  · rw [if_pos hc, if_pos (by omega), Int.mul_neg, Int.mul_neg, ws i j hi hj]
  · rw [if_neg hc, if_neg (by omega)]
    have e0 := ws i j hi hj
    have e1 := skw_abs (ws i p hi hp)
    have e2 := skw_abs (ws p j hp hj)
    have f1 := ws i p hi hp
    have f2 := ws p j hp hj
    unfold mu
    -- the two sums
    have g1 : ((w i : Nat) : Int) * (((cell B i p).natAbs : Nat) : Int) = ((w p : Nat) : Int) * (((cell B p i).natAbs : Nat) : Int) := by
      rw [← Int.natCast_mul, ← Int.natCast_mul, e1]
    have g2 : ((w p : Nat) : Int) * (((cell B p j).natAbs : Nat) : Int) = ((w j : Nat) : Int) * (((cell B j p).natAbs : Nat) : Int) := by
      rw [← Int.natCast_mul, ← Int.natCast_mul, e2]
    have k1 : ((w i : Nat) : Int) * (((cell B i p).natAbs : Nat) * cell B p j + cell B i p * ((cell B p j).natAbs : Nat)) = -((w j : Nat) : Int) * (((cell B j p).natAbs : Nat) * cell B p i + cell B j p * ((cell B p i).natAbs : Nat)) := by
      rw [Int.mul_add, Int.mul_add]
      have a1 : ((w i : Nat) : Int) * (((cell B i p).natAbs : Nat) * cell B p j) = -((w j : Nat) : Int) * (cell B j p * ((cell B p i).natAbs : Nat)) := by
        calc ((w i : Nat) : Int) * (((cell B i p).natAbs : Nat) * cell B p j) = (((w i : Nat) : Int) * ((cell B i p).natAbs : Nat)) * cell B p j := by ac_rfl
          _ = (((w p : Nat) : Int) * ((cell B p i).natAbs : Nat)) * cell B p j := by rw [g1]
          _ = (((w p : Nat) : Int) * cell B p j) * ((cell B p i).natAbs : Nat) := by ac_rfl
          _ = (-((w j : Nat) : Int) * cell B j p) * ((cell B p i).natAbs : Nat) := by rw [f2]
          _ = -((w j : Nat) : Int) * (cell B j p * ((cell B p i).natAbs : Nat)) := by ac_rfl
      have a2 : ((w i : Nat) : Int) * (cell B i p * ((cell B p j).natAbs : Nat)) = -((w j : Nat) : Int) * (((cell B j p).natAbs : Nat) * cell B p i) := by
        calc ((w i : Nat) : Int) * (cell B i p * ((cell B p j).natAbs : Nat)) = (((w i : Nat) : Int) * cell B i p) * ((cell B p j).natAbs : Nat) := by ac_rfl
          _ = (-((w p : Nat) : Int) * cell B p i) * ((cell B p j).natAbs : Nat) := by rw [f1]
          _ = -(((w p : Nat) : Int) * ((cell B p j).natAbs : Nat) * cell B p i) := by rw [Int.neg_mul, Int.neg_mul]; congr 1; ac_rfl
          _ = -(((w j : Nat) : Int) * ((cell B j p).natAbs : Nat) * cell B p i) := by rw [g2]
          _ = -((w j : Nat) : Int) * (((cell B j p).natAbs : Nat) * cell B p i) := by rw [Int.neg_mul, Int.mul_assoc]
      rw [a1, a2, Int.add_comm]
    -- both are even
    have ev : ∀ a b : Int, ∃ s, ((a.natAbs : Nat) : Int) * b + a * ((b.natAbs : Nat) : Int) = 2 * s ∧ (((a.natAbs : Nat) : Int) * b + a * ((b.natAbs : Nat) : Int)) / 2 = s := fun a b => by
      have e : ∃ s, ((a.natAbs : Nat) : Int) * b + a * ((b.natAbs : Nat) : Int) = 2 * s := by
        rcases Int.natAbs_eq a with ha | ha <;> rcases Int.natAbs_eq b with hb | hb
        · refine ⟨a * b, ?_⟩
          rw [← ha, ← hb]; omega
        · refine ⟨0, ?_⟩
          have hb' : ((b.natAbs : Nat) : Int) = -b := by omega
          rw [← ha, hb', Int.mul_neg]; omega
        · refine ⟨0, ?_⟩
          have ha' : ((a.natAbs : Nat) : Int) = -a := by omega
          rw [← hb, ha', Int.neg_mul]; omega
        · refine ⟨-(a * b), ?_⟩
          have ha' : ((a.natAbs : Nat) : Int) = -a := by omega
          have hb' : ((b.natAbs : Nat) : Int) = -b := by omega
          rw [ha', hb', Int.neg_mul, Int.mul_neg]; omega
      obtain ⟨s, hs⟩ := e
      exact ⟨s, hs, by rw [hs]; omega⟩
    obtain ⟨s, hs1, hs2⟩ := ev (cell B i p) (cell B p j)
    obtain ⟨t, ht1, ht2⟩ := ev (cell B j p) (cell B p i)
    rw [hs1, ht1] at k1
    rw [hs2, ht2, Int.mul_add, Int.mul_add, e0]
    have k2 : ((w i : Nat) : Int) * s = -((w j : Nat) : Int) * t := by
      have : 2 * (((w i : Nat) : Int) * s) = 2 * (-((w j : Nat) : Int) * t) := by
        calc 2 * (((w i : Nat) : Int) * s) = ((w i : Nat) : Int) * (2 * s) := by ac_rfl
          _ = -((w j : Nat) : Int) * (2 * t) := k1
          _ = 2 * (-((w j : Nat) : Int) * t) := by ac_rfl
      omega
    rw [k2]
end N41
/-! M7: breadth first, in plain Lean. -/
namespace N41
abbrev Fnd := List (List Nat × Tab)
def keysF (f : Fnd) : List Tab := f.map (·.2)
def exStep (here : Tab) (row : List Nat) (f : Fnd) (p : Nat) : Fnd := if sw here p ∈ keysF f then f else f ++ [(row ++ [p], sw here p)]
def exAll (n most : Nat) (x : List Nat × Tab) (f : Fnd) : Fnd := (List.range (if x.1.length < most then n else 0)).foldl (exStep x.2 x.1) f
def expand (n most : Nat) (k : Nat) (f : Fnd) : Fnd := match f[k]? with
  | some x => exAll n most x f
  | none => f
def bfs (n most : Nat) (T : Tab) : Nat → Fnd
  | 0 => [([], T)]
  | k + 1 => expand n most k (bfs n most T k)
def gk : Nat → Nat
  | 0 => 2
  | l + 1 => 2 * gk l + 1
/-- what stands of each one found -/
structure NodeOk (n most : Nat) (x : List Nat × Tab) : Prop where
  sq : Sq n x.2
  sk : Skw n x.2
  short : x.1.length ≤ most
  lt : Lt2 (gk x.1.length) x.2
structure FOk (n most : Nat) (f : Fnd) : Prop where
  node : ∀ x ∈ f, NodeOk n most x
  nd : (keysF f).Nodup
theorem exStep_ok {n most : Nat} {x : List Nat × Tab} {f : Fnd} {p : Nat} (hx : NodeOk n most x) (hl : x.1.length < most) (hp : p < n) (h : FOk n most f) : FOk n most (exStep x.2 x.1 f p) := by
  unfold exStep
  split
  · exact h
  · rename_i hn
    refine ⟨fun y hy => ?_, ?_⟩
    · rcases List.mem_append.mp hy with hy | hy
      · exact h.node y hy
      · have e : y = (x.1 ++ [p], sw x.2 p) := by simpa using hy
        subst e
        refine ⟨sw_sq hx.sq p, sw_skw hx.sq.rows (Nat.le_of_eq hx.sq.len.symm) hp hx.sk, ?_, ?_⟩
        · rw [List.length_append]; exact hl
        · have := sw_lt2 (p := p) hx.lt
          rw [List.length_append]
          exact this
    · unfold keysF at hn ⊢
      rw [List.map_append, List.nodup_append]
      refine ⟨h.nd, by simp, fun a ha b hb e => ?_⟩
      have : b = sw x.2 p := by simpa using hb
      exact hn (by rw [← this, ← e]; exact ha)
theorem foldl_ok {n most : Nat} {x : List Nat × Tab} (hx : NodeOk n most x) (hl : x.1.length < most) : ∀ (L : List Nat) (f : Fnd), (∀ p ∈ L, p < n) → FOk n most f → FOk n most (L.foldl (exStep x.2 x.1) f)
  | [], f, _, h => h
  | p :: L, f, hL, h => by
    rw [List.foldl_cons]
    exact foldl_ok hx hl L _ (fun q hq => hL q (by simp [hq])) (exStep_ok hx hl (hL p (by simp)) h)
/-- what is added: at most one a place, each with the longer row -/
theorem foldl_more (here : Tab) (row : List Nat) : ∀ (L : List Nat) (f : Fnd), ∃ more, L.foldl (exStep here row) f = f ++ more ∧ more.length ≤ L.length ∧ ∀ y ∈ more, y.1.length = row.length + 1
  | [], f => ⟨[], by simp, by simp, fun _ h => by cases h⟩
  | p :: L, f => by
    obtain ⟨more, e1, e2, e3⟩ := foldl_more here row L (exStep here row f p)
    rw [List.foldl_cons, e1, List.length_cons]
    unfold exStep
    split
    · exact ⟨more, rfl, by omega, e3⟩
    · refine ⟨(row ++ [p], sw here p) :: more, by simp, by simp; omega, fun y hy => ?_⟩
      rcases List.mem_cons.mp hy with rfl | hy
      · simp
      · exact e3 y hy
theorem exAll_ok {n most : Nat} {x : List Nat × Tab} {f : Fnd} (hx : NodeOk n most x) (h : FOk n most f) : FOk n most (exAll n most x f) := by
  unfold exAll
  by_cases hl : x.1.length < most
  · rw [if_pos hl]
    exact foldl_ok hx hl _ _ (fun p hp => List.mem_range.mp hp) h
  · rw [if_neg hl]
    exact h
theorem bfs_ok {n most : Nat} {T : Tab} (sq : Sq n T) (sk : Skw n T) (le : LeE 2 T) : ∀ k, FOk n most (bfs n most T k)
  | 0 => ⟨fun x hx => by
    have e : x = ([], T) := by simpa [bfs] using hx
    subst e
    exact ⟨sq, sk, Nat.zero_le _, le.lt2 (by show 2 < 2 ^ 2; decide)⟩, by simp [bfs, keysF]⟩
  | k + 1 => by
    have ih := bfs_ok (most := most) sq sk le k
    show FOk n most (expand n most k (bfs n most T k))
    unfold expand
    split
    · rename_i x e
      exact exAll_ok (ih.node x (List.mem_of_getElem? e)) ih
    · exact ih
/-! ### it ends -/
def wt (n : Nat) : Nat → Nat
  | 0 => 1
  | d + 1 => 1 + n * wt n d
def phi (n most k : Nat) (f : Fnd) : Nat := k + ((f.drop k).map fun x => wt n (most - x.1.length)).sum
theorem wt_bnd : ∀ n, n ≤ 4 → ∀ d, d ≤ 6 → wt n d ≤ 5461 := by decide
theorem wt_pos (n d : Nat) : 1 ≤ wt n d := by
  cases d with
  | zero => exact Nat.le_refl _
  | succ d => show 1 ≤ 1 + n * wt n d; omega
theorem len_phi {n most k : Nat} {f : Fnd} (hk : k ≤ f.length) : f.length ≤ phi n most k f := by
  unfold phi
  have : ∀ g : Fnd, g.length ≤ (g.map fun x => wt n (most - x.1.length)).sum := by
    intro g
    induction g with
    | nil => simp
    | cons y g ih =>
      rw [List.map_cons, List.sum_cons, List.length_cons]
      have := wt_pos n (most - y.1.length)
      omega
  have := this (f.drop k)
  rw [List.length_drop] at this
  omega
theorem phi_step {n most k : Nat} {f : Fnd} {x : List Nat × Tab} (e : f[k]? = some x) (hs : x.1.length ≤ most) : phi n most (k + 1) (exAll n most x f) ≤ phi n most k f ∧ k + 1 ≤ (exAll n most x f).length := by
  have hk : k < f.length := (List.getElem?_eq_some_iff.mp e).1
  obtain ⟨more, e1, e2, e3⟩ := foldl_more x.2 x.1 (List.range (if x.1.length < most then n else 0)) f
  have e1 : exAll n most x f = f ++ more := e1
  rw [e1]
  rw [List.length_range] at e2
  have hd : f.drop k = x :: f.drop (k + 1) := by
    rw [List.drop_eq_getElem_cons hk]
    congr 1
    have := (List.getElem?_eq_some_iff.mp e).2
    exact this
  refine ⟨?_, by rw [List.length_append]; omega⟩
  unfold phi
  rw [List.drop_append_of_le_length (by omega), hd, List.map_append, List.sum_append, List.map_cons, List.sum_cons]
  have hm : (more.map fun y => wt n (most - y.1.length)).sum ≤ more.length * wt n (most - (x.1.length + 1)) := by
    clear e1 e2
    clear e1
    induction more with
    | nil => simp
    | cons y g ih =>
      rw [List.map_cons, List.sum_cons, List.length_cons, Nat.succ_mul, e3 y (by simp)]
      have := ih fun z hz => e3 z (by simp [hz])
      omega
  by_cases hl : x.1.length < most
  · rw [if_pos hl] at e2
    have hw : wt n (most - x.1.length) = 1 + n * wt n (most - (x.1.length + 1)) := by
      have : most - x.1.length = (most - (x.1.length + 1)) + 1 := by omega
      rw [this]
      rfl
    have h2 : more.length * wt n (most - (x.1.length + 1)) ≤ n * wt n (most - (x.1.length + 1)) := Nat.mul_le_mul_right _ e2
    omega
  · rw [if_neg hl] at e2
    have h0 : more.length = 0 := by omega
    rw [h0, Nat.zero_mul] at hm
    have := wt_pos n (most - x.1.length)
    omega
/-- the state of the loop -/
theorem bfs_phi {n most : Nat} {T : Tab} (h4 : n ≤ 4) (h6 : most ≤ 6) (sq : Sq n T) (sk : Skw n T) (le : LeE 2 T) : ∀ k, (k ≤ (bfs n most T k).length → phi n most k (bfs n most T k) ≤ 5461) ∧ (¬ k ≤ (bfs n most T k).length → (bfs n most T k).length ≤ 5461)
  | 0 => ⟨fun _ => by
    show phi n most 0 [([], T)] ≤ 5461
    have := wt_bnd n h4 most h6
    simp [phi]
    omega, fun h => absurd (Nat.zero_le _) h⟩
  | k + 1 => by
    obtain ⟨i1, i2⟩ := bfs_phi h4 h6 sq sk le k
    have ok := bfs_ok (most := most) sq sk le k
    have hS : bfs n most T (k + 1) = expand n most k (bfs n most T k) := rfl
    by_cases hk : k < (bfs n most T k).length
    · obtain ⟨x, e⟩ := get_of hk
      have hE : bfs n most T (k + 1) = exAll n most x (bfs n most T k) := by rw [hS]; unfold expand; rw [e]
      obtain ⟨p1, p2⟩ := phi_step (n := n) e (ok.node x (List.mem_of_getElem? e)).short
      rw [hE]
      exact ⟨fun _ => Nat.le_trans p1 (i1 (by omega)), fun h => absurd p2 h⟩
    · have hE : bfs n most T (k + 1) = bfs n most T k := by rw [hS]; unfold expand; rw [List.getElem?_eq_none (by omega)]
      rw [hE]
      refine ⟨fun h => by omega, fun _ => ?_⟩
      by_cases hk2 : k ≤ (bfs n most T k).length
      · exact Nat.le_trans (len_phi hk2) (i1 hk2)
      · exact i2 hk2
theorem bfs_len {n most : Nat} {T : Tab} (h4 : n ≤ 4) (h6 : most ≤ 6) (sq : Sq n T) (sk : Skw n T) (le : LeE 2 T) (k : Nat) : (bfs n most T k).length ≤ 5461 := by
  obtain ⟨i1, i2⟩ := bfs_phi (most := most) h4 h6 sq sk le k
  by_cases hk2 : k ≤ (bfs n most T k).length
  · exact Nat.le_trans (len_phi hk2) (i1 hk2)
  · exact i2 hk2
theorem bfs_stable {n most : Nat} {T : Tab} {k : Nat} (h : (bfs n most T k).length ≤ k) : ∀ j, bfs n most T (k + j) = bfs n most T k
  | 0 => rfl
  | j + 1 => by
    have ih := bfs_stable h j
    show expand n most (k + j) (bfs n most T (k + j)) = _
    rw [ih]
    unfold expand
    rw [List.getElem?_eq_none (by omega)]
/-- all that is reached -/
def rowsF (n most : Nat) (T : Tab) : Fnd := bfs n most T 5461
theorem bfs_end {n most : Nat} {T : Tab} {k : Nat} (hk : k ≤ 5461) (h : (bfs n most T k).length ≤ k) : rowsF n most T = bfs n most T k := by
  have := bfs_stable h (5461 - k)
  rwa [show k + (5461 - k) = 5461 by omega] at this
theorem bfs_head {n most : Nat} {T : Tab} : ∀ k, (bfs n most T k)[0]? = some ([], T)
  | 0 => rfl
  | k + 1 => by
    have ih := bfs_head (n := n) (most := most) (T := T) k
    show (expand n most k (bfs n most T k))[0]? = _
    unfold expand
    split
    · rename_i x e
      obtain ⟨more, e1, _⟩ := foldl_more x.2 x.1 (List.range (if x.1.length < most then n else 0)) (bfs n most T k)
      have e1 : exAll n most x (bfs n most T k) = bfs n most T k ++ more := e1
      rw [e1, List.getElem?_append_left (List.getElem?_eq_some_iff.mp ih).1]
      exact ih
    · exact ih
end N41
/-! M8: the text of a table tells the table. -/
namespace N41
open PySem PySem.Spec PyProof.Rows
def isW (c : Nat) : Bool := c == 45 || (decide (48 ≤ c) && decide (c ≤ 57))
def out (cur : List Nat) : List (List Nat) := if cur = [] then [] else [cur]
def tok : List Nat → List Nat → List (List Nat)
  | [], cur => out cur
  | c :: s, cur => if isW c = true then tok s (cur ++ [c]) else out cur ++ tok s []
theorem tok_word : ∀ (w : List Nat) (s cur : List Nat), (∀ c ∈ w, isW c = true) → tok (w ++ s) cur = tok s (cur ++ w)
  | [], s, cur, _ => by simp
  | c :: w, s, cur, h => by
    show tok (c :: (w ++ s)) cur = _
    rw [tok, if_pos (h c (by simp)), tok_word w s _ fun d hd => h d (by simp [hd])]
    simp
theorem tok_stop {c : Nat} {s cur : List Nat} (h : isW c = false) : tok (c :: s) cur = out cur ++ tok s [] := by
  rw [tok, if_neg (by rw [h]; exact Bool.false_ne_true)]
theorem out_nil : out [] = [] := rfl
theorem out_cons {w : List Nat} (h : w ≠ []) : out w = [w] := by unfold out; rw [if_neg h]
/-- the text of a number -/
def itx (i : Int) : List Nat := (PyData.int i).shown.cps.toList
theorem itx_w (i : Int) : ∀ c ∈ itx i, isW c = true := fun c hc => by
  refine Classical.byContradiction fun h => ?_
  have h : isW c = false := Bool.eq_false_iff.mpr h
  unfold isW at h
  rw [Bool.or_eq_false_iff] at h
  have h1 : c ≠ 45 := by simpa using h.1
  have h2 : ¬ (48 ≤ c ∧ c ≤ 57) := by
    have := h.2
    simp at this
    omega
  exact PyProof.Rows.shown_int_free' (k := c) ⟨h1, by omega⟩ i hc
theorem cps_app (x y : Str) : (x ++ y).cps.toList = x.cps.toList ++ y.cps.toList := by
  show (x.cps ++ y.cps).toList = _
  rw [Array.toList_append]
theorem tok_join {itexts : List Str} {toks : List (List (List Nat))} (h : itexts.length = toks.length) (hh : ∀ (i : Nat) (t : Str) (ts : List (List Nat)), itexts[i]? = some t → toks[i]? = some ts → ∀ s, isW (s.headD 0) = false → s ≠ [] → tok (t.cps.toList ++ s) [] = ts ++ tok s []) :
    ∀ s, isW (s.headD 0) = false → s ≠ [] → tok ((Str.join ", " itexts).cps.toList ++ s) [] = toks.flatten ++ tok s [] := by
  induction itexts generalizing toks with
  | nil =>
    intro s h1 h2
    cases toks with
    | nil => rfl
    | cons _ _ => simp at h
  | cons t rest ih =>
    intro s h1 h2
    cases toks with
    | nil => simp at h
    | cons ts toks =>
      have ht := hh 0 t ts rfl rfl
      have hr := ih (toks := toks) (by simpa using h) fun i t' ts' e1 e2 => hh (i + 1) t' ts' (by simpa using e1) (by simpa using e2)
      cases rest with
      | nil =>
        cases toks with
        | nil =>
          show tok (t.cps.toList ++ s) [] = _
          rw [ht s h1 h2]
          simp
        | cons _ _ => simp at h
      | cons t2 rest =>
        have e : (Str.join ", " (t :: t2 :: rest)) = t ++ ((", " : String) : Str) ++ Str.join ", " (t2 :: rest) := rfl
        rw [e, cps_app, cps_app, List.append_assoc, List.append_assoc]
        have ec : (((", " : String) : Str)).cps.toList = [44, 32] := by decide
        rw [ec, ht ([44, 32] ++ ((Str.join ", " (t2 :: rest)).cps.toList ++ s)) (by rfl) (by simp)]
        show ts ++ tok (44 :: 32 :: ((Str.join ", " (t2 :: rest)).cps.toList ++ s)) [] = _
        rw [tok_stop (by decide), out_nil, tok_stop (by decide), out_nil, hr s h1 h2]
        simp
theorem tok_tuple {itexts : List Str} {toks : List (List (List Nat))} (h : itexts.length = toks.length) (hh : ∀ (i : Nat) (t : Str) (ts : List (List Nat)), itexts[i]? = some t → toks[i]? = some ts → ∀ s, isW (s.headD 0) = false → s ≠ [] → tok (t.cps.toList ++ s) [] = ts ++ tok s []) (s : List Nat) :
    tok ((PySem.tupleText itexts).cps.toList ++ s) [] = toks.flatten ++ tok s [] := by
  unfold PySem.tupleText
  rw [cps_app, cps_app, List.append_assoc, List.append_assoc]
  have e1 : (("(" : Str)).cps.toList = [40] := by decide
  rw [e1]
  show tok (40 :: ((Str.join ", " itexts).cps.toList ++ _)) [] = _
  rw [tok_stop (by decide), out_nil, List.nil_append]
  split
  · have e2 : (((",)" : String) : Str)).cps.toList = [44, 41] := by decide
    rw [e2, tok_join h hh _ (by rfl) (by simp)]
    show toks.flatten ++ tok (44 :: 41 :: s) [] = _
    rw [tok_stop (by decide), out_nil, tok_stop (by decide), out_nil]
    rfl
  · have e2 : (((")" : String) : Str)).cps.toList = [41] := by decide
    rw [e2, tok_join h hh _ (by rfl) (by simp)]
    show toks.flatten ++ tok (41 :: s) [] = _
    rw [tok_stop (by decide), out_nil]
    rfl
theorem shownAll_map : ∀ xs : List PyData, PyData.shownAll xs = xs.map PyData.shown
  | [] => rfl
  | x :: xs => by rw [PyData.shownAll, shownAll_map xs]; rfl
theorem flat_one {α β : Type} (f : α → β) (l : List α) : (l.map fun x => [f x]).flatten = l.map f := by
  induction l with
  | nil => rfl
  | cons x l ih => simp [ih]
theorem itx_nat (n : Nat) : itx (n : Int) = TL.numL n := TL.tl_num n
theorem itx_neg (m : Nat) : itx (Int.negSucc m) = 45 :: TL.numL (m + 1) := by
  have h := itx_nat (m + 1)
  unfold itx at h ⊢
  rw [PyData.shown_int, signs_ofString] at h ⊢
  rw [← h]
  have e : (toString (Int.negSucc m) : String) = "-" ++ toString (((m + 1 : Nat) : Int)) := rfl
  rw [e, String.toList_append, List.map_append]
  rfl
theorem itx_ne {i : Int} : itx i ≠ [] := by
  cases i with
  | ofNat n =>
    have := itx_nat n
    intro z
    exact TL.numL_ne n (this.symm.trans z)
  | negSucc m =>
    rw [itx_neg]
    simp
theorem itx_inj {i j : Int} (h : itx i = itx j) : i = j := by
  cases i with
  | ofNat n =>
    cases j with
    | ofNat m =>
      have h : TL.numL n = TL.numL m := (itx_nat n).symm.trans (h.trans (itx_nat m))
      rw [TL.numL_inj h]
    | negSucc m =>
      have h : TL.numL n = 45 :: TL.numL (m + 1) := (itx_nat n).symm.trans (h.trans (itx_neg m))
      exact absurd (show 45 ∈ TL.numL n by rw [h]; simp) (TL.numL_free (by omega))
  | negSucc n =>
    cases j with
    | ofNat m =>
      have h : 45 :: TL.numL (n + 1) = TL.numL m := (itx_neg n).symm.trans (h.trans (itx_nat m))
      exact absurd (show 45 ∈ TL.numL m by rw [← h]; simp) (TL.numL_free (by omega))
    | negSucc m =>
      have h : 45 :: TL.numL (n + 1) = 45 :: TL.numL (m + 1) := (itx_neg n).symm.trans (h.trans (itx_neg m))
      have := TL.numL_inj (List.cons.inj h).2
      have : n = m := by omega
      rw [this]
theorem tok_row (r : List Int) (s : List Nat) : tok ((rD r).shown.cps.toList ++ s) [] = r.map itx ++ tok s [] := by
  have e : (rD r).shown = PySem.tupleText (r.map fun i => (PyData.int i).shown) := by
    unfold rD
    rw [PyData.shown, shownAll_map, List.map_map]
    rfl
  rw [e, tok_tuple (toks := r.map fun i => [itx i]) (by simp), flat_one]
  intro i t ts e1 e2 s hs hne
  rw [List.getElem?_map] at e1 e2
  cases er : r[i]? with
  | none => rw [er] at e1; cases e1
  | some x =>
    rw [er] at e1 e2
    cases e1
    cases e2
    show tok (itx x ++ s) [] = [itx x] ++ tok s []
    rw [tok_word _ _ _ (itx_w x), List.nil_append]
    cases s with
    | nil => exact absurd rfl hne
    | cons c s =>
      have hc : isW c = false := hs
      rw [tok_stop hc, tok_stop hc, out_cons itx_ne, out_nil]
      rfl
theorem tok_tab (T : Tab) (s : List Nat) : tok ((tD T).shown.cps.toList ++ s) [] = (T.map fun r => r.map itx).flatten ++ tok s [] := by
  have e : (tD T).shown = PySem.tupleText (T.map fun r => (rD r).shown) := by
    unfold tD
    rw [PyData.shown, shownAll_map, List.map_map]
    rfl
  rw [e, tok_tuple (toks := T.map fun r => r.map itx) (by simp)]
  intro i t ts e1 e2 s hs hne
  rw [List.getElem?_map] at e1 e2
  cases er : T[i]? with
  | none => rw [er] at e1; cases e1
  | some r =>
    rw [er] at e1 e2
    cases e1
    cases e2
    exact tok_row r s
theorem flat_inj {n : Nat} : ∀ {S T : Tab}, Rows n S → Rows n T → S.length = T.length → (S.map fun r => r.map itx).flatten = (T.map fun r => r.map itx).flatten → S = T
  | [], [], _, _, _, _ => rfl
  | a :: S, b :: T, h1, h2, hl, h => by
    rw [List.map_cons, List.map_cons, List.flatten_cons, List.flatten_cons] at h
    have la : (a.map itx).length = (b.map itx).length := by rw [List.length_map, List.length_map, h1 a (by simp), h2 b (by simp)]
    obtain ⟨e1, e2⟩ := List.append_inj h la
    have e3 : a = b := List.map_inj_right (fun x y e => itx_inj e) |>.mp e1
    rw [e3, flat_inj (S := S) (T := T) (fun r hr => h1 r (by simp [hr])) (fun r hr => h2 r (by simp [hr])) (by simpa using hl) e2]
  | [], _ :: _, _, _, hl, _ => by simp at hl
  | _ :: _, [], _, _, hl, _ => by simp at hl
/-- the text tells the table -/
theorem shown_inj {n : Nat} {S T : Tab} (h1 : Sq n S) (h2 : Sq n T) (h : (tD S).shown = (tD T).shown) : S = T := by
  have a := tok_tab S []
  have b := tok_tab T []
  rw [h, b] at a
  simp only [tok, out_nil, List.append_nil] at a
  exact (flat_inj h1.rows h2.rows (by rw [h1.len, h2.len]) a.symm)
/-! ### what repr asks -/
theorem show_ok {k : Nat} {T : Tab} (h : Lt2 k T) (hk : k ≤ 1000) : (tD T).showable = true := by
  have k1 : ∀ r : List Int, (∀ x ∈ r, x.natAbs < 2 ^ k) → PyData.showableAll (r.map PyData.int) = true := by
    intro r
    induction r with
    | nil => intro _; rfl
    | cons x r ih =>
      intro hr
      have h1 := nat_lt2 (hr x (by simp)) hk
      simp only [List.map_cons, PyData.showableAll, PyData.showable, Bool.and_eq_true, decide_eq_true_eq]
      exact ⟨by omega, ih fun y hy => hr y (by simp [hy])⟩
  have k2 : ∀ T : List (List Int), (∀ r ∈ T, ∀ x ∈ r, x.natAbs < 2 ^ k) → PyData.showableAll (T.map rD) = true := by
    intro T
    induction T with
    | nil => intro _; rfl
    | cons r T ih =>
      intro hT
      simp only [List.map_cons, PyData.showableAll, rD, PyData.showable, Bool.and_eq_true]
      exact ⟨k1 r (hT r (by simp)), ih fun y hy => hT y (by simp [hy])⟩
  unfold tD
  simp only [PyData.showable]
  exact k2 T h
theorem nodict_tab (T : Tab) : (tD T).hasDict = false := by
  have k1 : ∀ r : List Int, PyData.hasDictAll (r.map PyData.int) = false := by
    intro r
    induction r with
    | nil => rfl
    | cons x r ih => simp [PyData.hasDictAll, PyData.hasDict, ih]
  have k2 : ∀ T : List (List Int), PyData.hasDictAll (T.map rD) = false := by
    intro T
    induction T with
    | nil => rfl
    | cons r T ih => simp [PyData.hasDictAll, rD, PyData.hasDict, ih, k1]
  unfold tD
  simp [PyData.hasDict, k2]
theorem shown_len {n k : Nat} {T : Tab} (sq : Sq n T) (h4 : n ≤ 4) (h : Lt2 k T) (hk : k ≤ 400) : (tD T).shown.length ≤ sizeLine := by
  have w0 : ∀ x : Int, x.natAbs < 2 ^ k → (PyData.int x).weight ≤ 401 ∧ (PyData.int x).shown.length ≤ 402 := by
    intro x hx
    constructor
    · simp only [PyData.weight]
      split
      · omega
      · have h0 : x.natAbs ≠ 0 := by
          rename_i hne
          intro z
          exact hne (by simp [Int.natAbs_eq_zero.mp z])
        have := (Nat.log2_lt h0).mpr hx
        omega
    · have hl : x.natAbs.log2 < 401 := by
        by_cases h0 : x.natAbs = 0
        · rw [h0]; decide
        · have := (Nat.log2_lt h0).mpr hx
          omega
      have e := int_text_length_le (a := x) (k := 401) (by decide) hl
      show (Str.ofString (toString x)).length ≤ 402
      rw [PySem.ofString_length]
      exact e
  have k1 : ∀ r : List Int, (∀ x ∈ r, x.natAbs < 2 ^ k) → PyData.weightAll (r.map PyData.int) ≤ 402 * r.length ∧ PyData.leavesShortAll 402 (r.map PyData.int) = true := by
    intro r
    induction r with
    | nil => intro _; exact ⟨by simp [PyData.weightAll], rfl⟩
    | cons x r ih =>
      intro hr
      obtain ⟨a1, a2⟩ := ih fun y hy => hr y (by simp [hy])
      obtain ⟨b1, b2⟩ := w0 x (hr x (by simp))
      simp only [List.map_cons, PyData.weightAll, PyData.leavesShortAll, PyData.leavesShort, List.length_cons, Bool.and_eq_true, decide_eq_true_eq]
      exact ⟨by omega, b2, a2⟩
  have k2 : ∀ T : List (List Int), (∀ r ∈ T, r.length ≤ 4) → (∀ r ∈ T, ∀ x ∈ r, x.natAbs < 2 ^ k) → PyData.weightAll (T.map rD) ≤ 1609 * T.length ∧ PyData.leavesShortAll 402 (T.map rD) = true := by
    intro T
    induction T with
    | nil => intro _ _; exact ⟨by simp [PyData.weightAll], rfl⟩
    | cons r T ih =>
      intro hl hT
      obtain ⟨a1, a2⟩ := ih (fun y hy => hl y (by simp [hy])) fun y hy => hT y (by simp [hy])
      obtain ⟨b1, b2⟩ := k1 r (hT r (by simp))
      have := hl r (by simp)
      simp only [List.map_cons, PyData.weightAll, PyData.leavesShortAll, rD, PyData.weight, PyData.leavesShort, List.length_cons, Bool.and_eq_true]
      exact ⟨by omega, b2, a2⟩
  obtain ⟨a1, a2⟩ := k2 T (fun r hr => by rw [sq.rows r hr]; exact h4) h
  have hw : (tD T).weight ≤ 6436 := by
    unfold tD
    simp only [PyData.weight]
    have := sq.len
    omega
  have hs : (tD T).leavesShort 402 = true := by
    unfold tD
    simp only [PyData.leavesShort]
    exact a2
  have hb := PyData.shown_le 402 (by decide) (tD T) hs
  have : (402 + 2) * (tD T).weight ≤ 404 * 6436 := Nat.mul_le_mul (by decide) hw
  exact Nat.le_trans hb (Nat.le_trans (show (402 + 2) * (tD T).weight + 402 ≤ 10000000 by omega) (by decide))
end N41
/-! M9: tables that are not far are few; the orders. -/
namespace N41
def Valid (a b : Int) : Prop := (a = 0 ↔ b = 0) ∧ ¬ (0 < a ∧ 0 < b) ∧ ¬ (a < 0 ∧ b < 0) ∧ ¬ a * b < -3
theorem valid_cases {a b : Int} (h : Valid a b) : (a = 0 ∧ b = 0) ∨ (a = 1 ∧ b = -1) ∨ (a = -1 ∧ b = 1) ∨ (a = 1 ∧ b = -2) ∨ (a = -1 ∧ b = 2) ∨ (a = 2 ∧ b = -1) ∨ (a = -2 ∧ b = 1) ∨ (a = 1 ∧ b = -3) ∨ (a = -1 ∧ b = 3) ∨ (a = 3 ∧ b = -1) ∨ (a = -3 ∧ b = 1) := by
  obtain ⟨h1, h2, h3, h4⟩ := h
  by_cases ha : a = 0
  · exact .inl ⟨ha, h1.mp ha⟩
  · have hb : b ≠ 0 := fun z => ha (h1.mpr z)
    have hpos : (0 < a ∧ b < 0) ∨ (a < 0 ∧ 0 < b) := by omega
    have lim : (-3 ≤ a ∧ a ≤ 3) ∧ (-3 ≤ b ∧ b ≤ 3) := by
      rcases hpos with ⟨p, m⟩ | ⟨m, p⟩
      · have e1 : a * b ≤ a * (-1) := Int.mul_le_mul_of_nonneg_left (by omega) (by omega)
        have e2 : a * b ≤ 1 * b := Int.mul_le_mul_of_nonpos_right (by omega) (by omega)
        omega
      · have e1 : a * b ≤ (-1) * b := Int.mul_le_mul_of_nonneg_right (by omega) (by omega)
        have e2 : a * b ≤ a * 1 := Int.mul_le_mul_of_nonpos_left (by omega) (by omega)
        omega
    have ca : a = -3 ∨ a = -2 ∨ a = -1 ∨ a = 1 ∨ a = 2 ∨ a = 3 := by omega
    rcases ca with rfl | rfl | rfl | rfl | rfl | rfl <;> omega
def dg (a b : Int) : Nat := if a = 0 then 0 else if a = 1 ∧ b = -1 then 1 else if a = -1 ∧ b = 1 then 2 else if a = 1 ∧ b = -2 then 3 else if a = -1 ∧ b = 2 then 4 else if a = 2 then 5 else if a = -2 then 6 else if a = 1 then 7 else if a = -1 then 8 else if a = 3 then 9 else 10
theorem dg_lt (a b : Int) : dg a b < 11 := by
  unfold dg
  repeat' split
  all_goals omega
theorem dg_inj {a b c d : Int} (h1 : Valid a b) (h2 : Valid c d) (h : dg a b = dg c d) : a = c ∧ b = d := by
  rcases valid_cases h1 with ⟨rfl, rfl⟩ | ⟨rfl, rfl⟩ | ⟨rfl, rfl⟩ | ⟨rfl, rfl⟩ | ⟨rfl, rfl⟩ | ⟨rfl, rfl⟩ | ⟨rfl, rfl⟩ | ⟨rfl, rfl⟩ | ⟨rfl, rfl⟩ | ⟨rfl, rfl⟩ | ⟨rfl, rfl⟩ <;>
    rcases valid_cases h2 with ⟨rfl, rfl⟩ | ⟨rfl, rfl⟩ | ⟨rfl, rfl⟩ | ⟨rfl, rfl⟩ | ⟨rfl, rfl⟩ | ⟨rfl, rfl⟩ | ⟨rfl, rfl⟩ | ⟨rfl, rfl⟩ | ⟨rfl, rfl⟩ | ⟨rfl, rfl⟩ | ⟨rfl, rfl⟩ <;>
    first
      | exact ⟨rfl, rfl⟩
      | (exact absurd h (by decide))
def dgT (T : Tab) (i j : Nat) : Nat := dg (cell T i j) (cell T j i)
def code (T : Tab) : Nat := dgT T 1 0 + 11 * (dgT T 2 0 + 11 * (dgT T 2 1 + 11 * (dgT T 3 0 + 11 * (dgT T 3 1 + 11 * dgT T 3 2))))
theorem code_lt (T : Tab) : code T < 1771561 := by
  unfold code dgT
  have h1 := dg_lt (cell T 1 0) (cell T 0 1)
  have h2 := dg_lt (cell T 2 0) (cell T 0 2)
  have h3 := dg_lt (cell T 2 1) (cell T 1 2)
  have h4 := dg_lt (cell T 3 0) (cell T 0 3)
  have h5 := dg_lt (cell T 3 1) (cell T 1 3)
  have h6 := dg_lt (cell T 3 2) (cell T 2 3)
  omega
theorem tab_ext {n : Nat} {S T : Tab} (h1 : Sq n S) (h2 : Sq n T) (h : ∀ i j, i < n → j < n → cell S i j = cell T i j) : S = T := by
  apply List.ext_getElem?
  intro i
  by_cases hi : i < n
  · obtain ⟨r, e1, l1⟩ := h1.get hi
    obtain ⟨s, e2, l2⟩ := h2.get hi
    rw [e1, e2]
    congr 1
    apply List.ext_getElem?
    intro j
    by_cases hj : j < n
    · obtain ⟨x, ex⟩ := get_of (l := r) (i := j) (by omega)
      obtain ⟨y, ey⟩ := get_of (l := s) (i := j) (by omega)
      have := h i j hi hj
      rw [cell_get e1 ex, cell_get e2 ey] at this
      rw [ex, ey, this]
    · rw [List.getElem?_eq_none (by omega), List.getElem?_eq_none (by omega)]
  · rw [List.getElem?_eq_none (by rw [h1.len]; omega), List.getElem?_eq_none (by rw [h2.len]; omega)]
/-- every pair is one of eleven -/
def NotFar (T : Tab) : Prop := ∀ i j, Valid (cell T i j) (cell T j i)
theorem notFar_of {n : Nat} {T : Tab} (h : Sq n T) (sk : Skw n T) (hf : isFar n T = false) : NotFar T := fun i j => by
  by_cases hij : i < n ∧ j < n
  · have sg := skw_sign sk hij.1 hij.2
    refine ⟨sg.1, sg.2.1, sg.2.2, fun hlt => ?_⟩
    have key : ∀ i j, i < n → j < i → ¬ cell T i j * cell T j i < -3 := fun i j hi hj hlt => by
      have : isFar n T = true := List.any_eq_true.mpr ⟨i, List.mem_range.mpr hi, List.any_eq_true.mpr ⟨j, List.mem_range.mpr hj, decide_eq_true hlt⟩⟩
      rw [hf] at this
      cases this
    rcases Nat.lt_trichotomy i j with h1 | h1 | h1
    · exact key j i hij.2 h1 (by rw [Int.mul_comm]; exact hlt)
    · subst h1
      have z : cell T i i = 0 := by
        have := sg.1
        omega
      rw [z] at hlt
      omega
    · exact key i j hij.1 h1 hlt
  · rw [cell_out h hij, cell_out h (i := j) (j := i) (by omega)]
    exact ⟨Iff.rfl, by omega, by omega, by omega⟩
theorem code_inj {n : Nat} {S T : Tab} (h4 : n ≤ 4) (h1 : Sq n S) (h2 : Sq n T) (f1 : NotFar S) (f2 : NotFar T) (h : code S = code T) : S = T := by
  have a1 := dg_lt (cell S 1 0) (cell S 0 1)
  have a2 := dg_lt (cell S 2 0) (cell S 0 2)
  have a3 := dg_lt (cell S 2 1) (cell S 1 2)
  have a4 := dg_lt (cell S 3 0) (cell S 0 3)
  have a5 := dg_lt (cell S 3 1) (cell S 1 3)
  have a6 := dg_lt (cell S 3 2) (cell S 2 3)
  have b1 := dg_lt (cell T 1 0) (cell T 0 1)
  have b2 := dg_lt (cell T 2 0) (cell T 0 2)
  have b3 := dg_lt (cell T 2 1) (cell T 1 2)
  have b4 := dg_lt (cell T 3 0) (cell T 0 3)
  have b5 := dg_lt (cell T 3 1) (cell T 1 3)
  have b6 := dg_lt (cell T 3 2) (cell T 2 3)
  unfold code dgT at h
  have e1 := dg_inj (f1 1 0) (f2 1 0) (by omega)
  have e2 := dg_inj (f1 2 0) (f2 2 0) (by omega)
  have e3 := dg_inj (f1 2 1) (f2 2 1) (by omega)
  have e4 := dg_inj (f1 3 0) (f2 3 0) (by omega)
  have e5 := dg_inj (f1 3 1) (f2 3 1) (by omega)
  have e6 := dg_inj (f1 3 2) (f2 3 2) (by omega)
  have dz : ∀ {U : Tab}, NotFar U → ∀ i, cell U i i = 0 := fun hU i => by
    have h1 := hU i i
    rcases valid_cases h1 with z | z | z | z | z | z | z | z | z | z | z <;> omega
  refine tab_ext h1 h2 fun i j hi hj => ?_
  have ci : i = 0 ∨ i = 1 ∨ i = 2 ∨ i = 3 := by omega
  have cj : j = 0 ∨ j = 1 ∨ j = 2 ∨ j = 3 := by omega
  rcases ci with rfl | rfl | rfl | rfl <;> rcases cj with rfl | rfl | rfl | rfl <;>
    first
      | (rw [dz f1, dz f2])
      | exact e1.1
      | exact e1.2
      | exact e2.1
      | exact e2.2
      | exact e3.1
      | exact e3.2
      | exact e4.1
      | exact e4.2
      | exact e5.1
      | exact e5.2
      | exact e6.1
      | exact e6.2
/-- tables that are not far, no two alike: so many at most -/
theorem few {n : Nat} (h4 : n ≤ 4) {L : List Tab} (nd : L.Nodup) (h : ∀ T ∈ L, Sq n T ∧ NotFar T) : L.length ≤ 1771561 := by
  have h1 : (L.map code).Nodup := by
    induction L with
    | nil => simp
    | cons T L ih =>
      obtain ⟨n1, n2⟩ := List.nodup_cons.mp nd
      rw [List.map_cons, List.nodup_cons]
      refine ⟨fun z => ?_, ih n2 fun S hS => h S (by simp [hS])⟩
      obtain ⟨S, hS, e⟩ := List.mem_map.mp z
      have a := h S (by simp [hS])
      have b := h T (by simp)
      have := code_inj h4 a.1 b.1 a.2 b.2 e
      exact n1 (this ▸ hS)
  have := pigeon 1771561 (L.map code) h1 fun c hc => by
    obtain ⟨T, _, rfl⟩ := List.mem_map.mp hc
    exact code_lt T
  rwa [List.length_map] at this
/-- what is reached from a table that is not far has entries to 12 -/
theorem le3_of {n : Nat} {T : Tab} (h : Sq n T) (f : NotFar T) : LeE 3 T := fun r hr x hx => by
  obtain ⟨i, ei⟩ := List.mem_iff_getElem?.mp hr
  obtain ⟨j, ej⟩ := List.mem_iff_getElem?.mp hx
  have := valid_cases (f i j)
  rw [cell_get ei ej] at this
  omega
theorem sw_le12 {p : Nat} {T : Tab} (h : LeE 3 T) : LeE 12 (sw T p) := fun r hr x hx => by
  obtain ⟨⟨line, i⟩, hl, rfl⟩ := List.mem_map.mp hr
  obtain ⟨⟨en, j⟩, he, rfl⟩ := List.mem_map.mp hx
  have hline : line ∈ T := List.fst_mem_of_mem_zipIdx hl
  have hen : en ∈ line := List.fst_mem_of_mem_zipIdx he
  have b1 := h line hline en hen
  show (swE T p i line (en, j)).natAbs ≤ 12
  unfold swE
  split
  · rw [Int.natAbs_neg]
    show en.natAbs ≤ 12
    omega
  · have b2 : (line.getD p 0).natAbs ≤ 3 := by
      by_cases hp : p < line.length
      · exact h line hline _ (List.mem_of_getElem? (getD_pt hp))
      · rw [List.getD_eq_getElem?_getD, List.getElem?_eq_none (by omega)]
        simp
    have b3 : (cell T p j).natAbs ≤ 3 := by
      by_cases hp : p < T.length
      · obtain ⟨r, e⟩ := get_of hp
        unfold cell
        rw [getD_of e]
        by_cases hj : j < r.length
        · exact h r (List.mem_of_getElem? e) _ (List.mem_of_getElem? (getD_pt hj))
        · rw [List.getD_eq_getElem?_getD, List.getElem?_eq_none (by omega)]
          simp
      · have e : T.getD p [] = [] := by rw [List.getD_eq_getElem?_getD, List.getElem?_eq_none (by omega)]; rfl
        unfold cell
        rw [e]
        simp
    have hm : (line.getD p 0).natAbs * (cell T p j).natAbs ≤ 9 := Nat.mul_le_mul b2 b3
    rcases abs_sum (a := line.getD p 0) (b := cell T p j) with z | z | z <;>
    · show (mu (line.getD p 0) en (cell T p j)).natAbs ≤ 12
      unfold mu
      rw [z]
      omega
/-! ### the orders -/
def ordStep (n : Nat) (L : List (List Nat)) : List (List Nat) := L.flatMap fun o => ((List.range n).filter fun p => !decide (p ∈ o)).map fun p => o ++ [p]
def ordIt (n : Nat) : Nat → List (List Nat)
  | 0 => [[]]
  | k + 1 => ordStep n (ordIt n k)
theorem ord_end : ∀ n, 1 ≤ n → n ≤ 4 → ordIt n n = Prm.perms n := by
  intro n h1 h4
  have : n = 1 ∨ n = 2 ∨ n = 3 ∨ n = 4 := by omega
  rcases this with rfl | rfl | rfl | rfl <;> decide +kernel
theorem ord_bnd : ∀ n, n ≤ 4 → ∀ k, k ≤ n → (ordIt n k).length ≤ 100 ∧ ∀ o ∈ ordIt n k, o.length ≤ 4 ∧ ∀ i ∈ o, i < n := by decide +kernel
end N41
/-! M10: a table written entry by entry stays skew. -/
namespace N41
def SkW (n : Nat) (w : Nat → Nat) (M : Tab) : Prop := ∀ i j, i < n → j < n → ((w i : Nat) : Int) * cell M i j = -((w j : Nat) : Int) * cell M j i
def rowM (M : Tab) (i : Nat) : List Int := M.getD i []
theorem rowM_get {n : Nat} {M : Tab} (h : Sq n M) {i : Nat} (hi : i < n) : M[i]? = some (rowM M i) ∧ (rowM M i).length = n := by
  obtain ⟨r, e, l⟩ := h.get hi
  unfold rowM
  rw [getD_of e]
  exact ⟨e, l⟩
theorem sq_set {n : Nat} {M : Tab} (h : Sq n M) {i : Nat} {row : List Int} (hr : row.length = n) : Sq n (M.set i row) := ⟨by rw [List.length_set, h.len], fun r hr2 => by
  rcases List.mem_or_eq_of_mem_set hr2 with z | z
  · exact h.rows r z
  · rw [z]; exact hr⟩
theorem cell_set {n : Nat} {M : Tab} (h : Sq n M) {i j : Nat} (hi : i < n) (hj : j < n) (x : Int) (a b : Nat) : cell (M.set i ((rowM M i).set j x)) a b = if a = i ∧ b = j then x else cell M a b := by
  obtain ⟨e, l⟩ := rowM_get h hi
  unfold cell
  by_cases ha : a = i
  · subst ha
    have e1 : (M.set a ((rowM M a).set j x)).getD a [] = (rowM M a).set j x := by
      rw [List.getD_eq_getElem?_getD, List.getElem?_set, if_pos rfl, if_pos (by rw [h.len]; exact hi)]
      rfl
    rw [e1, List.getD_eq_getElem?_getD, List.getElem?_set]
    by_cases hb : b = j
    · subst hb
      rw [if_pos rfl, if_pos (by omega), if_pos ⟨rfl, rfl⟩]
      rfl
    · rw [if_neg (fun z => hb z.symm), if_neg (fun z => hb z.2)]
      unfold rowM
      rw [← List.getD_eq_getElem?_getD]
  · have e1 : (M.set i ((rowM M i).set j x)).getD a [] = M.getD a [] := by
      rw [List.getD_eq_getElem?_getD, List.getElem?_set, if_neg (fun z => ha z.symm), ← List.getD_eq_getElem?_getD]
    rw [e1, if_neg (fun z => ha z.1)]
def put2 (M : Tab) (i j : Nat) (x y : Int) : Tab := (M.set i ((rowM M i).set j x)).set j ((rowM (M.set i ((rowM M i).set j x)) j).set i y)
theorem put2_sq {n : Nat} {M : Tab} (h : Sq n M) {i j : Nat} (hi : i < n) (hj : j < n) (x y : Int) : Sq n (put2 M i j x y) := by
  have h1 : Sq n (M.set i ((rowM M i).set j x)) := sq_set h (by rw [List.length_set]; exact (rowM_get h hi).2)
  exact sq_set h1 (by rw [List.length_set]; exact (rowM_get h1 hj).2)
theorem put2_cell {n : Nat} {M : Tab} (h : Sq n M) {i j : Nat} (hi : i < n) (hj : j < n) (x y : Int) (a b : Nat) : cell (put2 M i j x y) a b = if a = j ∧ b = i then y else if a = i ∧ b = j then x else cell M a b := by
  have h1 : Sq n (M.set i ((rowM M i).set j x)) := sq_set h (by rw [List.length_set]; exact (rowM_get h hi).2)
  unfold put2
  rw [cell_set h1 hj hi, cell_set h hi hj]
theorem put2_sk {n : Nat} {w : Nat → Nat} {M : Tab} (h : Sq n M) {i j : Nat} (hi : i < n) (hj : j < n) (hne : i ≠ j) {x y : Int} (hxy : ((w i : Nat) : Int) * x = -((w j : Nat) : Int) * y) (sk : SkW n w M) : SkW n w (put2 M i j x y) := fun a b ha hb => by
  rw [put2_cell h hi hj, put2_cell h hi hj]
  by_cases h1 : a = j ∧ b = i
  · obtain ⟨rfl, rfl⟩ := h1
    rw [if_pos ⟨rfl, rfl⟩, if_neg (fun z => hne z.1), if_pos ⟨rfl, rfl⟩]
    rw [Int.neg_mul] at hxy ⊢
    omega
  · rw [if_neg h1]
    by_cases h2 : a = i ∧ b = j
    · obtain ⟨rfl, rfl⟩ := h2
      rw [if_pos ⟨rfl, rfl⟩, if_pos ⟨rfl, rfl⟩]
      exact hxy
    · rw [if_neg h2, if_neg (fun z => h2 ⟨z.2, z.1⟩), if_neg (fun z => h1 ⟨z.2, z.1⟩)]
      exact sk a b ha hb
def LeC (m n : Nat) (M : Tab) : Prop := ∀ i j, i < n → j < n → (cell M i j).natAbs ≤ m
theorem leE_of {m n : Nat} {M : Tab} (h : Sq n M) (hc : LeC m n M) : LeE m M := fun r hr x hx => by
  obtain ⟨i, ei⟩ := List.mem_iff_getElem?.mp hr
  obtain ⟨j, ej⟩ := List.mem_iff_getElem?.mp hx
  have hi : i < n := by
    have := (List.getElem?_eq_some_iff.mp ei).1
    rwa [h.len] at this
  have hj : j < n := by
    have := (List.getElem?_eq_some_iff.mp ej).1
    rwa [h.rows.get ei] at this
  have := hc i j hi hj
  rwa [cell_get ei ej] at this
theorem leC_of {m n : Nat} {M : Tab} (h : LeE m M) : LeC m n M := fun i j hi hj => by
  by_cases h1 : i < M.length
  · obtain ⟨r, e⟩ := get_of h1
    unfold cell
    rw [getD_of e]
    by_cases h2 : j < r.length
    · exact h r (List.mem_of_getElem? e) _ (List.mem_of_getElem? (getD_pt h2))
    · rw [List.getD_eq_getElem?_getD, List.getElem?_eq_none (by omega)]
      simp
  · have e : M.getD i [] = [] := by rw [List.getD_eq_getElem?_getD, List.getElem?_eq_none (by omega)]; rfl
    unfold cell
    rw [e]
    simp
theorem put2_le {m n : Nat} {M : Tab} (h : Sq n M) {i j : Nat} (hi : i < n) (hj : j < n) {x y : Int} (hx : x.natAbs ≤ m) (hy : y.natAbs ≤ m) (hc : LeC m n M) : LeC m n (put2 M i j x y) := fun a b ha hb => by
  rw [put2_cell h hi hj]
  split
  · exact hy
  · split
    · exact hx
    · exact hc a b ha hb
def zeros (n : Nat) : Tab := List.replicate n (List.replicate n 0)
theorem zeros_sq (n : Nat) : Sq n (zeros n) := ⟨List.length_replicate, fun r hr => by rw [List.eq_of_mem_replicate hr, List.length_replicate]⟩
theorem zeros_cell (n i j : Nat) : cell (zeros n) i j = 0 := by
  unfold cell zeros
  rw [List.getD_eq_getElem?_getD (l := List.replicate n (List.replicate n 0)), List.getElem?_replicate]
  split
  · show (List.replicate n (0 : Int)).getD j 0 = 0
    rw [List.getD_eq_getElem?_getD, List.getElem?_replicate]
    split <;> rfl
  · rfl
theorem zeros_sk (n : Nat) (w : Nat → Nat) : SkW n w (zeros n) := fun i j _ _ => by rw [zeros_cell, zeros_cell]; simp
theorem zeros_le (n m : Nat) : LeC m n (zeros n) := fun i j _ _ => by rw [zeros_cell]; simp
theorem SkW.skw {n : Nat} {w : Nat → Nat} {M : Tab} (h : SkW n w M) (hw : ∀ i, i < n → 0 < w i) : Skw n M := ⟨w, hw, h⟩
end N41
/-! W2: the swap, both ways. -/
namespace N41
open PySem PySem.Spec PyProof.Rows L2
abbrev intD (i : Nat) : PyData := .int (i : Int)
theorem rowD_get {T : Tab} {i : Nat} {r : List Int} (h : T[i]? = some r) : (T.map rD)[i]? = some (rD r) := by rw [List.getElem?_map, h]; rfl
theorem intD_get {r : List Int} {i : Nat} {x : Int} (h : r[i]? = some x) : (r.map PyData.int)[i]? = some (.int x) := by rw [List.getElem?_map, h]; rfl
theorem slack {n : Nat} (h : n ≤ 1000) : n ≤ sizeLine := Nat.le_trans h (by decide)
structure ASw where
  B : Tab
  p : Nat
  n : Nat
  k : Nat
abbrev sp__law_swap : Sp := SpF (fun a : ASw => [tD a.B, intD a.p]) (fun a => Bd a.n a.B ∧ a.p < a.n ∧ Lt2 a.k a.B ∧ a.k ≤ 400) (fun a => tD (sw a.B a.p))
theorem cal__law_swap {P : Program} {w : World} {K : PySem.W.Frag} {mg : Str → Option Value} {base : Heap} (B : Blt mg) (D : FD K mg "_law_swap" st__law_swap) :
    CalG P w K mg base 1 "_law_swap" sp__law_swap := by
  obtain ⟨f, fd, F, hdf⟩ := D.ex
  refine calG0 (N := N__law_swap) F (F.fn.binds hdf fun _ _ _ _ _ _ us hl => match us, hl with | [_, _], _ => rfl) sc__law_swap (fun vs H Q E h => ?_) fun cdv A outer s H vs Q E hgu hr h => ⟨_, (pss_cons (ps_set (i := 2) nd__law_swap rfl (Or.inl rfl) (pe_lst pa_nil))
 (pss_cons (ps_for PassesOwn.never rfl (pi_enumTK (K := K) rfl (by rfl) B.enumerate (pa_cons (pv 0) pa_nil)) (pg_tupK (K := K) (n := 2) rfl rfl (pgs_cons (pg_name (i := 3) nd__law_swap rfl (Or.inl rfl)) (pgs_cons (pg_name (i := 4) nd__law_swap rfl (Or.inl rfl)) pgs_nil))) (pss_cons (ps_set (i := 5) nd__law_swap rfl (Or.inl rfl) (pe_lst pa_nil))
 (pss_cons (ps_for PassesOwn.never rfl (pi_enumTK (K := K) rfl (by rfl) B.enumerate (pa_cons (pv 4) pa_nil)) (pg_tupK (K := K) (n := 2) rfl rfl (pgs_cons (pg_name (i := 6) nd__law_swap rfl (Or.inl rfl)) (pgs_cons (pg_name (i := 7) nd__law_swap rfl (Or.inl rfl)) pgs_nil))) (pss_cons (ps_par (i := 8) (j := 9) rfl nd__law_swap rfl rfl (by decide) rfl rfl (pa_cons (pe_ix (r := rIxT K) ix_tup (pv 4) (pv 1) (fun _ _ => rfl)) (pa_cons (pe_ix (r := rIxT K) ix_tup (pe_ix (r := rIxT K) ix_tup (pv 0) (pv 1) (fun _ _ => rfl)) (pv 6) (fun _ _ => rfl)) pa_nil)) (by rfl))
 (pss_one (ps_expr (pe_bm PySem.F.plainAttrs_list PySem.F.slot_list_append PySem.F.type_list_append mt_append (pv 5) (pa_cons (pe_ifExp (pt_cmpR (r := rIn K false) op_in_seq (pv 1) (pe_tup (pa_cons (pv 3) (pa_cons (pv 6) pa_nil))) (by rfl)) (pe_un un_neg (pv 7)) (pe_op op_add (pv 7) (pe_op op_fdivW (pe_op op_add (pe_op op_mulW (pe_callB (r := rAbs) c_abs (by rfl) B.abs bt_abs (pa_cons (pv 8) pa_nil)) (pv 9)) (pe_op op_mulW (pv 8) (pe_callB (r := rAbs) c_abs (by rfl) B.abs bt_abs (pa_cons (pv 9) pa_nil)))) pe_int))) pa_nil))))))
 (pss_one (ps_expr (pe_bm PySem.F.plainAttrs_list PySem.F.slot_list_append PySem.F.type_list_append mt_append (pv 2) (pa_cons (pe_callTy (r := rTup K) c_tup (by rfl) B.tuple bt_tuple (pa_cons (pv 5) pa_nil)) pa_nil)))))))
 (pss_one (ps_ret (pe_callTy (r := rTup K) c_tup (by rfl) B.tuple bt_tuple (pa_cons (pv 2) pa_nil)))))), ?_⟩
  · exact h.ln fun _ => rfl
  · obtain ⟨⟨B, p, n, k⟩, G, gh, dv, pre, q⟩ := h
    obtain ⟨hb, hp, hl, hk⟩ : Bd n B ∧ p < n ∧ Lt2 k B ∧ k ≤ 400 := pre
    obtain ⟨vB, vp, rfl, dB, dp⟩ := (show Das G vs [tD B, intD p] from dv).inv2
    cases dp.inv_int
    have hpB : p < B.length := Nat.lt_of_lt_of_le hp hb.len
    obtain ⟨rp, erp⟩ := get_of hpB
    refine q_asgL (Cn.nil gh) (l_lst a_nil (Nat.zero_le _)) fun l xs G1 H1 s1 hl1 o1 d1 => ?_
    refine q_forAcc (ds := []) B.zipIdx (fun x => pairD x.2 (rD x.1)) (fun x => rD (swR B p x)) (fun σ => ∃ y1 y2 y3 y4 y5 y6 y7, σ = [some vB, some (.int (p : Int)), some (.ref l), y1, y2, y3, y4, y5, y6, y7]) (Cn.one s1.i o1) (i_enum B rD (e_var rfl (s1.da dB))) o1 d1 ⟨_, _, _, _, _, _, _, rfl⟩ ?_ ?_
    · rintro i ⟨line, at_⟩ G' H' σ' xs' x N e st ⟨y1, y2, y3, y4, y5, y6, y7, rfl⟩ ow hlen dx hN
      obtain ⟨e, rfl⟩ := zip_mem e
      have e : B[at_]? = some line := e
      have hll : line.length = n := hb.rows.get e
      refine g_pair st.i dx fun x y dx dy => ?_
      cases dx.inv_int
      have dB' : Da G' vB (tD B) := dB.mono (s1.g.trans st.g)
      refine q_asgL (Cn.one st.i ow) (l_lst a_nil (Nat.zero_le _)) fun l2 xs2 G2 H2 s2 hl2 o2 d2 => ?_
      refine q_forAcc (ds := []) line.zipIdx (fun x => pairD x.2 (.int x.1)) (fun x => .int (swE B p at_ line x)) (fun σ => ∃ y4 y5 y6 y7, σ = [some vB, some (.int (p : Int)), some (.ref l), some (.int (at_ : Int)), some y, some (.ref l2), y4, y5, y6, y7]) (Cn.one s2.i o2) (i_enum line PyData.int (e_var rfl (s2.da dy))) o2 d2 ⟨_, _, _, _, rfl⟩ ?_ ?_
      · rintro j ⟨en, to⟩ G3 H3 σ3 xs3 x3 N3 e3 st3 ⟨y4, y5, y6, y7, rfl⟩ ow3 hlen3 dx3 hN3
        obtain ⟨e3, rfl⟩ := zip_mem e3
        have e3 : line[to]? = some en := e3
        refine g_pair st3.i dx3 fun u v du dv => ?_
        cases du.inv_int
        cases dv.inv_int
        have dB3 : Da G3 vB (tD B) := dB'.mono (s2.g.trans st3.g)
        have dy3 : Da G3 y (rD line) := dy.mono (s2.g.trans st3.g)
        have hto : to < n := by
          have := (List.getElem?_eq_some_iff.mp e3).1
          omega
        have hpl : line[p]? = some (line.getD p 0) := getD_pt (by omega)
        have hrp : rp[to]? = some (cell B p to) := by
          have := getD_pt (l := rp) (j := to) (by rw [hb.rows.get erp]; exact hto)
          rw [this]
          unfold cell
          rw [getD_of erp]
        refine q_par (Cn.one st3.i ow3) (a_cons (e_ixT (e_var rfl dy3) (e_var rfl (.int _)) (intD_get hpl)) (a_cons (e_ixT (e_ixT (e_var rfl dB3) (e_var rfl (.int _)) (rowD_get erp)) (e_var rfl (.int _)) (intD_get hrp)) a_nil)) fun v1 v2 G4 H4 s4 dv1 dv2 => ?_
        cases dv1.inv_int
        cases dv2.inv_int
        have b1 : (line.getD p 0).natAbs < 2 ^ k := hl.get e hpl
        have b2 : (cell B p to).natAbs < 2 ^ k := hl.cell _ _
        refine s_app (Cn.one s4.i (s4.own ow3)) rfl (s4.own ow3) (d := .int (swE B p at_ line (en, to))) ?_ ?_ fun v G5 H5 s5 dv st5 ow5 => hN3 _ _ _ _ ⟨_, _, _, _, rfl⟩ (s4.of0.trans st5) ow5 dv
        · unfold swE
          refine EvD.eq (d := if decide (p = at_ ∨ p = to) = true then .int (-en) else .int (mu (line.getD p 0) en (cell B p to))) ?_ (by by_cases h : p = at_ ∨ p = to <;> simp [h])
          refine e_if (b := decide (p = at_ ∨ p = to)) ?_ (fun hh => ?_) (fun hh => ?_)
          · refine EvB.eq (b_test (e_inT (neg := false) (ns := [(at_ : Int), (to : Int)]) (e_var rfl (.int _)) (e_tup (a_cons (e_var rfl (.int _)) (a_cons (e_var rfl (.int _)) a_nil)) (slack (by simp))))) ?_
            simp [Int.ofNat_inj]
          · rw [hh]
            exact e_neg (e_var rfl (.int _))
          · rw [hh]
            exact e_I0 (f := fun i j => i + j) (e_var rfl (.int _)) (e_I (f := fun i j => i / j) (e_I0 (f := fun i j => i + j) (e_I (f := fun i j => i * j) (e_abs (e_var rfl (.int _))) (e_var rfl (.int _)) (mulW (k := k) (m := k) (by simpa using b1) b2 (by omega) (by omega))) (e_I (f := fun i j => i * j) (e_var rfl (.int _)) (e_abs (e_var rfl (.int _))) (mulW (k := k) (m := k) b1 (by simpa using b2) (by omega) (by omega)))) e_int ⟨by decide, by decide⟩)
        · rw [hlen3]
          have := (List.getElem?_eq_some_iff.mp e3).1
          have := hb.most
          exact Nat.lt_of_lt_of_le (show ([] : List PyData).length + to < 1000 by simp; omega) (by decide)
      · rintro σ3 G3 H3 xs3 ⟨y4, y5, y6, y7, rfl⟩ st3 ow3 dx3
        have ow' : Own G3 H3 l (.lst xs') := st3.ownM (by simp; exact ow.ne hl2) (s2.own ow)
        refine s_app (Cn.two st3.i ow' ow3) rfl ow' (d := rD (swR B p (line, at_))) ((e_tupleO (l := l2) (by simp) rfl dx3).eq ?_) ?_ fun v G5 H5 s5 dv st5 ow5 => hN _ _ _ _ ⟨_, _, _, _, _, _, _, rfl⟩ (Stp.comp s2.of0 st3 (by simp [hl2]) |>.trans st5) ow5 dv
        · show PyData.tuple ([] ++ _) = rD (swR B p (line, at_))
          unfold rD swR
          rw [List.nil_append, List.map_map]
          rfl
        · rw [hlen]
          have h1 := (List.getElem?_eq_some_iff.mp e).1
          have := hb.long
          exact Nat.lt_of_lt_of_le (show ([] : List PyData).length + at_ < 1000 by simp; omega) (by decide)
    · rintro σ' G' H' xs' ⟨y1, y2, y3, y4, y5, y6, y7, rfl⟩ st ow dx
      exact s_ret (Cn.one st.i ow) ((e_tupleO (l := l) (by simp) rfl dx).eq (d' := tD (sw B p)) (by
        show PyData.tuple ([] ++ _) = tD (sw B p)
        unfold tD sw
        rw [List.nil_append, List.map_map]
        rfl)) fun v G2 H2 s2 dv => q v G2 H2 ((Stp.comp s1.of0 st (by simp [hl1])).trans s2) dv
end N41
/-! W3: the program's swap. -/
namespace N41
open PySem PySem.Spec PyProof.Rows L2
abbrev sp_swap : Sp := SpF (fun a : ASw => [tD a.B, intD a.p]) (fun a => Bd a.n a.B ∧ a.p < a.n ∧ Lt2 a.k a.B ∧ a.k ≤ 400) (fun a => tD (sw a.B a.p))
theorem cal_swap {P : Program} {w : World} {K : PySem.W.Frag} {mg : Str → Option Value} {base : Heap} (B : Blt mg) (D : FD K mg "swap" st_swap) :
    CalG P w K mg base 1 "swap" sp_swap := by
  obtain ⟨f, fd, F, hdf⟩ := D.ex
  refine calG0 (N := N_swap) F (F.fn.binds hdf fun _ _ _ _ _ _ us hl => match us, hl with | [_, _], _ => rfl) sc_swap (fun vs H Q E h => ?_) fun cdv A outer s H vs Q E hgu hr h => ⟨_, (pss_cons (ps_par (i := 2) (j := 3) rfl nd_swap rfl rfl (by decide) rfl rfl (pa_cons (pe_ix (r := rIxT K) ix_tup (pv 0) (pv 1) (fun _ _ => rfl)) (pa_cons (pe_lst pa_nil) pa_nil)) (by rfl))
 (pss_cons (ps_for PassesOwn.never rfl (pi_enumTK (K := K) rfl (by rfl) B.enumerate (pa_cons (pv 0) pa_nil)) (pg_tupK (K := K) (n := 2) rfl rfl (pgs_cons (pg_name (i := 4) nd_swap rfl (Or.inl rfl)) (pgs_cons (pg_name (i := 5) nd_swap rfl (Or.inl rfl)) pgs_nil))) (pss_one (ps_if (pt_cmpR op_eq (pv 4) (pv 1) (nomark _)) (pss_one (ps_expr (pe_bm PySem.F.plainAttrs_list PySem.F.slot_list_append PySem.F.type_list_append mt_append (pv 3) (pa_cons (pe_callTy (r := rTup K) c_tup (by rfl) B.tuple bt_tuple (pa_cons (pe_lc (own := [("entry", 6)]) rfl nd_swap (pi_tupK (K := K) rfl (pv 5)) (blkOk_by (by kernel_rfl)) (fun _ _ _ _ _ => (pg_name (i := 6) nd_swap rfl (Or.inl rfl))) (fun _ _ _ _ _ => pts_nil) (fun _ _ _ _ _ => (pe_un un_neg (pv 6)))) pa_nil)) pa_nil)))) (pss_cons (ps_set (i := 7) nd_swap rfl (Or.inr rfl) (pe_ix (r := rIxT K) ix_tup (pv 5) (pv 1) (fun _ _ => rfl)))
 (pss_cons (ps_setLc (i := 8) (own := [("entry", 6), ("over", 9)]) rfl nd_swap rfl rfl (sw_true rfl rfl rfl (by kernel_rfl)) (pi_zipK (K := K) rfl (by rfl) B.zip (pa_cons (pv 5) (pa_cons (pv 2) pa_nil))) (blkOk_by (by kernel_rfl)) (fun _ _ _ _ _ => (pg_tupK (K := K) (n := 2) rfl rfl (pgs_cons (pg_name (i := 6) nd_swap rfl (Or.inl rfl)) (pgs_cons (pg_name (i := 9) nd_swap rfl (Or.inl rfl)) pgs_nil)))) (fun _ _ _ _ _ => pts_nil) (fun _ _ _ _ _ => (pe_op op_add (pv 6) (pe_op op_fdivW (pe_op op_add (pe_op op_mulW (pe_callB (r := rAbs) c_abs (by rfl) B.abs bt_abs (pa_cons (pv 7) pa_nil)) (pv 9)) (pe_op op_mulW (pv 7) (pe_callB (r := rAbs) c_abs (by rfl) B.abs bt_abs (pa_cons (pv 9) pa_nil)))) pe_int))))
 (pss_cons (ps_asg (pe_un un_neg (pv 7)) (pg_sub (pv 8) (pv 1) set_list))
 (pss_one (ps_expr (pe_bm PySem.F.plainAttrs_list PySem.F.slot_list_append PySem.F.type_list_append mt_append (pv 3) (pa_cons (pe_callTy (r := rTup K) c_tup (by rfl) B.tuple bt_tuple (pa_cons (pv 8) pa_nil)) pa_nil))))))))))
 (pss_one (ps_ret (pe_callTy (r := rTup K) c_tup (by rfl) B.tuple bt_tuple (pa_cons (pv 3) pa_nil)))))), ?_⟩
  · exact h.ln fun _ => rfl
  · obtain ⟨⟨B, p, n, k⟩, G, gh, dv, pre, q⟩ := h
    obtain ⟨hb, hp, hl, hk⟩ : Bd n B ∧ p < n ∧ Lt2 k B ∧ k ≤ 400 := pre
    obtain ⟨vB, vp, rfl, dB, dp⟩ := (show Das G vs [tD B, intD p] from dv).inv2
    cases dp.inv_int
    have hpB : p < B.length := Nat.lt_of_lt_of_le hp hb.len
    obtain ⟨rp, erp⟩ := get_of hpB
    have hrpl := hb.rows.get erp
    refine q_parL (Cn.nil gh) (e_ixT (e_var rfl dB) (e_var rfl (.int _)) (rowD_get erp)) (l_lst a_nil (Nat.zero_le _)) fun vh l xs G1 H1 s1 dh hl1 o1 d1 => ?_
    refine q_forAcc (ds := []) B.zipIdx (fun x => pairD x.2 (rD x.1)) (fun x => rD (swR B p x)) (fun σ => ∃ y4 y5 y6 y7 y8 y9, σ = [some vB, some (.int (p : Int)), some vh, some (.ref l), y4, y5, y6, y7, y8, y9]) (Cn.one s1.i o1) (i_enum B rD (e_var rfl (s1.da dB))) o1 d1 ⟨_, _, _, _, _, _, rfl⟩ ?_ ?_
    · rintro i ⟨line, at_⟩ G' H' σ' xs' x N e st ⟨y4, y5, y6, y7, y8, y9, rfl⟩ ow hlen dx hN
      obtain ⟨e, rfl⟩ := zip_mem e
      have e : B[at_]? = some line := e
      have hll : line.length = n := hb.rows.get e
      have hlz : xs'.length < sizeLine := by
        rw [hlen]
        have h1 := (List.getElem?_eq_some_iff.mp e).1
        have := hb.long
        exact Nat.lt_of_lt_of_le (show ([] : List PyData).length + at_ < 1000 by simp; omega) (by decide)
      have hls : line.length < sizeLine := Nat.lt_of_lt_of_le (show line.length < 1000 by rw [hll]; have := hb.most; omega) (by decide)
      refine g_pair st.i dx fun x y dx dy => ?_
      cases dx.inv_int
      refine s_if (Cn.one st.i ow) (b_test (e_eqI (e_var rfl (.int _)) (e_var rfl (.int _)))) (fun hh G2 H2 s2 => ?_) (fun hh G2 H2 s2 => ?_)
      · have hh : at_ = p := by simpa [Int.ofNat_inj] using hh
        subst hh
        refine s_app (Cn.one s2.i (s2.own ow)) rfl (s2.own ow) (d := rD (swR B at_ (line, at_))) ((e_tupleL ((l_lcM (j := 6) line PyData.int (fun x => .int (-x)) (i_tup (e_var rfl (s2.da dy))) ?_ ?_ ?_).toD)).eq ?_) hlz fun v G5 H5 s5 dv st5 ow5 => hN _ _ _ _ ⟨_, _, _, _, _, _, rfl⟩ (s2.of0.trans st5) ow5 dv
        · exact hls
        · intro x; rfl
        · intro a G3 x ha e3 dx
          cases dx.inv_int
          exact e_neg (e_var rfl (.int _))
        · rw [swR_self]
          unfold rD
          rw [List.map_map]
          rfl
      · have hh : ¬ p = at_ := by
          intro z
          subst z
          simp at hh
        have hpl : line[p]? = some (line.getD p 0) := getD_pt (by omega)
        refine q_asg (Cn.one s2.i (s2.own ow)) (e_ixT (e_var rfl (s2.da dy)) (e_var rfl (.int _)) (intD_get hpl)) fun v3 G3 H3 s3 d3 => ?_
        cases d3.inv_int
        have b1 : (line.getD p 0).natAbs < 2 ^ k := hl.get e hpl
        have dyy : Da G3 y (rD line) := s3.da (s2.da dy)
        have dhh : Da G3 vh (rD rp) := dh.mono (st.g.trans (s2.g.trans s3.g))
        refine q_asgL (Cn.one s3.i (s3.own (s2.own ow))) (l_lcP (i := 6) (j := 9) (tt := tYes) (line.zip rp) (fun x => .int x.1) (fun x => .int x.2) (fun _ => true) (fun x => .int (mu (line.getD p 0) x.1 x.2)) ((i_zipT (e_var rfl dyy) (e_var rfl dhh) (by simp; omega)).eq ?_) ?_ ?_ ?_) fun l2 xs2 G4 H4 s4 hl2 o2 d2 => ?_
        · rw [List.zip_map, List.map_map]
          rfl
        · rw [List.length_zip]
          have := hb.most
          exact Nat.lt_of_lt_of_le (show min line.length rp.length < 1000 by omega) (by decide)
        · intro x y; rfl
        · rintro ⟨en, ov⟩ G4 x y ha e4 dx dy
          cases dx.inv_int
          cases dy.inv_int
          refine ⟨b_yes, fun _ => ?_⟩
          obtain ⟨m1, m2⟩ := List.of_mem_zip ha
          have b2 : ov.natAbs < 2 ^ k := hl rp (List.mem_of_getElem? erp) ov m2
          exact e_I0 (f := fun i j => i + j) (e_var rfl (.int _)) (e_I (f := fun i j => i / j) (e_I0 (f := fun i j => i + j) (e_I (f := fun i j => i * j) (e_abs (e_var rfl (.int _))) (e_var rfl (.int _)) (mulW (k := k) (m := k) (by simpa using b1) b2 (by omega) (by omega))) (e_I (f := fun i j => i * j) (e_var rfl (.int _)) (e_abs (e_var rfl (.int _))) (mulW (k := k) (m := k) b1 (by simpa using b2) (by omega) (by omega)))) e_int ⟨by decide, by decide⟩)
        · rw [List.filter_eq_self.mpr (fun _ _ => rfl)] at d2
          have hxl : xs2.length = n := by rw [d2.length, List.length_map, List.length_zip]; omega
          have ow4 : Own G4 H4 l (.lst xs') := s4.own (s3.own (s2.own ow))
          refine q_put (Cn.two s4.i ow4 o2) rfl o2 (e_neg (e_var rfl (.int _))) (e_var rfl (.int _)) (by omega) fun v5 G5 H5 s5 d5 st5 o5 => ?_
          have ow5 : Own G5 _ l (.lst xs') := st5.ownM (by simp; exact (s3.own (s2.own ow)).ne hl2) ow4
          refine s_app (Cn.two st5.i ow5 o5) rfl ow5 (d := rD (swR B p (line, at_))) ((e_tupleO (l := l2) (by simp) rfl ((s5.das d2).set p d5)).eq ?_) hlz fun v6 G6 H6 s6 d6 st6 ow6 => hN _ _ _ _ ⟨_, _, _, _, _, _, rfl⟩ (((s2.trans (s3.trans s4)).of0.comp st5 (by simp [s2.free (s3.free hl2)])).trans st6) ow6 d6
          rw [swR_other hh hll erp hrpl hp]
          unfold rD
          rw [List.map_set, List.map_map]
          rfl
    · rintro σ' G' H' xs' ⟨y4, y5, y6, y7, y8, y9, rfl⟩ st ow dx
      exact s_ret (Cn.one st.i ow) ((e_tupleO (l := l) (by simp) rfl dx).eq (d' := tD (sw B p)) (by
        show PyData.tuple ([] ++ _) = tD (sw B p)
        unfold tD sw
        rw [List.nil_append, List.map_map]
        rfl)) fun v G2 H2 s2 dv => q v G2 H2 ((Stp.comp s1.of0 st (by simp [hl1])).trans s2) dv
end N41
/-! W4: small defs of one board. -/
namespace N41
open PySem PySem.Spec PyProof.Rows L2
section
variable {K : PySem.W.Frag} {Γ : List (Addr × HO)} {σ : L2.St} {G : Hp} {ta tb tc : TE}
theorem e_cell {n i j : Nat} {B : Tab} (hr : Rows n B) (hi : i < B.length) (hj : j < n) (h : EvD Γ ta σ G (tD B)) (h1 : EvD Γ tb σ G (intD i)) (h2 : EvD Γ tc σ G (intD j)) : EvD Γ (tOp (rIxT K) (tOp (rIxT K) ta tb) tc) σ G (.int (cell B i j)) := by
  obtain ⟨r, e⟩ := get_of hi
  obtain ⟨x, e2⟩ := get_of (l := r) (i := j) (by rw [hr.get e]; exact hj)
  rw [cell_get e e2]
  exact e_ixT (e_ixT h h1 (rowD_get e)) h2 (intD_get e2)
theorem e_row0 {n : Nat} {B : Tab} (hb : Bd n B) (h : EvD Γ ta σ G (tD B)) : EvD Γ (tCB (rLen K) (tCons (tOp (rIxT K) ta (tC (.int 0))) tNil)) σ G (intD n) := by
  obtain ⟨r, e, hl⟩ := hb.zero
  exact e_lenT (e_ixT (j := 0) h e_int (rowD_get e)) (by rw [List.length_map]; exact hl)
end
theorem small {n : Nat} (h : n < 1000) : n < sizeLine := Nat.lt_of_lt_of_le h (by decide)
structure AB where
  B : Tab
  n : Nat
abbrev sp_places_in : Sp := SpF (fun a : AB => [tD a.B]) (fun a => Bd a.n a.B) (fun a => intD a.n)
theorem cal_places_in {P : Program} {w : World} {K : PySem.W.Frag} {mg : Str → Option Value} {base : Heap} (B : Blt mg) (D : FD K mg "places_in" st_places_in) :
    CalG P w K mg base 1 "places_in" sp_places_in := by
  obtain ⟨f, fd, F, hdf⟩ := D.ex
  refine calG0 (N := N_places_in) F (F.fn.binds hdf fun _ _ _ _ _ _ us hl => match us, hl with | [_], _ => rfl) sc_places_in (fun vs H Q E h => ?_) fun cdv A outer s H vs Q E hgu hr h => ⟨_, (pss_cons (ps_if (pt_cmpR op_eq (pe_callB (r := rLen K) c_len (by rfl) B.len bt_len (pa_cons (pv 0) pa_nil)) pe_int (nomark _)) (pss_one (ps_ret pe_int)) pss_nil)
 (pss_cons (ps_set (i := 1) nd_places_in rfl (Or.inr rfl) (pe_callB (r := rLen K) c_len (by rfl) B.len bt_len (pa_cons (pe_ix (r := rIxT K) ix_tup (pv 0) pe_int (fun _ _ => rfl)) pa_nil)))
 (pss_cons (ps_if (PW.pt (pw_or (pt_cmpR op_lt (pe_callB (r := rLen K) c_len (by rfl) B.len bt_len (pa_cons (pv 0) pa_nil)) (pv 1) (nomark _)) (pw_or1 (pt_val (pe_callB (r := rAny K) (cr_any rfl) (by rfl) B.any bt_any (pa_cons (pe_lc (own := [("row", 2)]) rfl nd_places_in (pi_tupK (K := K) rfl (pv 0)) (blkOk_by (by kernel_rfl)) (fun _ _ _ _ _ => (pg_name (i := 2) nd_places_in rfl (Or.inl rfl))) (fun _ _ _ _ _ => pts_nil) (fun _ _ _ _ _ => (pe_cmpR op_ne (pe_callB (r := rLen K) c_len (by rfl) B.len bt_len (pa_cons (pv 2) pa_nil)) (pv 1) (nomark _)))) pa_nil)))))) (pss_one (ps_ret pe_int)) pss_nil)
 (pss_one (ps_ret (pv 1)))))), ?_⟩
  · exact h.ln fun _ => rfl
  · obtain ⟨⟨B, n⟩, G, gh, dv, hb, q⟩ := h
    have hb : Bd n B := hb
    obtain ⟨vB, rfl, dB⟩ := (show Das G vs [tD B] from dv).inv1
    have hlen : B.length < sizeLine := small (by have := hb.long; omega)
    refine q_when (Cn.nil gh) (b_test (e_eqI (e_lenT (e_var rfl dB) (by rw [List.length_map])) e_int)) (fun hh => ?_) (fun _ G1 H1 s1 => ?_)
    · have := hb.len; have := hb.pos
      have : ((B.length : Nat) : Int) = 0 := by simpa using hh
      omega
    · have dB1 := s1.da dB
      refine q_asgI (Cn.nil s1.i) (e_row0 hb (e_var rfl dB1)) fun G2 H2 s2 => ?_
      have dB2 := s2.da dB1
      refine q_when (b := false) (Cn.nil s2.i) ((b_or (p := false) (k := false) ((b_test (e_B0 (f := fun i j => decide (i < j)) (e_lenT (e_var rfl dB2) (by rw [List.length_map])) (e_var rfl (.int _)))).eq ?_) fun _ => (b_B ((e_any (bs := B.map fun _ => false) ((l_lcM (j := 2) B rD (fun _ => .bool false) (i_tup (e_var rfl dB2)) hlen (fun _ => rfl) fun r G3 x hr e3 dx => ?_).toD.eq ?_)).eq ?_))).eq rfl) (fun hh => by cases hh) (fun _ G3 H3 s3 => ?_)
      · have := hb.len
        simp
        omega
      · refine (e_neI (e_lenT (e_var rfl dx) (by rw [List.length_map])) (e_var rfl (.int _))).eq ?_
        rw [hb.rows r hr]
        simp
      · rw [List.map_map]; rfl
      · congr 1
        induction B with
        | nil => rfl
        | cons _ B ih => simp
      · exact s_ret (Cn.nil s3.i) (e_var rfl (.int _)) fun v G4 H4 s4 dv => q v G4 H4 (s1.trans (s2.trans (s3.trans s4))) dv
structure ABp where
  B : Tab
  n : Nat
  p : Nat
theorem filter_nat {n : Nat} (p : Nat → Bool) : ((List.range n).filter p).map natD = ((List.range n).filter p).map natD := rfl
abbrev sp_near : Sp := SpL (fun a : ABp => [tD a.B, intD a.p, intD a.n]) (fun a => Bd a.n a.B ∧ a.p < a.n) (fun a => (nearL a.n a.B a.p).map natD)
theorem cal_near {P : Program} {w : World} {K : PySem.W.Frag} {mg : Str → Option Value} {base : Heap} (B : Blt mg) (D : FD K mg "near" st_near) :
    CalG P w K mg base 1 "near" sp_near := by
  obtain ⟨f, fd, F, hdf⟩ := D.ex
  refine calG0 (N := N_near) F (F.fn.binds hdf fun _ _ _ _ _ _ us hl => match us, hl with | [_, _, _], _ => rfl) sc_near (fun vs H Q E h => ?_) fun cdv A outer s H vs Q E hgu hr h => ⟨_, (pss_one (ps_ret (pe_lc (own := [("other", 3)]) rfl nd_near (pi_range1 (by rfl) B.range (pa_cons (pv 2) pa_nil)) (blkOk_by (by kernel_rfl)) (fun _ _ _ _ _ => (pg_name (i := 3) nd_near rfl (Or.inl rfl))) (fun _ _ _ _ _ => (pts_one (pt_cmpR op_ne (pe_ix (r := rIxT K) ix_tup (pe_ix (r := rIxT K) ix_tup (pv 0) (pv 1) (fun _ _ => rfl)) (pv 3) (fun _ _ => rfl)) pe_int (nomark _)))) (fun _ _ _ _ _ => (pv 3))))), ?_⟩
  · exact h.ln fun _ => rfl
  · obtain ⟨⟨B, n, p⟩, G, gh, dv, pre, q⟩ := h
    obtain ⟨hb, hp⟩ : Bd n B ∧ p < n := pre
    have dv : Das G vs [tD B, intD p, intD n] := dv
    cases dv with
    | cons dB dv =>
      obtain ⟨vp, vn, rfl, dp, dn⟩ := dv.inv2
      cases dp.inv_int
      cases dn.inv_int
      refine s_retL (Cn.nil gh) (l_lcN (j := 3) (List.range n) natD (fun o => !decide (cell B p o = 0)) natD (i_rng (a_cons (e_var rfl (.int _)) a_nil) (by have := hb.most; omega)) (by rw [List.length_range]; exact small (by have := hb.most; omega)) (fun _ => rfl) fun o G3 x ho e3 dx => ?_) fun v xs G4 H4 s4 hp o dx => q v xs G4 H4 s4 hp o dx
      cases dx.inv_int
      exact ⟨b_test (e_neI (e_cell hb.rows (by have := hb.len; omega) (List.mem_range.mp ho) (e_var rfl (dB.mono e3)) (e_var rfl (.int _)) (e_var rfl (.int _))) e_int), fun _ => e_var rfl (.int _)⟩
abbrev sp_table_of : Sp := SpF (fun a : AB => [tD a.B]) (fun a => Bd a.n a.B) (fun a => tD (a.B.take a.n))
theorem cal_table_of {P : Program} {w : World} {K : PySem.W.Frag} {mg : Str → Option Value} {base : Heap} (B : Blt mg) (D : FD K mg "table_of" st_table_of) :
    CalG P w K mg base 1 "table_of" sp_table_of := by
  obtain ⟨f, fd, F, hdf⟩ := D.ex
  refine calG0 (N := N_table_of) F (F.fn.binds hdf fun _ _ _ _ _ _ us hl => match us, hl with | [_], _ => rfl) sc_table_of (fun vs H Q E h => ?_) fun cdv A outer s H vs Q E hgu hr h => ⟨_, (pss_one (ps_ret (pe_slice (r := rSlA K) sl_tupA (pv 0) po_none (po_some (pe_callB (r := rLen K) c_len (by rfl) B.len bt_len (pa_cons (pe_ix (r := rIxT K) ix_tup (pv 0) pe_int (fun _ _ => rfl)) pa_nil)))))), ?_⟩
  · exact h.ln fun _ => rfl
  · obtain ⟨⟨B, n⟩, G, gh, dv, hb, q⟩ := h
    have hb : Bd n B := hb
    obtain ⟨vB, rfl, dB⟩ := (show Das G vs [tD B] from dv).inv1
    refine s_ret (Cn.nil gh) ((e_slT (n := n) (e_var rfl dB) (o_some (e_row0 hb (e_var rfl dB)))).eq (d' := tD (B.take n)) ?_) fun v G4 H4 s4 dv => q v G4 H4 s4 dv
    unfold tD
    rw [List.map_take]
abbrev sp_swap_by : Sp := SpF (fun B : Tab => [tD B, .tuple []]) (fun _ => True) (fun B => tD B)
theorem cal_swap_by {P : Program} {w : World} {K : PySem.W.Frag} {mg : Str → Option Value} {base : Heap} (B : Blt mg) (D : FD K mg "swap_by" st_swap_by) (c_swap : CalG P w K mg base 1 "swap" sp_swap) :
    CalG P w K mg base 2 "swap_by" sp_swap_by := by
  obtain ⟨f, fd, F, hdf⟩ := D.ex
  refine calG0 (N := N_swap_by) F (F.fn.binds hdf fun _ _ _ _ _ _ us hl => match us, hl with | [_, _], _ => rfl) sc_swap_by (fun vs H Q E h => ?_) fun cdv A outer s H vs Q E hgu hr h => ⟨_, (pss_cons (ps_for PassesOwn.never rfl (pi_tupK (K := K) rfl (pv 1)) (pg_name (i := 2) nd_swap_by rfl (Or.inl rfl)) (pss_one (ps_set (i := 0) nd_swap_by rfl (Or.inl rfl) (pe_cg c_swap hgu hr (by decide) (by rfl) (pa_cons (pv 0) (pa_cons (pv 2) pa_nil))))))
 (pss_one (ps_ret (pv 0)))), ?_⟩
  · exact h.ln fun _ => rfl
  · obtain ⟨B, G, gh, dv, _, q⟩ := h
    obtain ⟨vB, vr, rfl, dB, dr⟩ := dv.inv2
    refine q_for (α := PyData) [] id (Cn.nil gh) (i_tup (e_var rfl dr)) (fun G1 H1 i σ' G' H' => Same G1 G' ∧ Stp [] G H G' H' ∧ σ' = [some vB, some vr, none]) (fun G1 H1 s => ⟨Same.refl _, s, rfl⟩) (fun _ _ _ _ _ _ h => ⟨h.1, h.2.1.i⟩) (fun G1 H1 i a σ' G' H' x G2 H2 _ e => by simp at e) fun G1 H1 σ' G' H' s1 ⟨sg, s, hs⟩ => ?_
    subst hs
    exact s_ret (Cn.nil s.i) (e_var rfl (s.da dB)) fun v G4 H4 s4 dv => q v G4 H4 (s.trans s4) dv
structure AR where
  T : Tab
  n : Nat
  o : List Nat
abbrev sp_rename : Sp := SpF (fun a : AR => [tD a.T, Prm.rowD a.o]) (fun a => Sq a.n a.T ∧ a.n ≤ 4 ∧ a.o.length = a.n ∧ ∀ i ∈ a.o, i < a.n) (fun a => tD (renM a.T a.o))
theorem cal_rename {P : Program} {w : World} {K : PySem.W.Frag} {mg : Str → Option Value} {base : Heap} (B : Blt mg) (D : FD K mg "rename" st_rename) :
    CalG P w K mg base 1 "rename" sp_rename := by
  obtain ⟨f, fd, F, hdf⟩ := D.ex
  refine calG0 (N := N_rename) F (F.fn.binds hdf fun _ _ _ _ _ _ us hl => match us, hl with | [_, _], _ => rfl) sc_rename (fun vs H Q E h => ?_) fun cdv A outer s H vs Q E hgu hr h => ⟨_, (pss_cons (ps_set (i := 2) nd_rename rfl (Or.inl rfl) (pe_op op_cat (pe_lc (own := [("place", 3)]) rfl nd_rename (pi_tupK (K := K) rfl (pv 1)) (blkOk_by (by kernel_rfl)) (fun _ _ _ _ _ => (pg_name (i := 3) nd_rename rfl (Or.inl rfl))) (fun _ _ _ _ _ => pts_nil) (fun _ _ _ _ _ => (pe_ix (r := rIxT K) ix_tup (pv 0) (pv 3) (fun _ _ => rfl)))) (pe_callTy (r := rList K) c_list (by rfl) B.list bt_list (pa_cons (pe_slice (r := rSlA K) sl_tupA (pv 0) (po_some (pe_callB (r := rLen K) c_len (by rfl) B.len bt_len (pa_cons (pv 1) pa_nil))) po_none) pa_nil))))
 (pss_one (ps_ret (pe_callTy (r := rTup K) c_tup (by rfl) B.tuple bt_tuple (pa_cons (pe_lc (own := [("row", 4)]) rfl nd_rename (pi_listK (K := K) rfl (pv 2)) (blkOk_by (by kernel_rfl)) (fun _ _ _ _ _ => (pg_name (i := 4) nd_rename rfl (Or.inr rfl))) (fun _ _ _ _ _ => pts_nil) (fun _ _ _ _ _ => (pe_callTy (r := rTup K) c_tup (by rfl) B.tuple bt_tuple (pa_cons (pe_lc (own := [("place", 3)]) rfl nd_rename (pi_tupK (K := K) rfl (pv 1)) (blkOk_by (by kernel_rfl)) (fun _ _ _ _ _ => (pg_name (i := 3) nd_rename rfl (Or.inl rfl))) (fun _ _ _ _ _ => pts_nil) (fun _ _ _ _ _ => (pe_ix (r := rIxT K) ix_tup (pv 4) (pv 3) (fun _ _ => rfl)))) pa_nil)))) pa_nil))))), ?_⟩
  · exact h.ln fun _ => rfl
  · obtain ⟨⟨T, n, o⟩, G, gh, dv, pre, q⟩ := h
    obtain ⟨hq, h4, ho, hi⟩ : Sq n T ∧ n ≤ 4 ∧ o.length = n ∧ ∀ i ∈ o, i < n := pre
    obtain ⟨vT, vo, rfl, dT, dO⟩ := (show Das G vs [tD T, Prm.rowD o] from dv).inv2
    have hz : o.length < sizeLine := small (by omega)
    refine q_asgL (Cn.nil gh) ((l_cat (ds := o.map fun i => rD (T.getD i [])) (es := []) ((l_lcM (j := 3) o natD (fun i => rD (T.getD i [])) (i_tup (e_var rfl dO)) hz (fun _ => rfl) fun i G3 x hm e3 dx => ?_).toD) ((l_listT (ds := []) ((e_slTd (n := n) (e_var rfl dT) (o_some (e_lenT (e_var rfl dO) (by rw [List.length_map]; exact ho)))).eq ?_)).toD) (by simp; omega)).eq (ds' := o.map fun i => rD (T.getD i [])) (by simp)) fun l xs G1 H1 s1 hl o1 d1 => ?_
    · cases dx.inv_int
      obtain ⟨r, e, _⟩ := hq.get (hi i hm)
      rw [getD_of e]
      exact e_ixT (e_var rfl (dT.mono e3)) (e_var rfl (.int _)) (rowD_get e)
    · rw [List.drop_eq_nil_of_le (by rw [List.length_map, hq.len]; exact Nat.le_refl _)]
    · have k1 := Own.know s1.i o1
      have dh : Da (upd G1 l (.lst xs)) (.ref l) (.list (o.map fun i => rD (T.getD i []))) := .lst upd_same (d1.mono k1.2)
      have sk := s1.know o1 hl
      refine s_ret (Cn.nil sk.i) ((e_tupleL ((l_lcM (j := 4) (o.map fun i => T.getD i []) rD (fun r => rD (o.map fun j => r.getD j 0)) ((i_list (e_var rfl dh)).eq ?_) (by rw [List.length_map]; exact hz) (fun _ => rfl) fun r G3 x hm e3 dx => ?_).toD)).eq (d' := tD (renM T o)) ?_) fun v G4 H4 s4 dv => q v G4 H4 (sk.trans s4) dv
      · rw [List.map_map]; rfl
      · obtain ⟨i, him, rfl⟩ := List.mem_map.mp hm
        obtain ⟨r, e, hrl⟩ := hq.get (hi i him)
        rw [getD_of e] at dx ⊢
        have dO3 : Da G3 vo (Prm.rowD o) := (dO.mono sk.g).mono e3
        refine (e_tupleL ((l_lcM (j := 3) o natD (fun j => .int (r.getD j 0)) (i_tup (e_var rfl dO3)) hz (fun _ => rfl) fun j G4 y hjm e4 dy => ?_).toD)).eq (d' := rD (o.map fun j => r.getD j 0)) ?_
        · cases dy.inv_int
          exact e_ixT (e_var rfl (dx.mono e4)) (e_var rfl (.int _)) (intD_get (getD_pt (by rw [hrl]; exact hi j hjm)))
        · unfold rD; rw [List.map_map]; rfl
      · unfold tD renM
        rw [List.map_map, List.map_map]
        rfl
structure AT where
  T : Tab
  n : Nat
abbrev sp_least_renamed : Sp := SpF (fun a : AT => [tD a.T]) (fun a => Sq a.n a.T ∧ 1 ≤ a.n ∧ a.n ≤ 4) (fun a => leastD a.n a.T)
theorem cal_least_renamed {P : Program} {w : World} {K : PySem.W.Frag} {mg : Str → Option Value} {base : Heap} (B : Blt mg) (D : FD K mg "least_renamed" st_least_renamed) (c_rename : CalG P w K mg base 1 "rename" sp_rename) :
    CalG P w K mg base 2 "least_renamed" sp_least_renamed := by
  obtain ⟨f, fd, F, hdf⟩ := D.ex
  refine calG0 (N := N_least_renamed) F (F.fn.binds hdf fun _ _ _ _ _ _ us hl => match us, hl with | [_], _ => rfl) sc_least_renamed (fun vs H Q E h => ?_) fun cdv A outer s H vs Q E hgu hr h => ⟨_, (pss_one (ps_ret (pe_callB (r := rMinD K) (c_minD rfl hr.u200) (by rfl) B.min bt_min (pa_cons (pe_lc (own := [("order", 1)]) rfl nd_least_renamed (Prm.pi_prm (by rfl) B.range (by rfl) B.permutations rfl (pe_callB (r := rLen K) c_len (by rfl) B.len bt_len (pa_cons (pe_ix (r := rIxT K) ix_tup (pv 0) pe_int (fun _ _ => rfl)) pa_nil))) (blkOk_by (by kernel_rfl)) (fun _ _ _ _ _ => (pg_name (i := 1) nd_least_renamed rfl (Or.inl rfl))) (fun _ _ _ _ _ => pts_nil) (fun _ _ _ _ _ => (pe_cg c_rename hgu hr (by decide) (by rfl) (pa_cons (pv 0) (pa_cons (pv 1) pa_nil))))) pa_nil)))), ?_⟩
  · exact h.ln fun _ => rfl
  · obtain ⟨⟨T, n⟩, G, gh, dv, pre, q⟩ := h
    obtain ⟨hq, h1, h4⟩ : Sq n T ∧ 1 ≤ n ∧ n ≤ 4 := pre
    obtain ⟨vT, rfl, dT⟩ := (show Das G vs [tD T] from dv).inv1
    have hb := hq.bd h1 h4
    have hz : ∀ n, n ≤ 4 → (Prm.perms n).length < 1000 := by decide +kernel
    refine s_ret (Cn.nil gh) ((e_minD ((l_lcM (j := 1) (Prm.perms n) Prm.rowD (fun o => tD (renM T o)) (Prm.i_prm (e_row0 hb (e_var rfl dT)) h1 h4) (small (hz n h4)) (fun _ => rfl) fun o G3 x hm e3 dx => ?_).toD) (renAll_pos h1 h4 T) (comp_ren h4 T)).eq (d' := leastD n T) rfl) fun v G4 H4 s4 dv => q v G4 H4 s4 dv
    obtain ⟨k1, k2⟩ := perms_ok n h4 o hm
    exact e_cg (⟨T, n, o⟩ : AR) (a_cons (e_var rfl (dT.mono e3)) (a_cons (e_var rfl dx) a_nil)) ⟨hq, h4, k1, k2⟩
abbrev sp__law_greatest : Sp := SpF (fun a : AT => [tD a.T]) (fun a => Sq a.n a.T ∧ 1 ≤ a.n ∧ a.n ≤ 4) (fun a => .int (gr a.T))
theorem cal__law_greatest {P : Program} {w : World} {K : PySem.W.Frag} {mg : Str → Option Value} {base : Heap} (B : Blt mg) (D : FD K mg "_law_greatest" st__law_greatest) :
    CalG P w K mg base 1 "_law_greatest" sp__law_greatest := by
  obtain ⟨f, fd, F, hdf⟩ := D.ex
  refine calG0 (N := N__law_greatest) F (F.fn.binds hdf fun _ _ _ _ _ _ us hl => match us, hl with | [_], _ => rfl) sc__law_greatest (fun vs H Q E h => ?_) fun cdv A outer s H vs Q E hgu hr h => ⟨_, (pss_one (ps_ret (pe_callB (r := rMax K) (cr_max rfl) (by rfl) B.max bt_max (pa_cons (pe_lc (own := [("_law_line", 2)]) rfl nd__law_greatest (pi_tupK (K := K) rfl (pv 0)) (blkOk_by (by kernel_rfl)) (fun _ _ _ _ _ => (pg_name (i := 2) nd__law_greatest rfl (Or.inl rfl))) (fun _ _ _ _ _ => pts_nil) (fun _ _ _ _ _ => (pe_callB (r := rMax K) (cr_max rfl) (by rfl) B.max bt_max (pa_cons (pe_lc (own := [("_law_entry", 1)]) rfl nd__law_greatest (pi_tupK (K := K) rfl (pv 2)) (blkOk_by (by kernel_rfl)) (fun _ _ _ _ _ => (pg_name (i := 1) nd__law_greatest rfl (Or.inl rfl))) (fun _ _ _ _ _ => pts_nil) (fun _ _ _ _ _ => (pe_callB (r := rAbs) c_abs (by rfl) B.abs bt_abs (pa_cons (pv 1) pa_nil)))) pa_nil)))) pa_nil)))), ?_⟩
  · exact h.ln fun _ => rfl
  · obtain ⟨⟨T, n⟩, G, gh, dv, pre, q⟩ := h
    obtain ⟨hq, h1, h4⟩ : Sq n T ∧ 1 ≤ n ∧ n ≤ 4 := pre
    obtain ⟨vT, rfl, dT⟩ := (show Das G vs [tD T] from dv).inv1
    refine s_ret (Cn.nil gh) (e_max (ns := T.map grR) ((l_lcM (j := 2) T rD (fun r => .int (grR r)) (i_tup (e_var rfl dT)) (small (by rw [hq.len]; omega)) (fun _ => rfl) fun r G3 x hm e3 dx => ?_).toD.eq (by rw [List.map_map]; rfl)) (isMax_fold (fun z => ?_) fun y hy => ?_)) fun v G4 H4 s4 dv => q v G4 H4 s4 dv
    · have hrl := hq.rows r hm
      refine e_max (ns := r.map fun x => ((x.natAbs : Nat) : Int)) ((l_lcM (j := 1) r PyData.int (fun x => .int ((x.natAbs : Nat) : Int)) (i_tup (e_var rfl dx)) (small (by omega)) (fun _ => rfl) fun x G4 y hxm e4 dy => ?_).toD.eq (by rw [List.map_map]; rfl)) (isMax_fold (fun z => ?_) fun y hy => ?_)
      · cases dy.inv_int
        exact e_abs (e_var rfl (.int _))
      · have := congrArg List.length z
        simp at this
        rw [this] at hrl
        simp at hrl
        omega
      · obtain ⟨x, _, rfl⟩ := List.mem_map.mp hy
        omega
    · have := congrArg List.length z
      rw [List.length_map, hq.len] at this
      simp at this
      omega
    · obtain ⟨r, _, rfl⟩ := List.mem_map.mp hy
      exact grR_nonneg r
end N41
/-! W5: the checks; sources; a directed round. -/
namespace N41
open PySem PySem.Spec PyProof.Rows L2
/-- a board that the checks let through -/
structure Ok (n : Nat) (B : Tab) : Prop where
  bd : Bd n B
  sk : Skw n B
  sm : Sm n B
abbrev sp_weights_of : Sp := SpS (fun a : AB => [tD a.B]) (fun a => Ok a.n a.B) (fun _ d => isNone d = false)
abbrev sp_checked_board : Sp := SpF (fun a : AB => [tD a.B]) (fun a => Ok a.n a.B) (fun a => intD a.n)
theorem cal_checked_board {P : Program} {w : World} {K : PySem.W.Frag} {mg : Str → Option Value} {base : Heap} (B : Blt mg) (D : FD K mg "checked_board" st_checked_board) (c_weights_of : CalG P w K mg base 3 "weights_of" sp_weights_of) :
    CalG P w K mg base 4 "checked_board" sp_checked_board := by
  obtain ⟨f, fd, F, hdf⟩ := D.ex
  refine calG0 (N := N_checked_board) F (F.fn.binds hdf fun _ _ _ _ _ _ us hl => match us, hl with | [_], _ => rfl) sc_checked_board (fun vs H Q E h => ?_) fun cdv A outer s H vs Q E hgu hr h => ⟨_, (pss_cons (ps_if (pt_cmpR o_isN (pe_cg c_weights_of hgu hr (by decide) (by rfl) (pa_cons (pv 0) pa_nil)) pe_non (nomark _)) pss_never pss_nil)
 (pss_one (ps_ret (pe_callB (r := rLen K) c_len (by rfl) B.len bt_len (pa_cons (pe_ix (r := rIxT K) ix_tup (pv 0) pe_int (fun _ _ => rfl)) pa_nil))))), ?_⟩
  · exact h.ln fun _ => rfl
  · obtain ⟨⟨B, n⟩, G, gh, dv, ok, q⟩ := h
    have ok : Ok n B := ok
    obtain ⟨vB, rfl, dB⟩ := (show Das G vs [tD B] from dv).inv1
    refine q_when (b := false) (Cn.nil gh) (b_test (e_isNS (es_cg (⟨B, n⟩ : AB) (a_cons (e_var rfl dB) a_nil) ok) fun d hd => hd)) (fun hh => by cases hh) (fun _ G1 H1 s1 => ?_)
    exact s_ret (Cn.nil s1.i) (e_row0 ok.bd (e_var rfl (s1.da dB))) fun v G4 H4 s4 dv => q v G4 H4 (s1.trans s4) dv
abbrev sp_checked_row : Sp := SpF (fun a : AB => [tD a.B, .tuple []]) (fun a => Bd a.n a.B) (fun _ => .tuple [])
theorem cal_checked_row {P : Program} {w : World} {K : PySem.W.Frag} {mg : Str → Option Value} {base : Heap} (B : Blt mg) (D : FD K mg "checked_row" st_checked_row) :
    CalG P w K mg base 1 "checked_row" sp_checked_row := by
  obtain ⟨f, fd, F, hdf⟩ := D.ex
  refine calG0 (N := N_checked_row) F (F.fn.binds hdf fun _ _ _ _ _ _ us hl => match us, hl with | [_, _], _ => rfl) sc_checked_row (fun vs H Q E h => ?_) fun cdv A outer s H vs Q E hgu hr h => ⟨_, (pss_cons (ps_if (pt_val (pe_callB (r := rAny K) (cr_any rfl) (by rfl) B.any bt_any (pa_cons (pe_lc (own := [("place", 2)]) rfl nd_checked_row (pi_tupK (K := K) rfl (pv 1)) (blkOk_by (by kernel_rfl)) (fun _ _ _ _ _ => (pg_name (i := 2) nd_checked_row rfl (Or.inl rfl))) (fun _ _ _ _ _ => pts_nil) (fun _ _ _ _ _ => (pe_not (pe_chain op_le op_lt pe_int (pv 2) (pe_callB (r := rLen K) c_len (by rfl) B.len bt_len (pa_cons (pe_ix (r := rIxT K) ix_tup (pv 0) pe_int (fun _ _ => rfl)) pa_nil)))))) pa_nil))) pss_never pss_nil)
 (pss_one (ps_ret (pv 1)))), ?_⟩
  · exact h.ln fun _ => rfl
  · obtain ⟨⟨B, n⟩, G, gh, dv, hb, q⟩ := h
    have hb : Bd n B := hb
    obtain ⟨vB, vr, rfl, dB, dr⟩ := (show Das G vs [tD B, .tuple []] from dv).inv2
    refine q_when (b := false) (Cn.nil gh) (b_B ((e_any (bs := []) ((l_lcM (j := 2) ([] : List PyData) id (fun _ => .bool false) (i_tup (e_var rfl dr)) (by decide) (fun _ => rfl) fun a G3 x hm => by cases hm).toD)).eq rfl)) (fun hh => by cases hh) (fun _ G1 H1 s1 => ?_)
    exact s_ret (Cn.nil s1.i) (e_var rfl (s1.da dr)) fun v G4 H4 s4 dv => q v G4 H4 (s1.trans s4) dv
abbrev sp_swapped_by : Sp := SpF (fun a : AB => [tD a.B, .tuple []]) (fun a => Ok a.n a.B) (fun a => tD a.B)
theorem cal_swapped_by {P : Program} {w : World} {K : PySem.W.Frag} {mg : Str → Option Value} {base : Heap} (B : Blt mg) (D : FD K mg "swapped_by" st_swapped_by) (c_checked_board : CalG P w K mg base 4 "checked_board" sp_checked_board) (c_swap_by : CalG P w K mg base 2 "swap_by" sp_swap_by) (c_checked_row : CalG P w K mg base 1 "checked_row" sp_checked_row) :
    CalG P w K mg base 5 "swapped_by" sp_swapped_by := by
  obtain ⟨f, fd, F, hdf⟩ := D.ex
  refine calG0 (N := N_swapped_by) F (F.fn.binds hdf fun _ _ _ _ _ _ us hl => match us, hl with | [_, _], _ => rfl) sc_swapped_by (fun vs H Q E h => ?_) fun cdv A outer s H vs Q E hgu hr h => ⟨_, (pss_cons (ps_expr (pe_cg c_checked_board hgu hr (by decide) (by rfl) (pa_cons (pv 0) pa_nil)))
 (pss_one (ps_ret (pe_cg c_swap_by hgu hr (by decide) (by rfl) (pa_cons (pv 0) (pa_cons (pe_cg c_checked_row hgu hr (by decide) (by rfl) (pa_cons (pv 0) (pa_cons (pv 1) pa_nil))) pa_nil)))))), ?_⟩
  · exact h.ln fun _ => rfl
  · obtain ⟨⟨B, n⟩, G, gh, dv, ok, q⟩ := h
    have ok : Ok n B := ok
    obtain ⟨vB, vr, rfl, dB, dr⟩ := (show Das G vs [tD B, .tuple []] from dv).inv2
    refine q_drop (Cn.nil gh) (e_cg (⟨B, n⟩ : AB) (a_cons (e_var rfl dB) a_nil) ok) fun G1 H1 s1 => ?_
    exact s_ret (Cn.nil s1.i) (e_cg B (a_cons (e_var rfl (s1.da dB)) (a_cons (e_cg (⟨B, n⟩ : AB) (a_cons (e_var rfl (s1.da dB)) (a_cons (e_var rfl (s1.da dr)) a_nil)) ok.bd) a_nil)) trivial) fun v G4 H4 s4 dv => q v G4 H4 (s1.trans s4) dv
abbrev sp_check_most : Sp := SpF (fun m : Nat => [intD m]) (fun _ => True) (fun _ => .none)
theorem cal_check_most {P : Program} {w : World} {K : PySem.W.Frag} {mg : Str → Option Value} {base : Heap} (B : Blt mg) (D : FD K mg "check_most" st_check_most) :
    CalG P w K mg base 1 "check_most" sp_check_most := by
  obtain ⟨f, fd, F, hdf⟩ := D.ex
  refine calG0 (N := N_check_most) F (F.fn.binds hdf fun _ _ _ _ _ _ us hl => match us, hl with | [_], _ => rfl) sc_check_most (fun vs H Q E h => ?_) fun cdv A outer s H vs Q E hgu hr h => ⟨_, (pss_one (ps_if (pt_cmpR op_lt (pv 0) pe_int (nomark _)) pss_never pss_nil)), ?_⟩
  · exact h.ln fun _ => rfl
  · obtain ⟨m, G, gh, dv, _, q⟩ := h
    obtain ⟨vm, rfl, dm⟩ := dv.inv1
    cases dm.inv_int
    exact s_when (b := false) (Cn.nil gh) ((b_test (e_B0 (f := fun i j => decide (i < j)) (e_var rfl (.int _)) e_int)).eq (by simp)) (fun hh => by cases hh) (fun _ G1 H1 s1 => q _ G1 H1 s1 .non)
def srcL (n : Nat) (B : Tab) : List Nat := (List.range n).filter fun p => ((B.getD p []).map fun x => decide (0 ≤ x)).all id
abbrev sp_sources : Sp := SpL (fun a : AB => [tD a.B]) (fun a => Ok a.n a.B) (fun a => (srcL a.n a.B).map natD)
theorem cal_sources {P : Program} {w : World} {K : PySem.W.Frag} {mg : Str → Option Value} {base : Heap} (B : Blt mg) (D : FD K mg "sources" st_sources) (c_checked_board : CalG P w K mg base 4 "checked_board" sp_checked_board) :
    CalG P w K mg base 5 "sources" sp_sources := by
  obtain ⟨f, fd, F, hdf⟩ := D.ex
  refine calG0 (N := N_sources) F (F.fn.binds hdf fun _ _ _ _ _ _ us hl => match us, hl with | [_], _ => rfl) sc_sources (fun vs H Q E h => ?_) fun cdv A outer s H vs Q E hgu hr h => ⟨_, (pss_cons (ps_set (i := 1) nd_sources rfl (Or.inl rfl) (pe_cg c_checked_board hgu hr (by decide) (by rfl) (pa_cons (pv 0) pa_nil)))
 (pss_one (ps_ret (pe_lc (own := [("place", 2)]) rfl nd_sources (pi_range1 (by rfl) B.range (pa_cons (pv 1) pa_nil)) (blkOk_by (by kernel_rfl)) (fun _ _ _ _ _ => (pg_name (i := 2) nd_sources rfl (Or.inl rfl))) (fun _ _ _ _ _ => (pts_one (pt_val (pe_callB (r := rAll K) (cr_all rfl) (by rfl) B.all bt_all (pa_cons (pe_lc (own := [("entry", 3)]) rfl nd_sources (pi_tupK (K := K) rfl (pe_ix (r := rIxT K) ix_tup (pv 0) (pv 2) (fun _ _ => rfl))) (blkOk_by (by kernel_rfl)) (fun _ _ _ _ _ => (pg_name (i := 3) nd_sources rfl (Or.inl rfl))) (fun _ _ _ _ _ => pts_nil) (fun _ _ _ _ _ => (pe_cmpR op_ge (pv 3) pe_int (nomark _)))) pa_nil))))) (fun _ _ _ _ _ => (pv 2)))))), ?_⟩
  · exact h.ln fun _ => rfl
  · obtain ⟨⟨B, n⟩, G, gh, dv, ok, q⟩ := h
    have ok : Ok n B := ok
    have hb := ok.bd
    obtain ⟨vB, rfl, dB⟩ := (show Das G vs [tD B] from dv).inv1
    refine q_asgI (Cn.nil gh) (e_cg (⟨B, n⟩ : AB) (a_cons (e_var rfl dB) a_nil) ok) fun G1 H1 s1 => ?_
    have dB1 := s1.da dB
    refine s_retL (Cn.nil s1.i) (l_lcN (j := 2) (List.range n) natD (fun p => ((B.getD p []).map fun x => decide (0 ≤ x)).all id) natD (i_rng (a_cons (e_var rfl (.int _)) a_nil) (by have := hb.most; omega)) (by rw [List.length_range]; exact small (by have := hb.most; omega)) (fun _ => rfl) fun p G3 x hp e3 dx => ?_) fun v xs G4 H4 s4 hp o dx => q v xs G4 H4 (s1.trans s4) (s1.free hp) o dx
    cases dx.inv_int
    obtain ⟨r, e, hrl⟩ := hb.get (List.mem_range.mp hp)
    rw [getD_of e]
    refine ⟨b_B (e_all ((l_lcM (j := 3) r PyData.int (fun x => .bool (decide (0 ≤ x))) (i_tup (e_ixT (e_var rfl (dB1.mono e3)) (e_var rfl (.int _)) (rowD_get e))) (small (by have := hb.most; omega)) (fun _ => rfl) fun x G4 y hx e4 dy => ?_).toD.eq (by rw [List.map_map]; rfl))), fun _ => e_var rfl (.int _)⟩
    cases dy.inv_int
    exact e_B0 (f := fun i j => decide (j ≤ i)) (e_var rfl (.int _)) e_int
def drStep (B : Tab) (L : List Nat) : List Nat := L.filter fun p => (L.map fun o => decide (0 < cell B p o)).any id
def drIt (B : Tab) (n : Nat) : Nat → List Nat
  | 0 => List.range n
  | i + 1 => drStep B (drIt B n i)
def dirRound (n : Nat) (B : Tab) : Bool := !(drIt B n n).isEmpty
theorem drIt_sub (B : Tab) (n : Nat) : ∀ i, ∀ p ∈ drIt B n i, p < n
  | 0 => fun p hp => List.mem_range.mp hp
  | i + 1 => fun p hp => drIt_sub B n i p (List.mem_filter.mp hp).1
theorem drIt_len (B : Tab) (n : Nat) : ∀ i, (drIt B n i).length ≤ n
  | 0 => by rw [drIt, List.length_range]; exact Nat.le_refl _
  | i + 1 => Nat.le_trans (List.length_filter_le _ _) (drIt_len B n i)
abbrev sp_directed_round : Sp := SpF (fun a : AB => [tD a.B]) (fun a => Ok a.n a.B) (fun a => .bool (dirRound a.n a.B))
theorem cal_directed_round {P : Program} {w : World} {K : PySem.W.Frag} {mg : Str → Option Value} {base : Heap} (B : Blt mg) (D : FD K mg "directed_round" st_directed_round) (c_checked_board : CalG P w K mg base 4 "checked_board" sp_checked_board) :
    CalG P w K mg base 5 "directed_round" sp_directed_round := by
  obtain ⟨f, fd, F, hdf⟩ := D.ex
  refine calG0 (N := N_directed_round) F (F.fn.binds hdf fun _ _ _ _ _ _ us hl => match us, hl with | [_], _ => rfl) sc_directed_round (fun vs H Q E h => ?_) fun cdv A outer s H vs Q E hgu hr h => ⟨_, (pss_cons (ps_set (i := 1) nd_directed_round rfl (Or.inr rfl) (pe_listRg rfl (by rfl) B.list (prg_1 (by rfl) B.range (pe_cg c_checked_board hgu hr (by decide) (by rfl) (pa_cons (pv 0) pa_nil)))))
 (pss_cons (ps_for PassesOwn.never rfl (pi_range1 (by rfl) B.range (pa_cons (pe_callB (r := rLen K) c_len (by rfl) B.len bt_len (pa_cons (pv 1) pa_nil)) pa_nil)) (pg_name (i := 2) nd_directed_round rfl (Or.inl rfl)) (pss_one (ps_set (i := 1) nd_directed_round rfl (Or.inr rfl) (pe_lc (own := [("place", 3)]) rfl nd_directed_round (pi_listK (K := K) rfl (pv 1)) (blkOk_by (by kernel_rfl)) (fun _ _ _ _ _ => (pg_name (i := 3) nd_directed_round rfl (Or.inr rfl))) (fun _ _ _ _ _ => (pts_one (pt_val (pe_callB (r := rAny K) (cr_any rfl) (by rfl) B.any bt_any (pa_cons (pe_lc (own := [("other", 4)]) rfl nd_directed_round (pi_listK (K := K) rfl (pv 1)) (blkOk_by (by kernel_rfl)) (fun _ _ _ _ _ => (pg_name (i := 4) nd_directed_round rfl (Or.inl rfl))) (fun _ _ _ _ _ => pts_nil) (fun _ _ _ _ _ => (pe_cmpR op_gt (pe_ix (r := rIxT K) ix_tup (pe_ix (r := rIxT K) ix_tup (pv 0) (pv 3) (fun _ _ => rfl)) (pv 4) (fun _ _ => rfl)) pe_int (nomark _)))) pa_nil))))) (fun _ _ _ _ _ => (pv 3))))))
 (pss_one (ps_ret (pe_cmpR (r := rNeD K) (op_neD hr.units) (pv 1) (pe_lst pa_nil) (nomark _)))))), ?_⟩
  · exact h.ln fun _ => rfl
  · obtain ⟨⟨B, n⟩, G, gh, dv, ok, q⟩ := h
    have ok : Ok n B := ok
    have hb := ok.bd
    have h4 := hb.most
    obtain ⟨vB, rfl, dB⟩ := (show Das G vs [tD B] from dv).inv1
    refine q_asg (Cn.nil gh) ((l_listRg (n := n) (e_cg (⟨B, n⟩ : AB) (a_cons (e_var rfl dB) a_nil) ok) (by omega)).toD) fun vl G1 H1 s1 dl => ?_
    have dB1 := s1.da dB
    refine q_for (List.range n) natD (Cn.nil s1.i) (i_rng (a_cons (e_lenL (e_var rfl dl) (by rw [List.length_map, List.length_range])) a_nil) (by omega)) (fun G1' H1' i σ' G' H' => Same G1' G' ∧ Stp [] G1 H1 G' H' ∧ ∃ vl y1 y2 y3, σ' = [some vB, some vl, y1, y2, y3] ∧ Da G' vl (.list ((drIt B n i).map natD))) (fun G2 H2 s2 => ⟨Same.refl _, s2, vl, _, _, _, rfl, s2.da dl⟩) (fun _ _ _ _ _ _ h => ⟨h.1, h.2.1.i⟩) (fun G2 H2 i a σ' G' H' x G3 H3 s2 e ⟨sg, st, vl, y1, y2, y3, hσ, dl⟩ s3 dx => ?_) fun G2 H2 σ' G' H' s2 ⟨sg, st, vl, y1, y2, y3, hσ, dl⟩ => ?_
    · subst hσ
      have dl3 := s3.da dl
      have dB3 := s3.da (st.da dB1)
      refine s_asg (Cn.nil s3.i) ((l_lcN (j := 3) (drIt B n i) natD (fun p => ((drIt B n i).map fun o => decide (0 < cell B p o)).any id) natD (i_list (e_var rfl dl3)) (small (by have := drIt_len B n i; omega)) (fun _ => rfl) fun p G4 x hp e4 dx => ?_).toD) fun v G4 H4 s4 dv => ⟨G4, sg.trans (s3.g.trans s4.g), st.trans (s3.trans s4), v, _, _, _, rfl, dv⟩
      cases dx.inv_int
      refine ⟨b_B (e_any ((l_lcM (j := 4) (drIt B n i) natD (fun o => .bool (decide (0 < cell B p o))) (i_list (e_var rfl (dl3.mono e4))) (small (by have := drIt_len B n i; omega)) (fun _ => rfl) fun o G5 y ho e5 dy => ?_).toD.eq (by rw [List.map_map]; rfl))), fun _ => e_var rfl (.int _)⟩
      cases dy.inv_int
      exact e_B0 (f := fun i j => decide (j < i)) (e_cell hb.rows (by have := drIt_sub B n i p hp; have := hb.len; omega) (drIt_sub B n i o ho) (e_var rfl ((dB3.mono e4).mono e5)) (e_var rfl (.int _)) (e_var rfl (.int _))) e_int
    · subst hσ
      rw [List.length_range] at dl
      refine s_ret (Cn.nil st.i) ((e_neD (e_var rfl dl) ((l_lst a_nil (by decide)).toD) ?_ rfl).eq (d' := .bool (dirRound n B)) ?_) fun v G4 H4 s4 dv => q v G4 H4 (s1.trans (st.trans s4)) dv
      · have k : ∀ L : List Nat, PyData.canLayAll0 (L.map natD) = true ∧ PyData.depthAll (L.map natD) = 0 := by
          intro L
          induction L with
          | nil => exact ⟨rfl, rfl⟩
          | cons x L ih => simp [PyData.canLayAll0, PyData.canLay0, PyData.depthAll, PyData.depth, natD, ih]
        unfold SeqAt.shaped
        simp [PyData.canLay0, PyData.depth, k]
      · rw [eqv_nil_list]
        unfold dirRound
        rw [List.isEmpty_map]
end N41
/-! W6: the weights of a board. -/
namespace N41
open PySem PySem.Spec PyProof.Rows L2
section
variable {K : PySem.W.Frag} {Γ : List (Addr × HO)} {σ : L2.St} {G H : Hp} {ta tb tc te : TE} {l : Addr} {D : Ends} {tz : TS}
theorem fa_get {fs : List Nat} {i : Nat} (h : i < fs.length) : fs[i]? = some (fa fs i) := by
  obtain ⟨x, e⟩ := get_of h
  unfold fa
  rw [e, getD_of e]
theorem e_fa {i j : Nat} {fs : List Nat} (hm : (l, HO.lst (fs.map vN)) ∈ Γ) (hi : σ[i]? = some (some (.ref l))) (hb : EvD Γ tb σ G (.int (j : Int))) (hj : j < fs.length) : EvD Γ (tOp (rIxL K) (tVar i) tb) σ G (.int ((fa fs j : Nat) : Int)) := e_ixO hm hi (das_nats G fs) hb (nat_get (fa_get hj))
theorem set_nat {fs : List Nat} {j : Nat} {x : Nat} : (fs.map vN).set j (.int (x : Int)) = (fs.set j x).map vN := by rw [List.map_set]
/-- f[j] = e, f a list of naturals -/
theorem q_putN {i j x : Nat} {fs : List Nat} (c : Cn Γ G H) (hi : σ[i]? = some (some (.ref l))) (o : Own G H l (.lst (fs.map vN))) (h : EvD Γ te σ G (.int (x : Int))) (hj : EvD Γ tb σ G (.int (j : Int))) (hl : j < fs.length)
    (k : ∀ G2 H2, Stp [l] G H G2 H2 → Own G2 H2 l (.lst ((fs.set j x).map vN)) → tz D σ H2) : tSeq (tAsg te (gSub (tVar i) tb rSetL)) tz D σ H := q_put c hi o h hj (by rw [List.length_map]; exact hl) fun v G2 H2 s dv st ow => by
  cases dv.inv_int
  rw [set_nat] at st ow ⊢
  exact k _ _ st ow
theorem s_putN {i j x : Nat} {fs : List Nat} (c : Cn Γ G H) (hi : σ[i]? = some (some (.ref l))) (o : Own G H l (.lst (fs.map vN))) (h : EvD Γ te σ G (.int (x : Int))) (hj : EvD Γ tb σ G (.int (j : Int))) (hl : j < fs.length)
    (k : ∀ G2 H2, Stp [l] G H G2 H2 → Own G2 H2 l (.lst ((fs.set j x).map vN)) → D.nx σ H2) : tAsg te (gSub (tVar i) tb rSetL) D σ H := s_put c hi o h hj (by rw [List.length_map]; exact hl) fun v G2 H2 s dv st ow => by
  cases dv.inv_int
  rw [set_nat] at st ow ⊢
  exact k _ _ st ow
theorem s_appN {i x : Nat} {fs : List Nat} (c : Cn Γ G H) (hi : σ[i]? = some (some (.ref l))) (o : Own G H l (.lst (fs.map vN))) (h : EvD Γ te σ G (.int (x : Int))) (hl : fs.length < sizeLine)
    (k : ∀ G2 H2, Stp [l] G H G2 H2 → Own G2 H2 l (.lst ((fs ++ [x]).map vN)) → D.nx σ H2) : tDrop (tBM K "list" rAppend (tVar i) (tCons te tNil)) D σ H := s_app c hi o h (by rw [List.length_map]; exact hl) fun v G2 H2 s dv st ow => by
  cases dv.inv_int
  have e : fs.map vN ++ [.int (x : Int)] = (fs ++ [x]).map vN := by rw [List.map_append]; rfl
  rw [e] at st ow ⊢
  exact k _ _ st ow
/-- over an owned list of naturals that the body leaves -/
theorem s_forON {tu : TS} {i j : Nat} {ps : List Nat} (c : Same G H) (o : Own G H l (.lst (ps.map vN))) (hi : σ[i]? = some (some (.ref l))) (Pv : Nat → L2.St → Hp → Hp → Prop) (h0 : Pv 0 σ G H)
    (hk : ∀ i σ' G' H', Pv i σ' G' H' → Same G G' ∧ Same G' H' ∧ Own G' H' l (.lst (ps.map vN)))
    (hs : ∀ (i p : Nat) σ' G' H', ps[i]? = some p → Pv i σ' G' H' → tu { D with nx := fun σ3 H4 => ∃ G4, Pv (i + 1) σ3 G4 H4, ct := fun σ3 H4 => ∃ G4, Pv (i + 1) σ3 G4 H4, bk := D.nx } (σ'.set j (some (.int (p : Int)))) H')
    (hd : ∀ σ' G' H', Pv ps.length σ' G' H' → D.nx σ' H') : tFor (iList K (tVar i)) (gName j) tu D σ H :=
  s_forO c o hi (das_nats G ps) Pv h0 hk (fun i d σ' G' H' x e pv dx => by
    rw [List.getElem?_map] at e
    cases e2 : ps[i]? with
    | none => rw [e2] at e; cases e
    | some p =>
      rw [e2] at e
      cases e
      cases dx.inv_int
      exact hs i p σ' G' H' e2 pv) (by rw [List.length_map]; exact hd)
theorem q_forON {tu : TS} {i j : Nat} {ps : List Nat} (c : Same G H) (o : Own G H l (.lst (ps.map vN))) (hi : σ[i]? = some (some (.ref l))) (Pv : Nat → L2.St → Hp → Hp → Prop) (h0 : Pv 0 σ G H)
    (hk : ∀ i σ' G' H', Pv i σ' G' H' → Same G G' ∧ Same G' H' ∧ Own G' H' l (.lst (ps.map vN)))
    (hs : ∀ (i p : Nat) σ' G' H', ps[i]? = some p → Pv i σ' G' H' → tu { D with nx := fun σ3 H4 => ∃ G4, Pv (i + 1) σ3 G4 H4, ct := fun σ3 H4 => ∃ G4, Pv (i + 1) σ3 G4 H4, bk := tz D } (σ'.set j (some (.int (p : Int)))) H')
    (hd : ∀ σ' G' H', Pv ps.length σ' G' H' → tz D σ' H') : tSeq (tFor (iList K (tVar i)) (gName j) tu) tz D σ H := s_forON (D := { D with nx := tz D }) c o hi Pv h0 hk hs hd
end
theorem fold_snoc {β : Type} (f : β → Nat → β) (b : β) {ps : List Nat} {i p : Nat} (e : ps[i]? = some p) : (ps.take (i + 1)).foldl f b = f ((ps.take i).foldl f b) p := by
  rw [List.take_add_one, e, List.foldl_append]
  rfl
theorem bnd16 {n k x : Nat} (h : x ≤ 16 ^ k) (hk : k ≤ n) (h4 : n ≤ 4) : x < 2 ^ 20 := by
  have h2 : 16 ^ k ≤ 16 ^ 4 := Nat.pow_le_pow_right (by decide) (by omega)
  have h5 : (16 : Nat) ^ 4 = 65536 := by decide
  have h6 : (2 : Nat) ^ 20 = 1048576 := by decide
  omega
/-- fits into a machine word -/
theorem mulN {a b : Nat} {x y : Int} (hx : x.natAbs = a) (hy : y.natAbs = b) (ha : a < 2 ^ 30) (hb : b < 2 ^ 30) : CMulW x y := mulW (k := 30) (m := 30) (by omega) (by omega) (by decide) (by decide)
structure WPre (B : Tab) (n : Nat) (w : Nat → Nat) (start : Nat) (fs : List Nat) : Prop where
  bd : Bd n B
  sm : Sm n B
  wp : ∀ i, i < n → 0 < w i
  sk : ∀ i j, i < n → j < n → ((w i : Nat) : Int) * cell B i j = -((w j : Nat) : Int) * cell B j i
  lt : start < n
  wi : WI n B w fs
  zr : fa fs start = 0
abbrev sp_weigh_piece : Sp := fun vs H Q _ => ∃ (B : Tab) (n : Nat) (w : Nat → Nat) (start : Nat) (fs : List Nat) (G : Hp) (vB : V) (l : Addr), vs = [vB, .ref l, vN start, vN n] ∧ Same G H ∧ Da G vB (tD B) ∧ Own G H l (.lst (fs.map vN)) ∧ WPre B n w start fs ∧
  ∀ fs' G2 H2, Stp [l] G H G2 H2 → Own G2 H2 l (.lst (fs'.map vN)) → WI n B w fs' → Q .non H2
theorem keep2 {n : Nat} {B : Tab} {w : Nat → Nat} {start o : Nat} {fs fx f2 ps : List Nat} (h : PI_ n B w start fs fx ps) (h2 : PI_ n B w start fs f2 (ps ++ [o])) (j : Nat) (hj : fa fx j ≠ 0) : fa f2 j ≠ 0 := by
  by_cases hm : j ∈ ps ++ [o]
  · have := h2.pos j hm
    omega
  · rw [h2.out j hm, ← h.out j (fun z => hm (by simp [z]))]
    exact hj
theorem not_mem_take {ps : List Nat} (nd : ps.Nodup) {i x : Nat} (e : ps[i]? = some x) : x ∉ ps.take i := fun h => by
  obtain ⟨j, hj⟩ := List.mem_iff_getElem?.mp h
  rw [List.getElem?_take] at hj
  split at hj
  · rename_i hlt
    have h1 : j < ps.length := (List.getElem?_eq_some_iff.mp hj).1
    have := (List.getElem?_inj h1 nd).mp (hj.trans e.symm)
    omega
  · cases hj
theorem cal_weigh_piece {P : Program} {w : World} {K : PySem.W.Frag} {mg : Str → Option Value} {base : Heap} (B : Blt mg) (D : FD K mg "weigh_piece" st_weigh_piece) (c_near : CalG P w K mg base 1 "near" sp_near) :
    CalG P w K mg base 2 "weigh_piece" sp_weigh_piece := by
  obtain ⟨f, fd, F, hdf⟩ := D.ex
  refine calG0 (N := N_weigh_piece) F (F.fn.binds hdf fun _ _ _ _ _ _ us hl => match us, hl with | [_, _, _, _], _ => rfl) sc_weigh_piece (fun vs H Q E h => ?_) fun cdv A outer s H vs Q E hgu hr h => ⟨_, (pss_cons (ps_par (i := 4) (j := 5) rfl nd_weigh_piece rfl rfl (by decide) rfl rfl (pa_cons (pe_lst (pa_cons (pv 2) pa_nil)) (pa_cons pe_int pa_nil)) (by rfl))
 (pss_cons (ps_asg pe_int (pg_sub (pv 1) (pv 2) set_list))
 (pss_cons (ps_while PassesOwn.never (pt_cmpR op_lt (pv 5) (pe_callB (r := rLen K) c_len (by rfl) B.len bt_len (pa_cons (pv 4) pa_nil)) (nomark _)) (pss_cons (ps_set (i := 6) nd_weigh_piece rfl (Or.inl rfl) (pe_ix (r := rIxL K) ix_list (pv 4) (pv 5) (fun _ _ => rfl)))
 (pss_cons (ps_for PassesOwn.never rfl (pi_listK (K := K) rfl (pe_cg c_near hgu hr (by decide) (by rfl) (pa_cons (pv 0) (pa_cons (pv 6) (pa_cons (pv 3) pa_nil))))) (pg_name (i := 7) nd_weigh_piece rfl (Or.inl rfl)) (pss_one (ps_if (PW.pt (pw_and (pt_cmpR op_eq (pe_ix (r := rIxL K) ix_list (pv 1) (pv 7) (fun _ _ => rfl)) pe_int (nomark _)) (pw_and1 (pt_cmpR op_ne (pe_ix (r := rIxT K) ix_tup (pe_ix (r := rIxT K) ix_tup (pv 0) (pv 7) (fun _ _ => rfl)) (pv 6) (fun _ _ => rfl)) pe_int (nomark _))))) (pss_cons (ps_par (i := 8) (j := 9) rfl nd_weigh_piece rfl rfl (by decide) rfl rfl (pa_cons (pe_callB (r := rAbs) c_abs (by rfl) B.abs bt_abs (pa_cons (pe_ix (r := rIxT K) ix_tup (pe_ix (r := rIxT K) ix_tup (pv 0) (pv 6) (fun _ _ => rfl)) (pv 7) (fun _ _ => rfl)) pa_nil)) (pa_cons (pe_callB (r := rAbs) c_abs (by rfl) B.abs bt_abs (pa_cons (pe_ix (r := rIxT K) ix_tup (pe_ix (r := rIxT K) ix_tup (pv 0) (pv 7) (fun _ _ => rfl)) (pv 6) (fun _ _ => rfl)) pa_nil)) pa_nil)) (by rfl))
 (pss_cons (ps_set (i := 10) nd_weigh_piece rfl (Or.inl rfl) (pe_op op_fdivW (pv 9) (pe_callBfun cr_gcd (by rfl) B.gcd (pa_cons (pe_op op_mulW (pe_ix (r := rIxL K) ix_list (pv 1) (pv 6) (fun _ _ => rfl)) (pv 8)) (pa_cons (pv 9) pa_nil)))))
 (pss_cons (ps_for PassesOwn.never rfl (pi_listK (K := K) rfl (pv 4)) (pg_name (i := 11) nd_weigh_piece rfl (Or.inl rfl)) (pss_one (ps_asg (pe_op op_mulW (pe_ix (r := rIxL K) ix_list (pv 1) (pv 11) (fun _ _ => rfl)) (pv 10)) (pg_sub (pv 1) (pv 11) set_list))))
 (pss_cons (ps_asg (pe_op op_fdivW (pe_op op_mulW (pe_ix (r := rIxL K) ix_list (pv 1) (pv 6) (fun _ _ => rfl)) (pv 8)) (pv 9)) (pg_sub (pv 1) (pv 7) set_list))
 (pss_one (ps_expr (pe_bm PySem.F.plainAttrs_list PySem.F.slot_list_append PySem.F.type_list_append mt_append (pv 4) (pa_cons (pv 7) pa_nil)))))))) pss_nil)))
 (pss_one (ps_aug (i := 5) nd_weigh_piece rfl (Or.inl rfl) pe_int ip_add)))))
 (pss_cons (ps_set (i := 12) nd_weigh_piece rfl (Or.inl rfl) pe_int)
 (pss_cons (ps_for PassesOwn.never rfl (pi_listK (K := K) rfl (pv 4)) (pg_name (i := 11) nd_weigh_piece rfl (Or.inl rfl)) (pss_one (ps_set (i := 12) nd_weigh_piece rfl (Or.inl rfl) (pe_callBfun cr_gcd (by rfl) B.gcd (pa_cons (pv 12) (pa_cons (pe_ix (r := rIxL K) ix_list (pv 1) (pv 11) (fun _ _ => rfl)) pa_nil))))))
 (pss_one (ps_for PassesOwn.never rfl (pi_listK (K := K) rfl (pv 4)) (pg_name (i := 11) nd_weigh_piece rfl (Or.inl rfl)) (pss_one (ps_asg (pe_op op_fdivW (pe_ix (r := rIxL K) ix_list (pv 1) (pv 11) (fun _ _ => rfl)) (pv 12)) (pg_sub (pv 1) (pv 11) set_list)))))))))), ?_⟩
  · obtain ⟨B, n, w, start, fs, G, vB, l, rfl, _⟩ := h
    rfl
  · obtain ⟨B, n, w, start, fs, G, vB, l, rfl, gh, dB, ow, ⟨hb, sm, wp, sk, lt, wi, zr⟩, q⟩ := h
    have h4 : n ≤ 4 := hb.most
    refine q_parLD (Cn.one gh ow) (l_lst (a_cons (e_var rfl (.int _)) a_nil) (slack (by simp))) e_int fun v p xs G1 H1 s1 d1 hp1 o1 dx => ?_
    cases d1.inv_int
    obtain ⟨vs, rfl, dvs⟩ := dx.inv1
    cases dvs.inv_int
    have hlp : l ≠ p := ow.ne hp1
    have o1 : Own G1 H1 p (.lst (([start] : List Nat).map vN)) := o1
    refine q_putN (Cn.one s1.i (s1.own ow)) rfl (s1.own ow) e_int (e_var rfl (.int _)) (by rw [wi.len]; exact lt) fun G2 H2 st2 ow2 => ?_
    have o2 := st2.ownM (by simp [hlp.symm]) o1
    have base : Stp [l] G H G2 H2 := s1.of0.trans st2
    refine q_while (fun m σ' G' H' => ∃ (at_ : Nat) (fx ps : List Nat) (y6 y7 y8 y9 y10 y11 y12 : Option V), m = n - at_ ∧ at_ ≤ ps.length ∧ σ' = [some vB, some (.ref l), some (vN start), some (vN n), some (.ref p), some (vN at_), y6, y7, y8, y9, y10, y11, y12] ∧ PI_ n B w start fs fx ps ∧ (∀ k i, k < at_ → ps[k]? = some i → ∀ j, j < n → cell B i j ≠ 0 → fa fx j ≠ 0) ∧ Stp [l, p] G2 H2 G' H' ∧ Own G' H' l (.lst (fx.map vN)) ∧ Own G' H' p (.lst (ps.map vN))) n
      ⟨0, _, [start], _, _, _, _, _, _, _, by omega, by simp, rfl, PI_.begin wi lt zr, fun k i hk => by omega, Stp.refl st2.i, ow2, o2⟩ ?_
    rintro m σ' G' H' ⟨at_, fx, ps, y6, y7, y8, y9, y10, y11, y12, rfl, hat, rfl, pi, hcl, st, owl, owp⟩
    have hps : ps.length ≤ n := pi.size
    refine ⟨_, decide (at_ < ps.length), Cn.two st.i owl owp, (b_test (e_B0 (f := fun i j => decide (i < j)) (e_var rfl (.int _)) (e_lenO (l := p) (xs := ps.map vN) (by simp) rfl (by rw [List.length_map])))).eq (by simp), fun hh G3 H3 s3 => ?_, fun hh G3 H3 s3 => ?_⟩
    · have hh : at_ < ps.length := by simpa using hh
      obtain ⟨pl, epl⟩ := get_of hh
      have hpl : pl ∈ ps := List.mem_of_getElem? epl
      have hpln : pl < n := pi.lt pl hpl
      have owl3 := s3.own owl
      have owp3 := s3.own owp
      refine q_asgI (n := (pl : Int)) (Cn.two s3.i owl3 owp3) (e_ixO (l := p) (xs := ps.map vN) (by simp) rfl (das_nats _ ps) (e_var rfl (.int _)) (nat_get epl)) fun G4 H4 s4 => ?_
      have st4 : Stp [l, p] G2 H2 G4 H4 := st.up (s3.trans s4)
      have dB4 : Da G4 vB (tD B) := ((dB.mono base.g).mono st4.g)
      refine q_for (nearL n B pl) natD (Cn.two s4.i (s4.own owl3) (s4.own owp3)) (i_list ((l_cg (⟨B, n, pl⟩ : ABp) (a_cons (e_var rfl dB4) (a_cons (e_var rfl (.int _)) (a_cons (e_var rfl (.int _)) a_nil))) ⟨hb, hpln⟩).toD)) (fun G5 _ i σ' G' H' => Same G5 G' ∧ ∃ (fx' ps' : List Nat) (y7 y8 y9 y10 y11 y12 : Option V), σ' = [some vB, some (.ref l), some (vN start), some (vN n), some (.ref p), some (vN at_), some (vN pl), y7, y8, y9, y10, y11, y12] ∧ PI_ n B w start fs fx' ps' ∧ (∃ more, ps' = ps ++ more) ∧ (∀ j, fa fx j ≠ 0 → fa fx' j ≠ 0) ∧ (∀ k o, k < i → (nearL n B pl)[k]? = some o → fa fx' o ≠ 0) ∧ Stp [l, p] G2 H2 G' H' ∧ Own G' H' l (.lst (fx'.map vN)) ∧ Own G' H' p (.lst (ps'.map vN)))
        (fun G5 H5 s5 => ⟨Same.refl _, fx, ps, _, _, _, _, _, _, rfl, pi, ⟨[], by simp⟩, fun _ h => h, fun k o hk => by omega, st4.up s5, s5.own (s4.own owl3), s5.own (s4.own owp3)⟩) (fun _ _ _ _ _ _ ⟨h, _, _, _, _, _, _, _, _, _, _, _, _, _, s, _⟩ => ⟨h, s.i⟩) (fun G5 H5 i o σ' G' H' x G6 H6 s5 eo ⟨sg, fx', ps', y7, y8, y9, y10, y11, y12, hσ, pi', ⟨more, hmore⟩, hper, hproc, st', owl', owp'⟩ s6 dx => ?_) (fun G5 H5 σ' G' H' s5 ⟨sg, fx', ps', y7, y8, y9, y10, y11, y12, hσ, pi', ⟨more, hmore⟩, hper, hproc, st', owl', owp'⟩ => ?_)
      · subst hσ
        cases dx.inv_int
        have hon : o ∈ nearL n B pl := List.mem_of_getElem? eo
        obtain ⟨ho1, ho2⟩ := List.mem_filter.mp hon
        have ho : o < n := List.mem_range.mp ho1
        have hcpo : cell B pl o ≠ 0 := by simpa using ho2
        have hcop : cell B o pl ≠ 0 := fun z => hcpo (skw_zero (wp pl hpln) (sk o pl ho hpln) z)
        have owl6 := s6.own owl'
        have owp6 := s6.own owp'
        have st6 : Stp [l, p] G2 H2 G6 H6 := st'.up s6
        have dB6 : Da G6 vB (tD B) := (dB.mono base.g).mono st6.g
        have hol : o < fx'.length := by rw [pi'.len]; exact ho
        have hplm : pl ∈ ps' := by rw [hmore]; simp [hpl]
        have hpll : pl < fx'.length := by rw [pi'.len]; exact hpln
        have hBn : n ≤ B.length := hb.len
        have cellE : ∀ {Γ : List (Addr × HO)} {σ : L2.St} {Gx : Hp} {i j : Nat} {tb tc : TE} (hσ : σ[0]? = some (some vB)) (hG : Same G6 Gx) (hi : i < n) (hj : j < n) (h1 : EvD Γ tb σ Gx (.int (i : Int))) (h2 : EvD Γ tc σ Gx (.int (j : Int))), EvD Γ (tOp (rIxT K) (tOp (rIxT K) (tVar 0) tb) tc) σ Gx (.int (cell B i j)) := fun hσ hG hi hj h1 h2 => e_cell hb.rows (by omega) hj (e_var hσ (dB6.mono hG)) h1 h2
        refine s_when (b := decide (fa fx' o = 0)) (Cn.two s6.i owl6 owp6) ((b_and (p := decide (fa fx' o = 0)) (k := true) ((b_test (e_eqI (e_fa (l := l) (fs := fx') (by simp) rfl (e_var rfl (.int _)) hol) e_int)).eq (by simp)) fun _ => (b_test (e_neI (cellE rfl (Same.refl _) ho hpln (e_var rfl (.int _)) (e_var rfl (.int _))) e_int)).eq (by simp [hcop])).eq (by simp)) (fun hh G7 H7 s7 => ?_) (fun hh G7 H7 s7 => ?_)
        · have hz : fa fx' o = 0 := by simpa using hh
          obtain ⟨pi2, sc1, sc4⟩ := PI_.add wp sk sm pi' hplm ho hz hcop
          have owl7 := s7.own owl6
          have owp7 := s7.own owp6
          have bd1 : ∀ i ∈ ps', fa fx' i < 2 ^ 20 := fun i hi => bnd16 (pi'.bnd i hi) pi'.size h4
          refine q_par (Cn.two s7.i owl7 owp7) (a_cons (e_abs (cellE rfl s7.g hpln ho (e_var rfl (.int _)) (e_var rfl (.int _)))) (a_cons (e_abs (cellE rfl s7.g ho hpln (e_var rfl (.int _)) (e_var rfl (.int _)))) a_nil)) fun v1 v2 G8 H8 s8 dv1 dv2 => ?_
          cases dv1.inv_int
          cases dv2.inv_int
          have owl8 := s8.own owl7
          have owp8 := s8.own owp7
          generalize hhere : (cell B pl o).natAbs = here at pi2 sc1 sc4 ⊢
          generalize hthere : (cell B o pl).natAbs = there at pi2 sc1 sc4 ⊢
          have hh4 : here ≤ 4 := by rw [← hhere]; exact sm pl o hpln ho
          have ht4 : there ≤ 4 := by rw [← hthere]; exact sm o pl ho hpln
          have ht1 : 1 ≤ there := by rw [← hthere]; omega
          generalize hscale : there / Nat.gcd (fa fx' pl * here) there = scale at pi2 sc1 sc4 ⊢
          have hg1 : 0 < Nat.gcd (fa fx' pl * here) there := Nat.gcd_pos_of_pos_right _ ht1
          have hg4 : Nat.gcd (fa fx' pl * here) there ≤ 4 := Nat.le_trans (Nat.le_of_dvd ht1 (Nat.gcd_dvd_right _ _)) ht4
          have b20 := bd1 pl hplm
          have eg : Nat.gcd (((fa fx' pl : Nat) : Int) * ((here : Nat) : Int)).natAbs ((there : Nat) : Int).natAbs = Nat.gcd (fa fx' pl * here) there := by
            rw [Int.natAbs_mul, Int.natAbs_natCast, Int.natAbs_natCast, Int.natAbs_natCast]
          have hdv : CDivW ((there : Nat) : Int) ((Nat.gcd (((fa fx' pl : Nat) : Int) * ((here : Nat) : Int)).natAbs ((there : Nat) : Int).natAbs : Nat) : Int) := by
            rw [eg]
            exact ⟨by omega, by rw [Int.natAbs_natCast]; exact Nat.lt_of_le_of_lt (Nat.log2_le_self _) (by omega)⟩
          have hsc : ((there : Nat) : Int) / ((Nat.gcd (((fa fx' pl : Nat) : Int) * ((here : Nat) : Int)).natAbs ((there : Nat) : Int).natAbs : Nat) : Int) = ((scale : Nat) : Int) := by
            rw [eg, ← hscale, Int.natCast_ediv]
          refine q_asgI (n := (scale : Int)) (Cn.two s8.i owl8 owp8) ((e_I (f := fun i j => i / j) (e_var rfl (.int _)) (e_gcd (e_I (f := fun i j => i * j) (e_fa (l := l) (fs := fx') (by simp) rfl (e_var rfl (.int _)) hpll) (e_var rfl (.int _)) (mulN (Int.natAbs_natCast _) (Int.natAbs_natCast _) (by omega) (by omega))) (e_var rfl (.int _))) hdv).eq (by rw [hsc])) fun G9 H9 s9 => ?_
          · have owl9 := s9.own owl8
            have owp9 := s9.own owp8
            have hlps : ∀ i ∈ ps', i < fx'.length := fun i hi => by rw [pi'.len]; exact pi'.lt i hi
            refine q_forON s9.i owp9 rfl (fun i σ' G' H' => ∃ y11 : Option V, σ' = [some vB, some (.ref l), some (vN start), some (vN n), some (.ref p), some (vN at_), some (vN pl), some (vN o), some (vN here), some (vN there), some (vN scale), y11, y12] ∧ Stp [l] G9 H9 G' H' ∧ Own G' H' p (.lst (ps'.map vN)) ∧ Own G' H' l (.lst ((updAt (fun x => x * scale) fx' (ps'.take i)).map vN)))
              ⟨_, rfl, Stp.refl s9.i, owp9, owl9⟩ (fun i σ' G' H' ⟨_, _, s, o, _⟩ => ⟨s.g, s.i, o⟩) (fun i one σ' G' H' e1 ⟨y11, hσ, sA, op, ol⟩ => ?_) (fun σ' G' H' ⟨y11, hσ, sA, op, ol⟩ => ?_)
            · subst hσ
              have h1m : one ∈ ps' := List.mem_of_getElem? e1
              have hul : one < (updAt (fun x => x * scale) fx' (ps'.take i)).length := by rw [updAt_len]; exact hlps one h1m
              have hnt : (ps'.take i).Nodup := pi'.nd.sublist (List.take_sublist _ _)
              have hval : fa (updAt (fun x => x * scale) fx' (ps'.take i)) one = fa fx' one := by
                rw [updAt_get _ _ _ hnt (fun j hj => hlps j (List.mem_of_mem_take hj)), if_neg]
                exact not_mem_take pi'.nd e1
              have hb1 := bd1 one h1m
              refine s_putN (x := fa (updAt (fun x => x * scale) fx' (ps'.take i)) one * scale) (Cn.two sA.i ol op) rfl ol ((e_I (f := fun i j => i * j) (e_fa (l := l) (fs := updAt (fun x => x * scale) fx' (ps'.take i)) (by simp) rfl (e_var rfl (.int _)) hul) (e_var rfl (.int _)) (mulN (Int.natAbs_natCast _) (Int.natAbs_natCast _) (by omega) (by omega))).eq (by rw [Int.natCast_mul])) (e_var rfl (.int _)) hul fun GB HB sB oB => ⟨GB, _, rfl, sA.trans sB, sB.ownM (by simp [hlp.symm]) op, ?_⟩
              have eu : updAt (fun x => x * scale) fx' (ps'.take (i + 1)) = (updAt (fun x => x * scale) fx' (ps'.take i)).set one (fa (updAt (fun x => x * scale) fx' (ps'.take i)) one * scale) := fold_snoc _ _ e1
              rw [eu]
              exact oB
            · subst hσ
              rw [List.take_length] at ol
              generalize hf1 : updAt (fun x => x * scale) fx' ps' = f1 at ol pi2
              have hf1l : f1.length = n := by rw [← hf1, updAt_len, pi'.len]
              have hf1p : fa f1 pl ≤ 2 ^ 22 := by
                rw [← hf1, updAt_get _ _ _ pi'.nd hlps, if_pos hplm]
                have : fa fx' pl * scale ≤ 2 ^ 20 * 4 := Nat.mul_le_mul (Nat.le_of_lt b20) sc4
                omega
              refine q_putN (x := fa f1 pl * here / there) (Cn.two sA.i ol op) rfl ol ((e_I (f := fun i j => i / j) (e_I (f := fun i j => i * j) (e_fa (l := l) (fs := f1) (by simp) rfl (e_var rfl (.int _)) (by rw [hf1l]; exact hpln)) (e_var rfl (.int _)) (mulN (Int.natAbs_natCast _) (Int.natAbs_natCast _) (by omega) (by omega))) (e_var rfl (.int _)) ⟨by omega, by rw [Int.natAbs_natCast]; exact Nat.lt_of_le_of_lt (Nat.log2_le_self _) (by omega)⟩).eq (by rw [Int.natCast_ediv, Int.natCast_mul])) (e_var rfl (.int _)) (by rw [hf1l]; exact ho) fun GB HB sB oB => ?_
              have opB := sB.ownM (by simp [hlp.symm]) op
              refine s_appN (Cn.two sB.i oB opB) rfl opB (e_var rfl (.int _)) (small (by have := pi'.size; omega)) fun GC HC sC oC => ?_
              have oB2 := sC.ownM (by simp [hlp]) oB
              have stC : Stp [l, p] G2 H2 GC HC := ((st6.up (s7.trans (s8.trans s9))).trans ((sA.trans sB).weak (by simp))).trans (sC.weak (by simp))
              refine ⟨GC, sg.trans (s6.g.trans (s7.g.trans (s8.g.trans (s9.g.trans (sA.g.trans (sB.g.trans sC.g)))))), f1.set o (fa f1 pl * here / there), ps' ++ [o], _, _, _, _, _, _, rfl, pi2, ⟨more ++ [o], by rw [hmore, List.append_assoc]⟩, ?_, ?_, stC, oB2, oC⟩
              · intro j hj
                exact keep2 pi' pi2 j (hper j hj)
              · intro k o' hk eo'
                by_cases hki : k = i
                · subst hki
                  rw [eo] at eo'
                  cases eo'
                  have := pi2.pos o (by simp)
                  omega
                · exact keep2 pi' pi2 o' (hproc k o' (by omega) eo')
        · have hnz : fa fx' o ≠ 0 := by simpa using hh
          exact ⟨G7, sg.trans (s6.g.trans s7.g), fx', ps', _, _, _, _, _, _, rfl, pi', ⟨more, hmore⟩, hper, fun k o' hk eo' => by
            by_cases hki : k = i
            · subst hki
              rw [eo] at eo'
              cases eo'
              exact hnz
            · exact hproc k o' (by omega) eo', st6.up s7, s7.own owl6, s7.own owp6⟩
      · subst hσ
        refine s_aug (Cn.two st'.i owl' owp') rfl e_int fun G6 H6 s6 => ⟨n - (at_ + 1), G6, by omega, at_ + 1, fx', ps', _, _, _, _, _, _, _, rfl, by rw [hmore, List.length_append]; omega, rfl, pi', ?_, st'.up s6, s6.own owl', s6.own owp'⟩
        intro k i hk ek j hj hc
        by_cases hka : k = at_
        · subst hka
          rw [hmore, List.getElem?_append_left hh, epl] at ek
          cases ek
          have hjm : j ∈ nearL n B pl := List.mem_filter.mpr ⟨List.mem_range.mpr hj, by simpa using hc⟩
          obtain ⟨k', ek'⟩ := List.mem_iff_getElem?.mp hjm
          exact hproc k' j (List.getElem?_eq_some_iff.mp ek').1 ek'
        · rw [hmore, List.getElem?_append_left (by omega)] at ek
          exact hper j (hcl k i (by omega) ek j hj hc)
    · have hh : at_ = ps.length := by
        have : ¬ at_ < ps.length := by simpa using hh
        omega
      have owl3 := s3.own owl
      have owp3 := s3.own owp
      have hlps : ∀ i ∈ ps, i < fx.length := fun i hi => by rw [pi.len]; exact pi.lt i hi
      obtain ⟨wdone, gpos⟩ := PI_.done wp sk h4 wi pi fun i hi j hj hc => by
        obtain ⟨k, ek⟩ := List.mem_iff_getElem?.mp hi
        exact hcl k i (by rw [hh]; exact (List.getElem?_eq_some_iff.mp ek).1) ek j hj hc
      refine q_asgI (Cn.two s3.i owl3 owp3) e_int fun G4 H4 s4 => ?_
      have owl4 := s4.own owl3
      have owp4 := s4.own owp3
      refine q_forON s4.i owp4 rfl (fun i σ' G' H' => ∃ y11 : Option V, σ' = [some vB, some (.ref l), some (vN start), some (vN n), some (.ref p), some (vN at_), y6, y7, y8, y9, y10, y11, some (vN ((ps.take i).foldl (fun g i => Nat.gcd g (fa fx i)) 0))] ∧ Stp [] G4 H4 G' H' ∧ Own G' H' p (.lst (ps.map vN)) ∧ Own G' H' l (.lst (fx.map vN)))
        ⟨_, rfl, Stp.refl s4.i, owp4, owl4⟩ (fun i σ' G' H' ⟨_, _, s, o, _⟩ => ⟨s.g, s.i, o⟩) (fun i one σ' G' H' e1 ⟨y11, hσ, sA, op, ol⟩ => ?_) (fun σ' G' H' ⟨y11, hσ, sA, op, ol⟩ => ?_)
      · subst hσ
        have h1m : one ∈ ps := List.mem_of_getElem? e1
        refine s_asgI (n := ((Nat.gcd ((ps.take i).foldl (fun g i => Nat.gcd g (fa fx i)) 0) (fa fx one) : Nat) : Int)) (Cn.two sA.i ol op) ((e_gcd (e_var rfl (.int _)) (e_fa (l := l) (fs := fx) (by simp) rfl (e_var rfl (.int _)) (hlps one h1m))).eq (by rw [Int.natAbs_natCast, Int.natAbs_natCast])) fun GB HB sB => ⟨GB, _, by rw [fold_snoc _ _ e1]; rfl, sA.trans sB, sB.own op, sB.own ol⟩
      · subst hσ
        rw [List.take_length]
        have hgc : ps.foldl (fun g i => Nat.gcd g (fa fx i)) 0 = comm fx ps := rfl
        rw [hgc]
        generalize hcm : comm fx ps = cm at wdone gpos ⊢
        refine s_forON sA.i op rfl (fun i σ' G' H' => ∃ y11 : Option V, σ' = [some vB, some (.ref l), some (vN start), some (vN n), some (.ref p), some (vN at_), y6, y7, y8, y9, y10, y11, some (vN cm)] ∧ Stp [l] G2 H2 G2 H2 ∧ (Same _ G' ∧ Stp [l] _ _ G' H') ∧ Own G' H' p (.lst (ps.map vN)) ∧ Own G' H' l (.lst ((updAt (fun x => x / cm) fx (ps.take i)).map vN)))
          ⟨_, rfl, Stp.refl st2.i, ⟨Same.refl _, Stp.refl sA.i⟩, op, ol⟩ (fun i σ' G' H' ⟨_, _, _, ⟨sg, s⟩, o, _⟩ => ⟨sg, s.i, o⟩) (fun i one σ' G' H' e1 ⟨y11, hσ, _, ⟨sg, sC⟩, op, ol⟩ => ?_) (fun σ' G' H' ⟨y11, hσ, _, ⟨sg, sC⟩, op, ol⟩ => ?_)
        · subst hσ
          have h1m : one ∈ ps := List.mem_of_getElem? e1
          have hul : one < (updAt (fun x => x / cm) fx (ps.take i)).length := by rw [updAt_len]; exact hlps one h1m
          have hcmb : cm ≤ 65536 := by
            rw [← hcm]
            have hd := (comm_dvd fx ps 0).2 start pi.st
            have h1 := Nat.le_of_dvd (pi.pos start pi.st) hd
            have h2 := bnd16 (pi.bnd start pi.st) pi.size h4
            have h3 := pi.bnd start pi.st
            have h5 : 16 ^ ps.length ≤ 16 ^ 4 := Nat.pow_le_pow_right (by decide) (by omega)
            have h6 : (16 : Nat) ^ 4 = 65536 := by decide
            have h7 : comm fx ps ≤ fa fx start := h1
            omega
          refine s_putN (x := fa (updAt (fun x => x / cm) fx (ps.take i)) one / cm) (Cn.two sC.i ol op) rfl ol ((e_I (f := fun i j => i / j) (e_fa (l := l) (fs := updAt (fun x => x / cm) fx (ps.take i)) (by simp) rfl (e_var rfl (.int _)) hul) (e_var rfl (.int _)) ⟨by omega, by rw [Int.natAbs_natCast]; exact Nat.lt_trans ((Nat.log2_lt (by omega)).mpr (show cm < 2 ^ 17 by omega)) (by decide)⟩).eq (by rw [Int.natCast_ediv])) (e_var rfl (.int _)) hul fun GB HB sB oB => ⟨GB, _, rfl, Stp.refl st2.i, ⟨sg.trans sB.g, sC.trans sB⟩, sB.ownM (by simp [hlp.symm]) op, ?_⟩
          have eu : updAt (fun x => x / cm) fx (ps.take (i + 1)) = (updAt (fun x => x / cm) fx (ps.take i)).set one (fa (updAt (fun x => x / cm) fx (ps.take i)) one / cm) := fold_snoc _ _ e1
          rw [eu]
          exact oB
        · rw [List.take_length] at ol
          have stF : Stp [l, p] G2 H2 G' H' := ((st.up (s3.trans s4)).up sA).trans (sC.weak (by simp))
          refine q _ G' H' (base.comp stF fun c hc => ?_) ol wdone
          rcases (by simpa using hc : c = l ∨ c = p) with rfl | rfl
          · exact .inl (by simp)
          · exact .inr hp1
theorem rep_nat : ∀ n : Nat, (List.replicate n [PyData.int 0]).flatten = (List.replicate n 0).map natD
  | 0 => rfl
  | n + 1 => by
    rw [List.replicate_succ, List.replicate_succ, List.flatten_cons, rep_nat n]
    rfl
theorem cal_weights_of {P : Program} {w : World} {K : PySem.W.Frag} {mg : Str → Option Value} {base : Heap} (B : Blt mg) (D : FD K mg "weights_of" st_weights_of) (c_places_in : CalG P w K mg base 1 "places_in" sp_places_in) (c_weigh_piece : CalG P w K mg base 2 "weigh_piece" sp_weigh_piece) :
    CalG P w K mg base 3 "weights_of" sp_weights_of := by
  obtain ⟨f, fd, F, hdf⟩ := D.ex
  refine calG0 (N := N_weights_of) F (F.fn.binds hdf fun _ _ _ _ _ _ us hl => match us, hl with | [_], _ => rfl) sc_weights_of (fun vs H Q E h => ?_) fun cdv A outer s H vs Q E hgu hr h => ⟨_, (pss_cons (ps_set (i := 1) nd_weights_of rfl (Or.inl rfl) (pe_cg c_places_in hgu hr (by decide) (by rfl) (pa_cons (pv 0) pa_nil)))
 (pss_cons (ps_if (pt_cmpR op_eq (pv 1) pe_int (nomark _)) (pss_one (ps_ret pe_non)) pss_nil)
 (pss_cons (ps_set (i := 2) nd_weights_of rfl (Or.inl rfl) (pe_op op_rep (pe_lst (pa_cons pe_int pa_nil)) (pv 1)))
 (pss_cons (ps_for PassesOwn.never rfl (pi_range1 (by rfl) B.range (pa_cons (pv 1) pa_nil)) (pg_name (i := 3) nd_weights_of rfl (Or.inl rfl)) (pss_one (ps_if (pt_cmpR op_eq (pe_ix (r := rIxL K) ix_list (pv 2) (pv 3) (fun _ _ => rfl)) pe_int (nomark _)) (pss_one (ps_expr (pe_cg c_weigh_piece hgu hr (by decide) (by rfl) (pa_cons (pv 0) (pa_cons (pv 2) (pa_cons (pv 3) (pa_cons (pv 1) pa_nil))))))) pss_nil)))
 (pss_cons (ps_for PassesOwn.never rfl (pi_range1 (by rfl) B.range (pa_cons (pv 1) pa_nil)) (pg_name (i := 3) nd_weights_of rfl (Or.inl rfl)) (pss_one (ps_for PassesOwn.never rfl (pi_range1 (by rfl) B.range (pa_cons (pe_op op_add (pv 3) pe_int) pa_nil)) (pg_name (i := 4) nd_weights_of rfl (Or.inl rfl)) (pss_one (ps_if (pt_cmpR op_ne (pe_op op_mulW (pe_ix (r := rIxL K) ix_list (pv 2) (pv 3) (fun _ _ => rfl)) (pe_ix (r := rIxT K) ix_tup (pe_ix (r := rIxT K) ix_tup (pv 0) (pv 3) (fun _ _ => rfl)) (pv 4) (fun _ _ => rfl))) (pe_op op_mulW (pe_un un_neg (pe_ix (r := rIxL K) ix_list (pv 2) (pv 4) (fun _ _ => rfl))) (pe_ix (r := rIxT K) ix_tup (pe_ix (r := rIxT K) ix_tup (pv 0) (pv 4) (fun _ _ => rfl)) (pv 3) (fun _ _ => rfl))) (nomark _)) (pss_one (ps_ret pe_non)) pss_nil)))))
 (pss_one (ps_ret (pe_callTy (r := rTup K) c_tup (by rfl) B.tuple bt_tuple (pa_cons (pv 2) pa_nil))))))))), ?_⟩
  · exact h.ln fun _ => rfl
  · obtain ⟨⟨B, n⟩, G, gh, dv, ok, q⟩ := h
    obtain ⟨hb, ⟨w, wp, sk⟩, sm⟩ : Ok n B := ok
    have h4 : n ≤ 4 := hb.most
    have h1 := hb.pos
    have hBn := hb.len
    obtain ⟨vB, rfl, dB⟩ := (show Das G vs [tD B] from dv).inv1
    refine q_asgI (Cn.nil gh) (e_cg (⟨B, n⟩ : AB) (a_cons (e_var rfl dB) a_nil) hb) fun G1 H1 s1 => ?_
    refine q_when (b := false) (Cn.nil s1.i) ((b_test (e_eqI (e_var rfl (.int _)) e_int)).eq (by simp; omega)) (fun hh => by cases hh) (fun _ G2 H2 s2 => ?_)
    refine q_asgL (Cn.nil s2.i) ((l_rep (ds := [.int 0]) (n := n) (l_lst (a_cons e_int a_nil) (by decide)).toD (e_var rfl (.int _)) (by simp; omega) (by omega)).eq (ds' := (List.replicate n 0).map natD) (rep_nat n)) fun l xs G3 H3 s3 hl3 o3 dx => ?_
    have hxs : xs = (List.replicate n 0).map vN := by
      have e : (List.replicate n 0).map natD = ((List.replicate n (0 : Nat)).map (fun x : Nat => (x : Int))).map PyData.int := by rw [List.map_map]; rfl
      rw [e] at dx
      rw [dx.inv_ints, List.map_map]
      rfl
    subst hxs
    have dB3 := s3.da (s2.da (s1.da dB))
    refine q_for (List.range n) natD (Cn.one s3.i o3) (i_rng (a_cons (e_var rfl (.int _)) a_nil) (by omega)) (fun G5 _ i σ' G' H' => Same G5 G' ∧ ∃ (fx : List Nat) (y3 y4 : Option V), σ' = [some vB, some (vN n), some (.ref l), y3, y4] ∧ WI n B w fx ∧ Stp [l] G3 H3 G' H' ∧ Own G' H' l (.lst (fx.map vN)))
      (fun G5 H5 s5 => ⟨Same.refl _, List.replicate n 0, _, _, rfl, WI.none n B w, s5.of0, s5.own o3⟩) (fun _ _ _ _ _ _ ⟨h, _, _, _, _, _, s, _⟩ => ⟨h, s.i⟩) (fun G5 H5 i pl σ' G' H' x G6 H6 s5 eo ⟨sg, fx, y3, y4, hσ, wi, st, ow⟩ s6 dx => ?_) (fun G5 H5 σ' G' H' s5 ⟨sg, fx, y3, y4, hσ, wi, st, ow⟩ => ?_)
    · subst hσ
      cases dx.inv_int
      have hpl : pl < n := List.mem_range.mp (List.mem_of_getElem? eo)
      have ow6 := s6.own ow
      refine s_when (b := decide (fa fx pl = 0)) (Cn.one s6.i ow6) ((b_test (e_eqI (e_fa (l := l) (fs := fx) (by simp) rfl (e_var rfl (.int _)) (by rw [wi.len]; exact hpl)) e_int)).eq (by simp)) (fun hh G7 H7 s7 => ?_) (fun hh G7 H7 s7 => ?_)
      · have hz : fa fx pl = 0 := by simpa using hh
        refine ⟨vB, rfl, .ref l, rfl, vN pl, rfl, vN n, rfl, ?_⟩
        exact ⟨B, n, w, pl, fx, G7, vB, l, rfl, s7.i, dB3.mono (st.g.trans (s6.g.trans s7.g)), s7.own ow6, ⟨hb, sm, wp, sk, hpl, wi, hz⟩, fun fs' G8 H8 s8 o8 w8 => ⟨G8, sg.trans (s6.g.trans (s7.g.trans s8.g)), fs', _, _, rfl, w8, (st.up (s6.trans s7)).trans s8, o8⟩⟩
      · exact ⟨G7, sg.trans (s6.g.trans s7.g), fx, _, _, rfl, wi, st.up (s6.trans s7), s7.own ow6⟩
    · subst hσ
      refine q_for (List.range n) natD (Cn.one st.i ow) (i_rng (a_cons (e_var rfl (.int _)) a_nil) (by omega)) (fun G5 _ i σ' G'' H'' => Same G5 G'' ∧ ∃ (y3 y4 : Option V), σ' = [some vB, some (vN n), some (.ref l), y3, y4] ∧ Stp [] G' H' G'' H'')
        (fun G6 H6 s6 => ⟨Same.refl _, _, _, rfl, s6⟩) (fun _ _ _ _ _ _ ⟨h, _, _, _, s⟩ => ⟨h, s.i⟩) (fun G6 H6 i pl σ' G7 H7 x G8 H8 s6 eo ⟨sg, y3, y4, hσ, s7⟩ s8 dx => ?_) (fun G6 H6 σ' G7 H7 s6 ⟨sg, y3, y4, hσ, s7⟩ => ?_)
      · subst hσ
        cases dx.inv_int
        have hpl : pl < n := List.mem_range.mp (List.mem_of_getElem? eo)
        have ow8 := s8.own (s7.own ow)
        refine s_forN (List.range (pl + 1)) natD (Cn.one s8.i ow8) (i_rng (a_cons ((e_I0 (f := fun i j => i + j) (e_var rfl (.int _)) e_int).eq (d' := .int ((pl + 1 : Nat) : Int)) rfl) a_nil) (by omega)) (fun G9 _ i σ' G'' H'' => Same G9 G'' ∧ ∃ (y4 : Option V), σ' = [some vB, some (vN n), some (.ref l), some (vN pl), y4] ∧ Stp [] G8 H8 G'' H'')
          (fun G9 H9 s9 => ⟨Same.refl _, _, rfl, s9⟩) (fun _ _ _ _ _ _ ⟨h, _, _, s⟩ => ⟨h, s.i⟩) (fun G9 H9 j ot σ' GA HA x GB HB s9 ej ⟨sg9, y4, hσ, sA⟩ sB dx => ?_) (fun G9 H9 σ' GA HA s9 ⟨sg9, y4, hσ, sA⟩ => ?_)
        · subst hσ
          cases dx.inv_int
          have hot : ot < n := by
            have := List.mem_range.mp (List.mem_of_getElem? ej)
            omega
          have owB := sB.own (sA.own ow8)
          have dBB : Da GB vB (tD B) := dB3.mono (st.g.trans (s7.g.trans (s8.g.trans (sA.g.trans sB.g))))
          have k1 := wi.bnd pl
          have k2 := wi.bnd ot
          have k3 := sm pl ot hpl hot
          have k4 := sm ot pl hot hpl
          have tst := wi.test wp sk hpl hot
          refine s_when (b := false) (Cn.one sB.i owB) ((b_test (e_neI (e_I (f := fun i j => i * j) (e_fa (l := l) (fs := fx) (by simp) rfl (e_var rfl (.int _)) (by rw [wi.len]; exact hpl)) (e_cell hb.rows (by omega) hot (e_var rfl dBB) (e_var rfl (.int _)) (e_var rfl (.int _))) (mulN (Int.natAbs_natCast _) rfl (by omega) (by omega)))
            (e_I (f := fun i j => i * j) (e_neg (e_fa (l := l) (fs := fx) (by simp) rfl (e_var rfl (.int _)) (by rw [wi.len]; exact hot))) (e_cell hb.rows (by omega) hpl (e_var rfl dBB) (e_var rfl (.int _)) (e_var rfl (.int _))) (mulN (by rw [Int.natAbs_neg, Int.natAbs_natCast]) rfl (by omega) (by omega))))).eq (by rw [decide_eq_true tst]; rfl)) (fun hh => by cases hh) (fun _ GC HC sC => ⟨GC, sg9.trans (sB.g.trans sC.g), _, rfl, sA.trans (sB.trans sC)⟩)
        · subst hσ
          exact ⟨GA, sg.trans (s8.g.trans sA.g), _, _, rfl, s7.trans (s8.trans sA)⟩
      · subst hσ
        have owF := s7.own ow
        refine s_ret (Cn.one s7.i owF) (e_tupleO (l := l) (by simp) rfl (das_nats _ fx)) fun v G9 H9 s9 dv => q (.tuple (fx.map natD)) v G9 H9 rfl ?_ dv
        have h12 : H l = none := s1.free (s2.free hl3)
        have f0 : Stp [] G H G3 H3 := s1.trans (s2.trans s3)
        exact f0.comp (st.up (s7.trans s9)) fun c hc => .inr (by
          have : c = l := by simpa using hc
          rw [this]
          exact h12)
end N41
/-! W7: trees. -/
namespace N41
open PySem PySem.Spec PyProof.Rows L2
abbrev sp_joined_places : Sp := SpS (fun a : AT => [tD a.T]) (fun a => Sq a.n a.T ∧ 1 ≤ a.n ∧ a.n ≤ 4) (fun a d => ∃ ds, d = .list ds ∧ ds.length = (jn a.n (adjT a.T)).2)
theorem cal_joined_places {P : Program} {w : World} {K : PySem.W.Frag} {mg : Str → Option Value} {base : Heap} (B : Blt mg) (D : FD K mg "joined_places" st_joined_places) (c_near : CalG P w K mg base 1 "near" sp_near) :
    CalG P w K mg base 2 "joined_places" sp_joined_places := by
  obtain ⟨f, fd, F, hdf⟩ := D.ex
  refine calG0 (N := N_joined_places) F (F.fn.binds hdf fun _ _ _ _ _ _ us hl => match us, hl with | [_], _ => rfl) sc_joined_places (fun vs H Q E h => ?_) fun cdv A outer s H vs Q E hgu hr h => ⟨_, (pss_cons (ps_par3 (i := 1) (j := 2) (l := 3) rfl nd_joined_places rfl rfl rfl (by decide) (by decide) (by decide) rfl rfl rfl (pa_cons (pe_callB (r := rLen K) c_len (by rfl) B.len bt_len (pa_cons (pe_ix (r := rIxT K) ix_tup (pv 0) pe_int (fun _ _ => rfl)) pa_nil)) (pa_cons (pe_lst pa_nil) (pa_cons (pe_lst pa_nil) pa_nil))) (by rfl))
 (pss_cons (ps_for PassesOwn.never rfl (pi_range1 (by rfl) B.range (pa_cons (pv 1) pa_nil)) (pg_name (i := 4) nd_joined_places rfl (Or.inl rfl)) (pss_one (ps_if (pt_cmpR (r := rIn K true) op_notIn_seq (pv 4) (pv 3) (by rfl)) (pss_cons (ps_asg (pe_tup (pa_cons (pe_lst (pa_cons (pv 4) pa_nil)) (pa_cons pe_int pa_nil))) (pg_tupK (K := K) (n := 2) rfl rfl (pgs_cons (pg_name (i := 5) nd_joined_places rfl (Or.inr rfl)) (pgs_cons (pg_name (i := 6) nd_joined_places rfl (Or.inl rfl)) pgs_nil))))
 (pss_cons (ps_while PassesOwn.never (pt_cmpR op_lt (pv 6) (pe_callB (r := rLen K) c_len (by rfl) B.len bt_len (pa_cons (pv 5) pa_nil)) (nomark _)) (pss_cons (ps_expr (pe_bm PySem.F.plainAttrs_list PySem.F.slot_list_extend PySem.F.type_list_extend mt_extend (pv 5) (pa_cons (pe_lc (own := [("other", 7)]) rfl nd_joined_places (pi_listK (K := K) rfl (pe_cg c_near hgu hr (by decide) (by rfl) (pa_cons (pv 0) (pa_cons (pe_ix (r := rIxL K) ix_list (pv 5) (pv 6) (fun _ _ => rfl)) (pa_cons (pv 1) pa_nil))))) (blkOk_by (by kernel_rfl)) (fun _ _ _ _ _ => (pg_name (i := 7) nd_joined_places rfl (Or.inl rfl))) (fun _ _ _ _ _ => (pts_one (pt_cmpR (r := rIn K true) op_notIn_seq (pv 7) (pv 5) (by rfl)))) (fun _ _ _ _ _ => (pv 7))) pa_nil)))
 (pss_one (ps_aug (i := 6) nd_joined_places rfl (Or.inl rfl) pe_int ip_add))))
 (pss_cons (ps_expr (pe_bm PySem.F.plainAttrs_list PySem.F.slot_list_extend PySem.F.type_list_extend mt_extend (pv 3) (pa_cons (pv 5) pa_nil)))
 (pss_one (ps_expr (pe_bm PySem.F.plainAttrs_list PySem.F.slot_list_append PySem.F.type_list_append mt_append (pv 2) (pa_cons (pe_callTy (r := rTup K) c_tup (by rfl) B.tuple bt_tuple (pa_cons (pe_callB (r := rSorted K) cr_sorted (by rfl) B.sorted bt_sorted (pa_cons (pv 5) pa_nil)) pa_nil)) pa_nil))))))) pss_nil)))
 (pss_one (ps_ret (pv 2))))), ?_⟩
  · exact h.ln fun _ => rfl
  · obtain ⟨⟨T, n⟩, G, gh, dv, pre, q⟩ := h
    obtain ⟨hq, h1, h4⟩ : Sq n T ∧ 1 ≤ n ∧ n ≤ 4 := pre
    have hb := hq.bd h1 h4
    obtain ⟨vT, rfl, dT⟩ := (show Das G vs [tD T] from dv).inv1
    refine q_par3DLL (Cn.nil gh) (e_row0 hb (e_var rfl dT)) (l_lst a_nil (Nat.zero_le _)) (l_lst a_nil (Nat.zero_le _)) fun v lf xsf ls xss G1 H1 s1 dv hf hs hfs of dxf os dxs => ?_
    cases dv.inv_int
    cases dxf
    cases dxs
    have dT1 := s1.da dT
    refine q_for (List.range n) natD (Cn.two s1.i of os) (i_rng (a_cons (e_var rfl (.int _)) a_nil) (by omega)) (fun G5 _ i σ' G' H' => Same G5 G' ∧ ∃ (xs : List V) (ds : List PyData) (y4 y5 y6 y7 : Option V), σ' = [some vT, some (vN n), some (.ref lf), some (.ref ls), y4, y5, y6, y7] ∧ Stp [lf, ls] G1 H1 G' H' ∧ Own G' H' lf (.lst xs) ∧ Das G' xs ds ∧ ds.length = (((List.range n).take i).foldl (jnStep n (adjT T)) ([], 0)).2 ∧ Own G' H' ls (.lst ((((List.range n).take i).foldl (jnStep n (adjT T)) ([], 0)).1.map vN)))
      (fun G5 H5 s5 => ⟨Same.refl _, [], [], _, _, _, _, rfl, s5.of0, s5.own of, .nil, rfl, s5.own os⟩) (fun _ _ _ _ _ _ ⟨h, _, _, _, _, _, _, _, s, _⟩ => ⟨h, s.i⟩) (fun G5 H5 i st_ σ' G' H' x G6 H6 s5 eo ⟨sg, xs, ds, y4, y5, y6, y7, hσ, st, owf, dx, hlen, ows⟩ s6 dxx => ?_) (fun G5 H5 σ' G' H' s5 ⟨sg, xs, ds, y4, y5, y6, y7, hσ, st, owf, dx, hlen, ows⟩ => ?_)
    · subst hσ
      cases dxx.inv_int
      have hin : i < n := by
        have := (List.getElem?_eq_some_iff.mp eo).1
        rwa [List.length_range] at this
      have hst : st_ = i := by
        rw [List.getElem?_range hin] at eo
        exact (Option.some.inj eo).symm
      subst hst
      rw [take_fold _ _ hin]
      have jb := jn_bnd n (adjT T) ((List.range n).take st_) ([], 0) fun j hj => List.mem_range.mp (List.mem_of_mem_take hj)
      rw [List.length_take, List.length_range, Nat.min_eq_left (by omega)] at jb
      generalize hS : ((List.range n).take st_).foldl (jnStep n (adjT T)) ([], 0) = S at hlen ows jb ⊢
      have jb1 : S.1.length ≤ 16 := by
        have h5 : st_ * n ≤ 4 * 4 := Nat.mul_le_mul (by omega) h4
        have h6 : S.1.length ≤ 0 + st_ * n := jb.1
        omega
      have jb2 : S.2 ≤ 4 := by
        have h6 : S.2 ≤ 0 + st_ := jb.2
        omega
      have owf6 := s6.own owf
      have ows6 := s6.own ows
      have dx6 := s6.das dx
      have dT6 : Da G6 vT (tD T) := dT1.mono (st.g.trans s6.g)
      refine s_when (b := !decide (st_ ∈ S.1)) (Cn.two s6.i owf6 ows6) ((b_test (e_inON (l := ls) (neg := true) (ns := S.1) (by simp) rfl (e_var rfl (.int _)))).eq rfl) (fun hh G7 H7 s7 => ?_) (fun hh G7 H7 s7 => ?_)
      · have hni : st_ ∉ S.1 := by simpa using hh
        have owf7 := s7.own owf6
        have ows7 := s7.own ows6
        refine q_parC (Cn.two s7.i owf7 ows7) (l_lst (a_cons (e_var rfl (.int _)) a_nil) (slack (by simp))) e_int fun v p xsp G8 H8 s8 dv hp op dxp => ?_
        cases dv.inv_int
        obtain ⟨w, rfl, dw⟩ := dxp.inv1
        cases dw.inv_int
        have op : Own G8 H8 p (.lst (([st_] : List Nat).map vN)) := op
        have owf8 := s8.own owf7
        have ows8 := s8.own ows7
        have dT8 : Da G8 vT (tD T) := dT6.mono (s7.g.trans s8.g)
        have pf : p ≠ lf := (owf7.ne hp).symm
        have ps : p ≠ ls := (ows7.ne hp).symm
        refine q_while (fun m σ' G' H' => ∃ (k : Nat) (y7 : Option V), m = n - k ∧ k ≤ n ∧ k ≤ (pcIt n (adjT T) st_ k).length ∧ σ' = [some vT, some (vN n), some (.ref lf), some (.ref ls), some (vN st_), some (.ref p), some (vN k), y7] ∧ Stp [p] G8 H8 G' H' ∧ Own G' H' p (.lst ((pcIt n (adjT T) st_ k).map vN))) n
          ⟨0, _, by omega, by omega, by omega, rfl, Stp.refl s8.i, op⟩ ?_
        rintro m σ' G9 H9 ⟨k, y7, rfl, hkn, hkl, rfl, st9, op9⟩
        obtain ⟨pnd, plt⟩ := pcIt_ok (a := adjT T) hin k
        have plen := pcIt_len (a := adjT T) hin k
        have owf9 := st9.ownM (by simp; exact pf.symm) owf8
        have ows9 := st9.ownM (by simp; exact ps.symm) ows8
        refine ⟨_, decide (k < (pcIt n (adjT T) st_ k).length), Cn.three st9.i op9 owf9 ows9, (b_test (e_B0 (f := fun i j => decide (i < j)) (e_var rfl (.int _)) (e_lenO (l := p) (xs := (pcIt n (adjT T) st_ k).map vN) (by simp) rfl (by rw [List.length_map])))).eq (by simp), fun hh GA HA sA => ?_, fun hh GA HA sA => ?_⟩
        · have hh : k < (pcIt n (adjT T) st_ k).length := by simpa using hh
          obtain ⟨pl, epl⟩ := get_of hh
          have hpl : pl < n := plt pl (List.mem_of_getElem? epl)
          have opA := sA.own op9
          have dTA : Da GA vT (tD T) := dT8.mono (st9.g.trans sA.g)
          have eS : pcIt n (adjT T) st_ (k + 1) = pcIt n (adjT T) st_ k ++ (nrA n (adjT T) pl).filter fun o => !decide (o ∈ pcIt n (adjT T) st_ k) := by
            show pcStep n (adjT T) k (pcIt n (adjT T) st_ k) = _
            unfold pcStep
            rw [epl]
          have l2 : ((nrA n (adjT T) pl).filter fun o => !decide (o ∈ pcIt n (adjT T) st_ k)).length ≤ 4 := by
            refine Nat.le_trans (List.length_filter_le _ _) (Nat.le_trans (List.length_filter_le _ _) ?_)
            rw [List.length_range]
            exact h4
          refine q_extN (fs := pcIt n (adjT T) st_ k) (gs := (nrA n (adjT T) pl).filter fun o => !decide (o ∈ pcIt n (adjT T) st_ k)) (Cn.one sA.i opA) rfl opA ((l_lcN (j := 7) (nrA n (adjT T) pl) natD (fun o => !decide (o ∈ pcIt n (adjT T) st_ k)) natD (i_list ((l_cg (⟨T, n, pl⟩ : ABp) (a_cons (e_var rfl dTA) (a_cons (e_ixO (l := p) (xs := (pcIt n (adjT T) st_ k).map vN) (by simp) rfl (das_nats _ _) (e_var rfl (.int _)) (nat_get epl)) (a_cons (e_var rfl (.int _)) a_nil))) ⟨hb, hpl⟩).toD)) (small ?_) (fun _ => rfl) fun o G3 x ho e3 dx => ?_).toD) (slack (by omega)) fun GB HB stB opB => ?_
          · refine Nat.lt_of_le_of_lt (List.length_filter_le _ _) ?_
            rw [List.length_range]
            omega
          · cases dx.inv_int
            exact ⟨(b_test (e_inON (l := p) (neg := true) (ns := pcIt n (adjT T) st_ k) (by simp) rfl (e_var rfl (.int _)))).eq rfl, fun _ => e_var rfl (.int _)⟩
          · rw [← eS] at opB
            refine s_aug (Cn.one stB.i opB) rfl e_int fun GC HC sC => ⟨n - (k + 1), GC, by omega, k + 1, _, rfl, by omega, ?_, rfl, (st9.up sA).trans (stB.up sC), sC.own opB⟩
            rw [eS, List.length_append]
            omega
        · have hk : (pcIt n (adjT T) st_ k).length ≤ k := by
            have : ¬ k < (pcIt n (adjT T) st_ k).length := by simpa using hh
            omega
          have ep : pcIt n (adjT T) st_ n = pcIt n (adjT T) st_ k := pc_end hkn hk
          have opA := sA.own op9
          have owfA := sA.own owf9
          have owsA := sA.own ows9
          refine q_extO' (l := ls) (l' := p) (fs := S.1) (gs := pcIt n (adjT T) st_ k) rfl owsA rfl opA sA.i (slack (by omega)) fun HB stB owsB => ?_
          have opB := stB.ownM (by simp [ps]) opA
          have owfB := stB.ownM (by simp [hfs]) owfA
          refine s_appS (Cn.two stB.i owfB opB) rfl owfB (es_tupSorted (l := p) (ns := pcIt n (adjT T) st_ k) (by simp) rfl (by omega)) (small ?_) fun d v GC HC hd sC dv stC owfC => ?_
          · rw [dx.length, hlen]
            omega
          · have dxC : Das GC xs ds := (((s8.das (s7.das dx6)).mono st9.g).mono sA.g).mono sC.g
            have hne : jnStep n (adjT T) S st_ = (S.1 ++ pcIt n (adjT T) st_ k, S.2 + 1) := by
              unfold jnStep
              rw [if_neg hni, ep]
            rw [hne]
            have t1 : Stp [lf, ls] G1 H1 G8 H8 := st.up (s6.trans (s7.trans s8))
            have t2 : Stp [lf, ls, p] G8 H8 GA HA := (st9.up sA).weak (by simp)
            have t3 : Stp [lf, ls] G1 H1 GA HA := (st.up (s6.trans s7)).comp (s8.of0.trans t2) fun c hc => by
              rcases (by simpa using hc : c = lf ∨ c = ls ∨ c = p) with z | z | z
              · exact .inl (by simp [z])
              · exact .inl (by simp [z])
              · rw [z]; exact .inr ((st.up (s6.trans s7)).free hp)
            refine ⟨GC, sg.trans (s6.g.trans (s7.g.trans (s8.g.trans (st9.g.trans (sA.g.trans sC.g))))), xs ++ [v], ds ++ [d], _, _, _, _, rfl, (t3.trans (stB.weak (by simp))).trans (stC.weak (by simp)), owfC, dxC.snoc dv, by rw [List.length_append, hlen]; rfl, ?_⟩
            exact (sC.own owsB).putN hfs.symm
      · have hin2 : st_ ∈ S.1 := by simpa using hh
        have hne : jnStep n (adjT T) S st_ = S := by
          unfold jnStep
          rw [if_pos hin2]
        rw [hne]
        exact ⟨G7, sg.trans (s6.g.trans s7.g), xs, ds, _, _, _, _, rfl, st.up (s6.trans s7), s7.own owf6, s7.das dx6, hlen, s7.own ows6⟩
    · subst hσ
      have et : (List.range n).take (List.range n).length = List.range n := List.take_length
      rw [et] at hlen
      have k1 := Own.know st.i owf
      have sF : Stp [] G H G' H' := s1.comp st fun c hc => by
        rcases (by simpa using hc : c = lf ∨ c = ls) with z | z
        · rw [z]; exact .inr hf
        · rw [z]; exact .inr hs
      exact s_retO (Cn.nil k1.1) rfl (q (.list ds) (.ref lf) (upd G' lf (.lst xs)) H' ⟨ds, rfl, hlen⟩ (sF.know owf hf) (.lst upd_same (dx.mono k1.2)))
abbrev sp_is_tree_table : Sp := SpF (fun a : AT => [tD a.T]) (fun a => Sq a.n a.T ∧ 1 ≤ a.n ∧ a.n ≤ 4) (fun a => .bool (progTree a.n (adjT a.T)))
theorem cal_is_tree_table {P : Program} {w : World} {K : PySem.W.Frag} {mg : Str → Option Value} {base : Heap} (B : Blt mg) (D : FD K mg "is_tree_table" st_is_tree_table) (c_joined_places : CalG P w K mg base 2 "joined_places" sp_joined_places) :
    CalG P w K mg base 3 "is_tree_table" sp_is_tree_table := by
  obtain ⟨f, fd, F, hdf⟩ := D.ex
  refine calG0 (N := N_is_tree_table) F (F.fn.binds hdf fun _ _ _ _ _ _ us hl => match us, hl with | [_], _ => rfl) sc_is_tree_table (fun vs H Q E h => ?_) fun cdv A outer s H vs Q E hgu hr h => ⟨_, (pss_cons (ps_setLc2 (i := 1) (own := [("at", 2), ("to", 3)]) (vs1 := [3]) rfl nd_is_tree_table rfl rfl (sw_true rfl rfl rfl (by kernel_rfl)) (pi_range1 (by rfl) B.range (pa_cons (pe_callB (r := rLen K) c_len (by rfl) B.len bt_len (pa_cons (pv 0) pa_nil)) pa_nil)) (blkOk_by (by kernel_rfl)) (by decide) (fun _ _ _ _ _ => (pg_name (i := 2) nd_is_tree_table rfl (Or.inl rfl))) (fun _ _ _ _ _ => pts_nil) (fun _ _ _ _ _ => (pi_range1 (by rfl) B.range (pa_cons (pv 2) pa_nil))) (fun _ _ _ _ _ => (pg_name (i := 3) nd_is_tree_table rfl (Or.inl rfl))) (fun _ _ _ _ _ => (pts_one (pt_cmpR op_ne (pe_ix (r := rIxT K) ix_tup (pe_ix (r := rIxT K) ix_tup (pv 0) (pv 2) (fun _ _ => rfl)) (pv 3) (fun _ _ => rfl)) pe_int (nomark _)))) (fun _ _ _ _ _ => (pe_tup (pa_cons (pv 2) (pa_cons (pv 3) pa_nil)))))
 (pss_one (ps_ret (pe_and (pe_cmpR op_eq (pe_callB (r := rLen K) c_len (by rfl) B.len bt_len (pa_cons (pe_cg c_joined_places hgu hr (by decide) (by rfl) (pa_cons (pv 0) pa_nil)) pa_nil)) pe_int (nomark _)) (pe_one (pe_cmpR op_eq (pe_callB (r := rLen K) c_len (by rfl) B.len bt_len (pa_cons (pv 1) pa_nil)) (pe_op op_sub (pe_callB (r := rLen K) c_len (by rfl) B.len bt_len (pa_cons (pv 0) pa_nil)) pe_int) (nomark _))))))), ?_⟩
  · exact h.ln fun _ => rfl
  · obtain ⟨⟨T, n⟩, G, gh, dv, pre, q⟩ := h
    obtain ⟨hq, h1, h4⟩ : Sq n T ∧ 1 ≤ n ∧ n ≤ 4 := pre
    have hb := hq.bd h1 h4
    obtain ⟨vT, rfl, dT⟩ := (show Das G vs [tD T] from dv).inv1
    have hlT : (T.map rD).length = n := by rw [List.length_map, hq.len]
    refine q_asgL (Cn.nil gh) (l_lc2N (j := 2) (j1 := 3) (ws1 := [3]) (List.range n) natD (fun i => List.range i) natD (fun i j => adjT T i j) (fun i j => .tuple [natD i, natD j]) (i_rng (a_cons (e_lenT (e_var rfl dT) hlT) a_nil) (by omega)) ?_ (fun _ => rfl) (fun _ _ => rfl) (fun i G3 x hi e3 dx => ?_) (fun i o G3 x y hi ho e3 dx dy => ?_)) fun l xs G1 H1 s1 hl o1 dxs => ?_
    · have : ∀ n, n ≤ 4 → ((List.range n).flatMap fun i => List.range i).length < 1000 := by decide
      exact small (this n h4)
    · cases dx.inv_int
      have := List.mem_range.mp hi
      exact i_rng (a_cons (e_var rfl (.int _)) a_nil) (by omega)
    · cases dx.inv_int
      cases dy.inv_int
      have h5 := List.mem_range.mp hi
      have h6 := List.mem_range.mp ho
      exact ⟨b_test (e_neI (e_cell hq.rows (by rw [hq.len]; exact h5) (by omega) (e_var rfl (dT.mono e3)) (e_var rfl (.int _)) (e_var rfl (.int _))) e_int), fun _ => e_tup (a_cons (e_var rfl (.int _)) (a_cons (e_var rfl (.int _)) a_nil)) (slack (by simp))⟩
    · have hxl : xs.length = prs n (adjT T) := by
        rw [dxs.length, List.length_flatMap]
        unfold prs
        rw [List.length_flatMap]
        congr 1
        apply List.map_congr_left
        intro i _
        rw [List.length_map]
      have dT1 := s1.da dT
      refine s_ret (Cn.one s1.i o1) ((e_andV (p := decide ((jn n (adjT T)).2 = 1)) (k := decide (prs n (adjT T) = n - 1)) ((e_eqI' (x := (jn n (adjT T)).2) (es_len (es_cg (⟨T, n⟩ : AT) (a_cons (e_var rfl dT1) a_nil) ⟨hq, h1, h4⟩)) e_int).eq ?_) fun _ => (e_eqI (e_lenO (l := l) (xs := xs) (by simp) rfl hxl) (e_I0 (f := fun i j => i - j) (e_lenT (e_var rfl dT1) hlT) e_int)).eq ?_)) fun v G2 H2 s2 dv => q v G2 H2 (s1.trans s2) dv
      · congr 1
        by_cases z : (jn n (adjT T)).2 = 1
        · rw [decide_eq_true z, decide_eq_true (by omega)]
        · rw [decide_eq_false z, decide_eq_false (by omega)]
      · congr 1
        by_cases z : prs n (adjT T) = n - 1
        · rw [decide_eq_true z, decide_eq_true (by omega)]
        · rw [decide_eq_false z, decide_eq_false (by omega)]
abbrev sp_is_tree : Sp := SpF (fun a : AB => [tD a.B]) (fun a => Ok a.n a.B) (fun a => .bool (progTree a.n (adjT (a.B.take a.n))))
theorem cal_is_tree {P : Program} {w : World} {K : PySem.W.Frag} {mg : Str → Option Value} {base : Heap} (B : Blt mg) (D : FD K mg "is_tree" st_is_tree) (c_checked_board : CalG P w K mg base 4 "checked_board" sp_checked_board) (c_is_tree_table : CalG P w K mg base 3 "is_tree_table" sp_is_tree_table) (c_table_of : CalG P w K mg base 1 "table_of" sp_table_of) :
    CalG P w K mg base 5 "is_tree" sp_is_tree := by
  obtain ⟨f, fd, F, hdf⟩ := D.ex
  refine calG0 (N := N_is_tree) F (F.fn.binds hdf fun _ _ _ _ _ _ us hl => match us, hl with | [_], _ => rfl) sc_is_tree (fun vs H Q E h => ?_) fun cdv A outer s H vs Q E hgu hr h => ⟨_, (pss_cons (ps_expr (pe_cg c_checked_board hgu hr (by decide) (by rfl) (pa_cons (pv 0) pa_nil)))
 (pss_one (ps_ret (pe_cg c_is_tree_table hgu hr (by decide) (by rfl) (pa_cons (pe_cg c_table_of hgu hr (by decide) (by rfl) (pa_cons (pv 0) pa_nil)) pa_nil))))), ?_⟩
  · exact h.ln fun _ => rfl
  · obtain ⟨⟨B, n⟩, G, gh, dv, ok, q⟩ := h
    have ok : Ok n B := ok
    obtain ⟨vB, rfl, dB⟩ := (show Das G vs [tD B] from dv).inv1
    refine q_drop (Cn.nil gh) (e_cg (⟨B, n⟩ : AB) (a_cons (e_var rfl dB) a_nil) ok) fun G1 H1 s1 => ?_
    exact s_ret (Cn.nil s1.i) (e_cg (⟨B.take n, n⟩ : AT) (a_cons (e_cg (⟨B, n⟩ : AB) (a_cons (e_var rfl (s1.da dB)) a_nil) ok.bd) a_nil) ⟨ok.bd.top, ok.bd.pos, ok.bd.most⟩) fun v G4 H4 s4 dv => q v G4 H4 (s1.trans s4) dv
end N41
/-! W8: the law's trees and rounds; far tables. -/
namespace N41
open PySem PySem.Spec PyProof.Rows L2
theorem shaped_ints {α : Type} (f : α → Int) (M : List α) : SeqAt.shaped (.list (M.map fun a => .int (f a))) = true := by
  have k : PyData.canLayAll0 (M.map fun a => PyData.int (f a)) = true ∧ PyData.depthAll (M.map fun a => PyData.int (f a)) = 0 := by
    induction M with
    | nil => exact ⟨rfl, rfl⟩
    | cons x L ih => simp [PyData.canLayAll0, PyData.canLay0, PyData.depthAll, PyData.depth, ih]
  unfold SeqAt.shaped
  simp [PyData.canLay0, PyData.depth, k]
abbrev sp__law_is_tree : Sp := SpF (fun a : AT => [tD a.T]) (fun a => Sq a.n a.T ∧ 1 ≤ a.n ∧ a.n ≤ 4) (fun a => .bool (lawTree a.n (adjT a.T)))
theorem cal__law_is_tree {P : Program} {w : World} {K : PySem.W.Frag} {mg : Str → Option Value} {base : Heap} (B : Blt mg) (D : FD K mg "_law_is_tree" st__law_is_tree) :
    CalG P w K mg base 1 "_law_is_tree" sp__law_is_tree := by
  obtain ⟨f, fd, F, hdf⟩ := D.ex
  refine calG0 (N := N__law_is_tree) F (F.fn.binds hdf fun _ _ _ _ _ _ us hl => match us, hl with | [_], _ => rfl) sc__law_is_tree (fun vs H Q E h => ?_) fun cdv A outer s H vs Q E hgu hr h => ⟨_, (pss_cons (ps_par (i := 1) (j := 2) rfl nd__law_is_tree rfl rfl (by decide) rfl rfl (pa_cons (pe_lst (pa_cons pe_int pa_nil)) (pa_cons pe_int pa_nil)) (by rfl))
 (pss_cons (ps_for PassesOwn.never rfl (pi_range1 (by rfl) B.range (pa_cons (pe_callB (r := rLen K) c_len (by rfl) B.len bt_len (pa_cons (pv 0) pa_nil)) pa_nil)) (pg_name (i := 3) nd__law_is_tree rfl (Or.inl rfl)) (pss_one (ps_for PassesOwn.never rfl (pi_range1 (by rfl) B.range (pa_cons (pe_callB (r := rLen K) c_len (by rfl) B.len bt_len (pa_cons (pv 0) pa_nil)) pa_nil)) (pg_name (i := 4) nd__law_is_tree rfl (Or.inr rfl)) (pss_one (ps_if (PW.pt (pw_and (pt_cmpR (r := rIn K true) op_notIn_seq (pv 4) (pv 1) (by rfl)) (pw_and1 (pt_cmpR (r := rNeD K) (op_neD hr.units) (pe_lc (own := [("_law_to", 5)]) rfl nd__law_is_tree (pi_listK (K := K) rfl (pv 1)) (blkOk_by (by kernel_rfl)) (fun _ _ _ _ _ => (pg_name (i := 5) nd__law_is_tree rfl (Or.inl rfl))) (fun _ _ _ _ _ => (pts_one (pt_cmpR op_ne (pe_ix (r := rIxT K) ix_tup (pe_ix (r := rIxT K) ix_tup (pv 0) (pv 4) (fun _ _ => rfl)) (pv 5) (fun _ _ => rfl)) pe_int (nomark _)))) (fun _ _ _ _ _ => pe_int)) (pe_lst pa_nil) (nomark _))))) (pss_one (ps_expr (pe_bm PySem.F.plainAttrs_list PySem.F.slot_list_append PySem.F.type_list_append mt_append (pv 1) (pa_cons (pv 4) pa_nil)))) pss_nil)))))
 (pss_cons (ps_for PassesOwn.never rfl (pi_range1 (by rfl) B.range (pa_cons (pe_callB (r := rLen K) c_len (by rfl) B.len bt_len (pa_cons (pv 0) pa_nil)) pa_nil)) (pg_name (i := 4) nd__law_is_tree rfl (Or.inr rfl)) (pss_one (ps_set (i := 2) nd__law_is_tree rfl (Or.inl rfl) (pe_op op_add (pv 2) (pe_callB (r := rLen K) c_len (by rfl) B.len bt_len (pa_cons (pe_lc (own := [("_law_to", 5)]) rfl nd__law_is_tree (pi_range1 (by rfl) B.range (pa_cons (pv 4) pa_nil)) (blkOk_by (by kernel_rfl)) (fun _ _ _ _ _ => (pg_name (i := 5) nd__law_is_tree rfl (Or.inl rfl))) (fun _ _ _ _ _ => (pts_one (pt_cmpR op_ne (pe_ix (r := rIxT K) ix_tup (pe_ix (r := rIxT K) ix_tup (pv 0) (pv 4) (fun _ _ => rfl)) (pv 5) (fun _ _ => rfl)) pe_int (nomark _)))) (fun _ _ _ _ _ => pe_int)) pa_nil))))))
 (pss_one (ps_ret (pe_and (pe_cmpR op_eq (pe_callB (r := rLen K) c_len (by rfl) B.len bt_len (pa_cons (pv 1) pa_nil)) (pe_callB (r := rLen K) c_len (by rfl) B.len bt_len (pa_cons (pv 0) pa_nil)) (nomark _)) (pe_one (pe_cmpR op_eq (pv 2) (pe_op op_sub (pe_callB (r := rLen K) c_len (by rfl) B.len bt_len (pa_cons (pv 0) pa_nil)) pe_int) (nomark _))))))))), ?_⟩
  · exact h.ln fun _ => rfl
  · obtain ⟨⟨T, n⟩, G, gh, dv, pre, q⟩ := h
    obtain ⟨hq, h1, h4⟩ : Sq n T ∧ 1 ≤ n ∧ n ≤ 4 := pre
    obtain ⟨vT, rfl, dT⟩ := (show Das G vs [tD T] from dv).inv1
    have hlT : (T.map rD).length = n := by rw [List.length_map, hq.len]
    refine q_parLD (Cn.nil gh) (l_lst (a_cons e_int a_nil) (by decide)) e_int fun v l xs G1 H1 s1 d1 hl o1 dx => ?_
    cases d1.inv_int
    obtain ⟨w, rfl, dw⟩ := dx.inv1
    cases dw.inv_int
    have o1 : Own G1 H1 l (.lst ((lm n (adjT T) 0).map vN)) := o1
    have dT1 := s1.da dT
    refine q_for (List.range n) natD (Cn.one s1.i o1) (i_rng (a_cons (e_lenT (e_var rfl dT1) hlT) a_nil) (by omega)) (fun G5 _ i σ' G' H' => Same G5 G' ∧ ∃ (y3 y4 y5 : Option V), σ' = [some vT, some (.ref l), some (.int 0), y3, y4, y5] ∧ Stp [l] G1 H1 G' H' ∧ Own G' H' l (.lst ((lm n (adjT T) i).map vN)))
      (fun G5 H5 s5 => ⟨Same.refl _, _, _, _, rfl, s5.of0, s5.own o1⟩) (fun _ _ _ _ _ _ ⟨h, _, _, _, _, s, _⟩ => ⟨h, s.i⟩) (fun G5 H5 i tn σ' G' H' x G6 H6 s5 eo ⟨sg, y3, y4, y5, hσ, st, ow⟩ s6 dxx => ?_) (fun G5 H5 σ' G' H' s5 ⟨sg, y3, y4, y5, hσ, st, ow⟩ => ?_)
    · subst hσ
      have ow6 := s6.own ow
      have dT6 : Da G6 vT (tD T) := dT1.mono (st.g.trans s6.g)
      obtain ⟨mnd, mlt⟩ := lmIt_ok h1 (adjT T) i
      refine s_forN (List.range n) natD (Cn.one s6.i ow6) (i_rng (a_cons (e_lenT (e_var rfl dT6) hlT) a_nil) (by omega)) (fun G7 _ j σ' G'' H'' => Same G7 G'' ∧ ∃ (y4 y5 : Option V), σ' = [some vT, some (.ref l), some (.int 0), some x, y4, y5] ∧ Stp [l] G6 H6 G'' H'' ∧ Own G'' H'' l (.lst ((((List.range n).take j).foldl (lmStep (adjT T)) (lm n (adjT T) i)).map vN)))
        (fun G7 H7 s7 => ⟨Same.refl _, _, _, rfl, s7.of0, s7.own ow6⟩) (fun _ _ _ _ _ _ ⟨h, _, _, _, s, _⟩ => ⟨h, s.i⟩) (fun G7 H7 j at_ σ' G8 H8 x2 G9 H9 s7 ej ⟨sg7, y4, y5, hσ, st8, ow8⟩ s9 dx2 => ?_) (fun G7 H7 σ' G8 H8 s7 ⟨sg7, y4, y5, hσ, st8, ow8⟩ => ?_)
      · subst hσ
        cases dx2.inv_int
        have hjn : j < n := by
          have := (List.getElem?_eq_some_iff.mp ej).1
          rwa [List.length_range] at this
        have hja : at_ = j := by
          rw [List.getElem?_range hjn] at ej
          exact (Option.some.inj ej).symm
        subst hja
        rw [take_fold _ _ hjn]
        obtain ⟨fnd, flt⟩ := lm_ok n (adjT T) ((List.range n).take at_) (lm n (adjT T) i) mnd mlt fun i hi => List.mem_range.mp (List.mem_of_mem_take hi)
        generalize hM : ((List.range n).take at_).foldl (lmStep (adjT T)) (lm n (adjT T) i) = M at ow8 fnd flt ⊢
        have hMl := pigeon n M fnd flt
        have ow9 := s9.own ow8
        have dT9 : Da G9 vT (tD T) := dT6.mono (st8.g.trans s9.g)
        have hst : lmStep (adjT T) M at_ = if (!decide (at_ ∈ M) && !(M.filter fun t => adjT T at_ t).isEmpty) = true then M ++ [at_] else M := rfl
        refine s_when (b := (!decide (at_ ∈ M) && !(M.filter fun t => adjT T at_ t).isEmpty)) (Cn.one s9.i ow9) (b_and ((b_test (e_inON (l := l) (neg := true) (ns := M) (by simp) rfl (e_var rfl (.int _)))).eq rfl) fun _ => (b_test (e_neD ((l_lcO (l := l) (xs := M.map vN) (j := 5) M natD (fun t => adjT T at_ t) (fun _ => .int 1) (by simp) rfl (das_nats _ M) (small (by omega)) (fun _ => rfl) fun t G3 x ht e3 dx => ?_).toD) ((l_lst a_nil (by decide)).toD) (shaped_ints (fun _ => 1) _) rfl)).eq (by rw [eqv_nil_list, List.isEmpty_map])) (fun hh GA HA sA => ?_) (fun hh GA HA sA => ?_)
        · cases dx.inv_int
          exact ⟨b_test (e_neI (e_cell hq.rows (by rw [hq.len]; exact hjn) (flt t ht) (e_var rfl (dT9.mono e3)) (e_var rfl (.int _)) (e_var rfl (.int _))) e_int), fun _ => e_int⟩
        · refine s_appN (Cn.one sA.i (sA.own ow9)) rfl (sA.own ow9) (e_var rfl (.int _)) (small (by omega)) fun GB HB stB oB => ⟨GB, sg7.trans (s9.g.trans (sA.g.trans stB.g)), _, _, rfl, (st8.up (s9.trans sA)).trans stB, ?_⟩
          rw [hst, if_pos hh]
          exact oB
        · refine ⟨GA, sg7.trans (s9.g.trans sA.g), _, _, rfl, st8.up (s9.trans sA), ?_⟩
          rw [hst, if_neg (by rw [hh]; exact Bool.false_ne_true)]
          exact sA.own ow9
      · subst hσ
        have et : (List.range n).take (List.range n).length = List.range n := List.take_length
        rw [et] at ow8
        exact ⟨G8, sg.trans (s6.g.trans st8.g), _, _, _, rfl, (st.up s6).trans st8, ow8⟩
    · subst hσ
      rw [List.length_range] at ow
      have dT2 : Da G' vT (tD T) := dT1.mono st.g
      refine q_for (List.range n) natD (Cn.one st.i ow) (i_rng (a_cons (e_lenT (e_var rfl dT2) hlT) a_nil) (by omega)) (fun G7 _ j σ' G'' H'' => Same G7 G'' ∧ ∃ (y4 y5 : Option V), σ' = [some vT, some (.ref l), some (.int ((((List.range n).take j).foldl (fun s i => s + ((List.range i).filter fun j => adjT T i j).length) 0 : Nat) : Int)), y3, y4, y5] ∧ Stp [] G' H' G'' H'')
        (fun G7 H7 s7 => ⟨Same.refl _, _, _, rfl, s7⟩) (fun _ _ _ _ _ _ ⟨h, _, _, _, s⟩ => ⟨h, s.i⟩) (fun G7 H7 j at_ σ' G8 H8 x2 G9 H9 s7 ej ⟨sg7, y4, y5, hσ, st8⟩ s9 dx2 => ?_) (fun G7 H7 σ' G8 H8 s7 ⟨sg7, y4, y5, hσ, st8⟩ => ?_)
      · subst hσ
        cases dx2.inv_int
        have hjn : j < n := by
          have := (List.getElem?_eq_some_iff.mp ej).1
          rwa [List.length_range] at this
        have hja : at_ = j := by
          rw [List.getElem?_range hjn] at ej
          exact (Option.some.inj ej).symm
        subst hja
        rw [take_fold _ _ hjn]
        generalize ((List.range n).take at_).foldl (fun s i => s + ((List.range i).filter fun j => adjT T i j).length) 0 = S
        have dT9 : Da G9 vT (tD T) := dT2.mono (st8.g.trans s9.g)
        refine s_asgI (n := ((S + ((List.range at_).filter fun j => adjT T at_ j).length : Nat) : Int)) (Cn.nil s9.i) ((e_I0 (f := fun i j => i + j) (e_var rfl (.int _)) (e_lenL (l_lcN (j := 5) (List.range at_) natD (fun t => adjT T at_ t) (fun _ => .int 1) (i_rng (a_cons (e_var rfl (.int _)) a_nil) (by omega)) (small (by rw [List.length_range]; omega)) (fun _ => rfl) fun t G3 x ht e3 dx => ?_).toD (List.length_map _))).eq (by rw [Int.natCast_add])) fun GA HA sA => ⟨GA, sg7.trans (s9.g.trans sA.g), _, _, rfl, st8.trans (s9.trans sA)⟩
        cases dx.inv_int
        have htn := List.mem_range.mp ht
        exact ⟨b_test (e_neI (e_cell hq.rows (by rw [hq.len]; exact hjn) (by omega) (e_var rfl (dT9.mono e3)) (e_var rfl (.int _)) (e_var rfl (.int _))) e_int), fun _ => e_int⟩
      · subst hσ
        have et : (List.range n).take (List.range n).length = List.range n := List.take_length
        rw [et]
        have ow8 := st8.own ow
        have dT8 : Da G8 vT (tD T) := dT2.mono st8.g
        refine s_ret (Cn.one st8.i ow8) ((e_andV (p := decide ((lm n (adjT T) n).length = n)) (k := decide (lprs n (adjT T) = n - 1)) ((e_eqI (e_lenO (l := l) (xs := (lm n (adjT T) n).map vN) (by simp) rfl (List.length_map _)) (e_lenT (e_var rfl dT8) hlT)).eq ?_) fun _ => (e_eqI (e_var rfl (.int _)) (e_I0 (f := fun i j => i - j) (e_lenT (e_var rfl dT8) hlT) e_int)).eq ?_)) fun v G2 H2 s2 dv => q v G2 H2 ?_ dv
        · congr 1
          simp [Int.ofNat_inj]
        · congr 1
          have : lprs n (adjT T) = (List.range n).foldl (fun s i => s + ((List.range i).filter fun j => adjT T i j).length) 0 := rfl
          rw [← this]
          by_cases z : lprs n (adjT T) = n - 1
          · rw [decide_eq_true z, decide_eq_true (by omega)]
          · rw [decide_eq_false z, decide_eq_false (by omega)]
        · refine Stp.trans (s1.comp st fun c hc => ?_) (st8.trans s2)
          have z : c = l := by simpa using hc
          rw [z]; exact .inr hl
abbrev sp__law_goes_round : Sp := SpF (fun a : AT => [tD a.T]) (fun a => Sq a.n a.T ∧ 1 ≤ a.n ∧ a.n ≤ 4) (fun a => .bool (goesR a.n (posT a.T)))
theorem cal__law_goes_round {P : Program} {w : World} {K : PySem.W.Frag} {mg : Str → Option Value} {base : Heap} (B : Blt mg) (D : FD K mg "_law_goes_round" st__law_goes_round) :
    CalG P w K mg base 1 "_law_goes_round" sp__law_goes_round := by
  obtain ⟨f, fd, F, hdf⟩ := D.ex
  refine calG0 (N := N__law_goes_round) F (F.fn.binds hdf fun _ _ _ _ _ _ us hl => match us, hl with | [_], _ => rfl) sc__law_goes_round (fun vs H Q E h => ?_) fun cdv A outer s H vs Q E hgu hr h => ⟨_, (pss_cons (ps_for PassesOwn.never rfl (pi_range1 (by rfl) B.range (pa_cons (pe_callB (r := rLen K) c_len (by rfl) B.len bt_len (pa_cons (pv 0) pa_nil)) pa_nil)) (pg_name (i := 1) nd__law_goes_round rfl (Or.inr rfl)) (pss_cons (ps_set (i := 2) nd__law_goes_round rfl (Or.inr rfl) (pe_lc (own := [("_law_to", 3)]) rfl nd__law_goes_round (pi_range1 (by rfl) B.range (pa_cons (pe_callB (r := rLen K) c_len (by rfl) B.len bt_len (pa_cons (pv 0) pa_nil)) pa_nil)) (blkOk_by (by kernel_rfl)) (fun _ _ _ _ _ => (pg_name (i := 3) nd__law_goes_round rfl (Or.inl rfl))) (fun _ _ _ _ _ => (pts_one (pt_cmpR op_gt (pe_ix (r := rIxT K) ix_tup (pe_ix (r := rIxT K) ix_tup (pv 0) (pv 1) (fun _ _ => rfl)) (pv 3) (fun _ _ => rfl)) pe_int (nomark _)))) (fun _ _ _ _ _ => (pv 3))))
 (pss_cons (ps_for PassesOwn.never rfl (pi_range1 (by rfl) B.range (pa_cons (pe_callB (r := rLen K) c_len (by rfl) B.len bt_len (pa_cons (pv 0) pa_nil)) pa_nil)) (pg_name (i := 4) nd__law_goes_round rfl (Or.inl rfl)) (pss_one (ps_for PassesOwn.never rfl (pi_listK (K := K) rfl (pe_callTy (r := rList K) c_list (by rfl) B.list bt_list (pa_cons (pv 2) pa_nil))) (pg_name (i := 5) nd__law_goes_round rfl (Or.inr rfl)) (pss_one (ps_expr (pe_bm PySem.F.plainAttrs_list PySem.F.slot_list_extend PySem.F.type_list_extend mt_extend (pv 2) (pa_cons (pe_lc (own := [("_law_to", 3)]) rfl nd__law_goes_round (pi_range1 (by rfl) B.range (pa_cons (pe_callB (r := rLen K) c_len (by rfl) B.len bt_len (pa_cons (pv 0) pa_nil)) pa_nil)) (blkOk_by (by kernel_rfl)) (fun _ _ _ _ _ => (pg_name (i := 3) nd__law_goes_round rfl (Or.inl rfl))) (fun _ _ _ _ _ => (pts_one (PW.pt (pw_and (pt_cmpR op_gt (pe_ix (r := rIxT K) ix_tup (pe_ix (r := rIxT K) ix_tup (pv 0) (pv 5) (fun _ _ => rfl)) (pv 3) (fun _ _ => rfl)) pe_int (nomark _)) (pw_and1 (pt_cmpR (r := rIn K true) op_notIn_seq (pv 3) (pv 2) (by rfl))))))) (fun _ _ _ _ _ => (pv 3))) pa_nil)))))))
 (pss_one (ps_if (pt_cmpR (r := rIn K false) op_in_seq (pv 1) (pv 2) (by rfl)) (pss_one (ps_ret pe_bl)) pss_nil)))))
 (pss_one (ps_ret pe_bl))), ?_⟩
  · exact h.ln fun _ => rfl
  · obtain ⟨⟨T, n⟩, G, gh, dv, pre, q⟩ := h
    obtain ⟨hq, h1, h4⟩ : Sq n T ∧ 1 ≤ n ∧ n ≤ 4 := pre
    obtain ⟨vT, rfl, dT⟩ := (show Das G vs [tD T] from dv).inv1
    have hlT : (T.map rD).length = n := by rw [List.length_map, hq.len]
    refine q_for (List.range n) natD (Cn.nil gh) (i_rng (a_cons (e_lenT (e_var rfl dT) hlT) a_nil) (by omega)) (fun G5 _ i σ' G' H' => Same G5 G' ∧ ∃ (y1 y2 y3 y4 y5 : Option V), σ' = [some vT, y1, y2, y3, y4, y5] ∧ Stp [] G H G' H' ∧ ∀ s, s < i → s ∉ grI n (posT T) s n)
      (fun G5 H5 s5 => ⟨Same.refl _, _, _, _, _, _, rfl, s5, fun s hs => by omega⟩) (fun _ _ _ _ _ _ ⟨h, _, _, _, _, _, _, s, _⟩ => ⟨h, s.i⟩) (fun G5 H5 i sn σ' G' H' x G6 H6 s5 eo ⟨sg, y1, y2, y3, y4, y5, hσ, st, hno⟩ s6 dxx => ?_) (fun G5 H5 σ' G' H' s5 ⟨sg, y1, y2, y3, y4, y5, hσ, st, hno⟩ => ?_)
    · subst hσ
      cases dxx.inv_int
      have hin : i < n := by
        have := (List.getElem?_eq_some_iff.mp eo).1
        rwa [List.length_range] at this
      have hst : sn = i := by
        rw [List.getElem?_range hin] at eo
        exact (Option.some.inj eo).symm
      subst hst
      have dT6 : Da G6 vT (tD T) := dT.mono (st.g.trans s6.g)
      refine q_asgL (Cn.nil s6.i) ((l_lcN (j := 3) (List.range n) natD (fun o => posT T sn o) natD (i_rng (a_cons (e_lenT (e_var rfl dT6) hlT) a_nil) (by omega)) (small (by rw [List.length_range]; omega)) (fun _ => rfl) fun o G3 x ho e3 dx => ?_).eq (ds' := (grI n (posT T) sn 0).map natD) rfl) fun l xs G7 H7 s7 hl o7 dx7 => ?_
      · cases dx.inv_int
        exact ⟨b_test (e_B0 (f := fun i j => decide (j < i)) (e_cell hq.rows (by rw [hq.len]; exact hin) (List.mem_range.mp ho) (e_var rfl (dT6.mono e3)) (e_var rfl (.int _)) (e_var rfl (.int _))) e_int), fun _ => e_var rfl (.int _)⟩
      · have hx := Das.inv_nats dx7
        subst hx
        have dT7 := s7.da dT6
        refine q_for (List.range n) natD (Cn.one s7.i o7) (i_rng (a_cons (e_lenT (e_var rfl dT7) hlT) a_nil) (by omega)) (fun G8 _ k σ' G'' H'' => Same G8 G'' ∧ ∃ (y3 y4 y5 : Option V), σ' = [some vT, some (vN sn), some (.ref l), y3, y4, y5] ∧ Stp [l] G7 H7 G'' H'' ∧ Own G'' H'' l (.lst ((grI n (posT T) sn k).map vN)))
          (fun G8 H8 s8 => ⟨Same.refl _, _, _, _, rfl, s8.of0, s8.own o7⟩) (fun _ _ _ _ _ _ ⟨h, _, _, _, _, s, _⟩ => ⟨h, s.i⟩) (fun G8 H8 k tn σ' G9 H9 x2 GA HA s8 ek ⟨sg8, y3, y4, y5, hσ, st9, ow9⟩ sA dx2 => ?_) (fun G8 H8 σ' G9 H9 s8 ⟨sg8, y3, y4, y5, hσ, st9, ow9⟩ => ?_)
        · subst hσ
          have owA := sA.own ow9
          obtain ⟨gnd, glt⟩ := grI_ok n (posT T) sn k
          have glen := pigeon n _ gnd glt
          have dTA : Da GA vT (tD T) := dT7.mono (st9.g.trans sA.g)
          refine s_forN (grI n (posT T) sn k) natD (Cn.one sA.i owA) (i_list (l_listO (l := l) (xs := (grI n (posT T) sn k).map vN) (by simp) rfl (das_nats _ _)).toD) (fun GB _ j σ' G'' H'' => Same GB G'' ∧ ∃ (y3 y5 : Option V), σ' = [some vT, some (vN sn), some (.ref l), y3, some x2, y5] ∧ Stp [l] GA HA G'' H'' ∧ Own G'' H'' l (.lst ((((grI n (posT T) sn k).take j).foldl (grStep n (posT T)) (grI n (posT T) sn k)).map vN)))
            (fun GB HB sB => ⟨Same.refl _, _, _, rfl, sB.of0, sB.own owA⟩) (fun _ _ _ _ _ _ ⟨h, _, _, _, s, _⟩ => ⟨h, s.i⟩) (fun GB HB j pl σ' GC HC x3 GD HD sB ej ⟨sgB, y3, y5, hσ, stC, owC⟩ sD dx3 => ?_) (fun GB HB σ' GC HC sB ⟨sgB, y3, y5, hσ, stC, owC⟩ => ?_)
          · subst hσ
            cases dx3.inv_int
            have hpl : pl < n := glt pl (List.mem_of_getElem? ej)
            obtain ⟨fnd, flt⟩ := gr_ok n (posT T) ((grI n (posT T) sn k).take j) (grI n (posT T) sn k) gnd glt
            rw [fold_snoc _ _ ej]
            generalize ((grI n (posT T) sn k).take j).foldl (grStep n (posT T)) (grI n (posT T) sn k) = M at owC fnd flt ⊢
            have hMl := pigeon n M fnd flt
            have owD := sD.own owC
            have dTD : Da GD vT (tD T) := dTA.mono (stC.g.trans sD.g)
            have l2 : ((List.range n).filter fun o => posT T pl o && !decide (o ∈ M)).length ≤ n := by
              have := List.length_filter_le (fun o => posT T pl o && !decide (o ∈ M)) (List.range n)
              rwa [List.length_range] at this
            refine s_extN (fs := M) (gs := (List.range n).filter fun o => posT T pl o && !decide (o ∈ M)) (Cn.one sD.i owD) rfl owD (l_lcN (j := 3) (List.range n) natD (fun o => posT T pl o && !decide (o ∈ M)) natD (i_rng (a_cons (e_lenT (e_var rfl dTD) hlT) a_nil) (by omega)) (small (by rw [List.length_range]; omega)) (fun _ => rfl) fun o G3 x ho e3 dx => ?_).toD (slack (by omega)) fun GE HE stE oE => ⟨GE, sgB.trans (sD.g.trans stE.g), _, _, rfl, (stC.up sD).trans stE, oE⟩
            cases dx.inv_int
            exact ⟨b_and (b_test (e_B0 (f := fun i j => decide (j < i)) (e_cell hq.rows (by rw [hq.len]; exact hpl) (List.mem_range.mp ho) (e_var rfl (dTD.mono e3)) (e_var rfl (.int _)) (e_var rfl (.int _))) e_int)) fun _ => (b_test (e_inON (l := l) (neg := true) (ns := M) (by simp) rfl (e_var rfl (.int _)))).eq rfl, fun _ => e_var rfl (.int _)⟩
          · subst hσ
            rw [List.take_length] at owC
            exact ⟨GC, sg8.trans (sA.g.trans stC.g), _, _, _, rfl, (st9.up sA).trans stC, owC⟩
        · subst hσ
          rw [List.length_range] at ow9
          have sAll : Stp [] G H G9 H9 := (st.trans (s6.trans s7)).comp st9 fun c hc => by
            have z : c = l := by simpa using hc
            rw [z]
            exact .inr ((st.trans s6).free hl)
          refine s_when (b := decide (sn ∈ grI n (posT T) sn n)) (Cn.one st9.i ow9) ((b_test (e_inON (l := l) (neg := false) (ns := grI n (posT T) sn n) (by simp) rfl (e_var rfl (.int _)))).eq rfl) (fun hh GA HA sA => ?_) (fun hh GA HA sA => ?_)
          · refine s_ret (Cn.one sA.i (sA.own ow9)) e_bl fun v GB HB sB dv => q v GB HB (sAll.trans (sA.trans sB)) ?_
            have e : goesR n (posT T) = true := List.any_eq_true.mpr ⟨sn, List.mem_range.mpr hin, hh⟩
            show Da GB v (.bool (goesR n (posT T)))
            rw [e]
            exact dv
          · refine ⟨GA, sg.trans (s6.g.trans (s7.g.trans (st9.g.trans sA.g))), _, _, _, _, _, rfl, sAll.trans sA, fun s hs => ?_⟩
            by_cases z : s = sn
            · rw [z]; simpa using hh
            · exact hno s (by omega)
    · subst hσ
      rw [List.length_range] at hno
      refine s_ret (Cn.nil st.i) e_bl fun v GB HB sB dv => q v GB HB (st.trans sB) ?_
      have e : goesR n (posT T) = false := by
        refine Bool.eq_false_iff.mpr fun z => ?_
        obtain ⟨s, hs, h2⟩ := List.any_eq_true.mp z
        exact hno s (List.mem_range.mp hs) (by simpa using h2)
      show Da GB v (.bool (goesR n (posT T)))
      rw [e]
      exact dv
end N41
/-! W9: breadth first, walked. -/
namespace N41
open PySem PySem.Spec PyProof.Rows L2
def entD (x : List Nat × Tab) : PyData := .tuple [Prm.rowD x.1, tD x.2]
theorem small7 {n : Nat} (h : n ≤ 10000000) : n < sizeLine := Nat.lt_of_le_of_lt h (by decide)
theorem gk_le : ∀ l, l ≤ 6 → gk l ≤ 191 := by decide
theorem e_reprT {K : PySem.W.Frag} {Γ : List (Addr × HO)} {σ : L2.St} {G : Hp} {ta : TE} {n k : Nat} {T : Tab} (h : EvD Γ ta σ G (tD T)) (sq : Sq n T) (h4 : n ≤ 4) (hl : Lt2 k T) (hk : k ≤ 400) : EvD Γ (tCB (rRepr K) (tCons ta tNil)) σ G (.str (tD T).shown) :=
  e_repr h (show_ok hl (by omega)) (nodict_tab T) (Nat.le_trans (depth_tD T) (by decide)) (shown_len sq h4 hl hk) (.inr (.inl ⟨_, rfl⟩))
structure AM where
  B : Tab
  n : Nat
  most : Nat
structure MPre (n most : Nat) (T : Tab) : Prop where
  sq : Sq n T
  h1 : 1 ≤ n
  h4 : n ≤ 4
  sk : Skw n T
  le : LeE 2 T
  h6 : most ≤ 6
abbrev sp_first_rows : Sp := SpF (fun a : AM => [tD a.B, intD a.most]) (fun a => Bd a.n a.B ∧ MPre a.n a.most (a.B.take a.n)) (fun a => .list ((rowsF a.n a.most (a.B.take a.n)).map entD))
theorem cal_first_rows {P : Program} {w : World} {K : PySem.W.Frag} {mg : Str → Option Value} {base : Heap} (B : Blt mg) (D : FD K mg "first_rows" st_first_rows) (c_table_of : CalG P w K mg base 1 "table_of" sp_table_of) (c_swap : CalG P w K mg base 1 "swap" sp_swap) :
    CalG P w K mg base 2 "first_rows" sp_first_rows := by
  obtain ⟨f, fd, F, hdf⟩ := D.ex
  refine calG0 (N := N_first_rows) F (F.fn.binds hdf fun _ _ _ _ _ _ us hl => match us, hl with | [_, _], _ => rfl) sc_first_rows (fun vs H Q E h => ?_) fun cdv A outer s H vs Q E hgu hr h => ⟨_, (pss_cons (ps_par3 (i := 2) (j := 3) (l := 4) rfl nd_first_rows rfl rfl rfl (by decide) (by decide) (by decide) rfl rfl rfl (pa_cons (pe_lst (pa_cons (pe_tup (pa_cons (pe_tup pa_nil) (pa_cons (pe_cg c_table_of hgu hr (by decide) (by rfl) (pa_cons (pv 0) pa_nil)) pa_nil))) pa_nil)) (pa_cons (pe_disp1 hr.u200 (pe_cg c_table_of hgu hr (by decide) (by rfl) (pa_cons (pv 0) pa_nil)) pe_bl) (pa_cons pe_int pa_nil))) (by rfl))
 (pss_cons (ps_while PassesOwn.never (pt_cmpR op_lt (pv 4) (pe_callB (r := rLen K) c_len (by rfl) B.len bt_len (pa_cons (pv 2) pa_nil)) (nomark _)) (pss_cons (ps_asg (pe_ix (r := rIxL K) ix_list (pv 2) (pv 4) (fun _ _ => rfl)) (pg_tupK (K := K) (n := 2) rfl rfl (pgs_cons (pg_name (i := 5) nd_first_rows rfl (Or.inl rfl)) (pgs_cons (pg_name (i := 6) nd_first_rows rfl (Or.inl rfl)) pgs_nil))))
 (pss_cons (ps_for PassesOwn.never rfl (pi_range1 (by rfl) B.range (pa_cons (pe_ifExp (pt_cmpR op_lt (pe_callB (r := rLen K) c_len (by rfl) B.len bt_len (pa_cons (pv 5) pa_nil)) (pv 1) (nomark _)) (pe_callB (r := rLen K) c_len (by rfl) B.len bt_len (pa_cons (pv 6) pa_nil)) pe_int) pa_nil)) (pg_name (i := 7) nd_first_rows rfl (Or.inl rfl)) (pss_cons (ps_set (i := 8) nd_first_rows rfl (Or.inl rfl) (pe_cg c_swap hgu hr (by decide) (by rfl) (pa_cons (pv 6) (pa_cons (pv 7) pa_nil))))
 (pss_one (ps_if (pt_cmpR (op_ninD hr.u200) (pv 8) (pv 3) (by rfl)) (pss_cons (ps_asg pe_bl (pg_sub (pv 3) (pv 8) (set_D hr.u200)))
 (pss_one (ps_expr (pe_bm PySem.F.plainAttrs_list PySem.F.slot_list_append PySem.F.type_list_append mt_append (pv 2) (pa_cons (pe_tup (pa_cons (pe_op (r := rCatA K) op_catA (pv 5) (pe_tup (pa_cons (pv 7) pa_nil))) (pa_cons (pv 8) pa_nil))) pa_nil))))) pss_nil))))
 (pss_one (ps_aug (i := 4) nd_first_rows rfl (Or.inl rfl) pe_int ip_add)))))
 (pss_one (ps_ret (pv 2))))), ?_⟩
  · exact h.ln fun _ => rfl
  · obtain ⟨⟨B, n, most⟩, G, gh, dv, pre, q⟩ := h
    obtain ⟨hb, hp⟩ : Bd n B ∧ MPre n most (B.take n) := pre
    obtain ⟨vB, vm, rfl, dB, dm⟩ := (show Das G vs [tD B, intD most] from dv).inv2
    cases dm.inv_int
    have q : ∀ (v : V) (G2 H2 : Hp), Stp [] G H G2 H2 → Da G2 v (.list ((rowsF n most (B.take n)).map entD)) → Q v H2 := q
    generalize hTT : B.take n = T at hp q
    have h4 := hp.h4
    have h6 := hp.h6
    have tabE : ∀ {Γ : List (Addr × HO)} {σ : L2.St} {Gx : Hp} (hσ : σ[0]? = some (some vB)) (hG : Same G Gx), EvD Γ (tCallG sp_table_of (tCons (tVar 0) tNil)) σ Gx (tD T) := fun hσ hG => by
      rw [← hTT]
      exact e_cg (⟨B, n⟩ : AB) (a_cons (e_var hσ (dB.mono hG)) a_nil) hb
    refine q_par3LDI (P := P) (w := w) (T := T) (Cn.nil gh) (l_lst (a_cons (e_tup (a_cons (e_tup a_nil (by decide)) (a_cons (tabE rfl (Same.refl _)) a_nil)) (slack (by simp))) a_nil) (slack (by simp))) (tabE rfl (Same.refl _)) fun f xs d a0 G1 H1 s1 hf hd hfd of dxf od da => ?_
    refine q_while (fun m σ' G' H' => ∃ (k : Nat) (xs : List V) (kx : List (Tab × Addr)) (y5 y6 y7 y8 : Option V), m = 5461 - k ∧ k ≤ (bfs n most T k).length ∧ σ' = [some vB, some (vN most), some (.ref f), some (.ref d), some (vN k), y5, y6, y7, y8] ∧ Stp [f, d] G1 H1 G' H' ∧ Own G' H' f (.lst xs) ∧ Das G' xs ((bfs n most T k).map entD) ∧ kx.map (·.1) = keysF (bfs n most T k) ∧ KeysD G' kx ∧ Own G' H' d (NDo P w d kx)) 5461
      ⟨0, xs, [(T, a0)], _, _, _, _, rfl, by simp, rfl, Stp.refl s1.i, of, dxf, rfl, fun y hy => by (have e : y = (T, a0) := by simpa using hy); rw [e]; exact da, od⟩ ?_
    rintro m σ' G' H' ⟨k, xs, kx, y5, y6, y7, y8, rfl, hk, rfl, st, owf, dx, hkx, hKD, owd⟩
    have fok := bfs_ok (most := most) hp.sq hp.sk hp.le k
    have flen := bfs_len (most := most) h4 h6 hp.sq hp.sk hp.le k
    refine ⟨_, decide (k < (bfs n most T k).length), Cn.two st.i owf owd, (b_test (e_B0 (f := fun i j => decide (i < j)) (e_var rfl (.int _)) (e_lenO (l := f) (xs := xs) (by simp) rfl (by rw [dx.length, List.length_map])))).eq (by simp), fun hh G2 H2 s2 => ?_, fun hh G2 H2 s2 => ?_⟩
    · have hh : k < (bfs n most T k).length := by simpa using hh
      obtain ⟨⟨row, here⟩, ex⟩ := get_of hh
      have nok := fok.node _ (List.mem_of_getElem? ex)
      have hbh : Bd n here := nok.sq.bd hp.h1 h4
      have owf2 := s2.own owf
      have owd2 := s2.own owd
      refine e_ixO (l := f) (xs := xs) (Γ := [(f, .lst xs), (d, NDo P w d kx)]) (ds := (bfs n most T k).map entD) (j := k) (d := entD (row, here)) (by simp) rfl (s2.das dx) (e_var rfl (.int _)) (by rw [List.getElem?_map, ex]; rfl) G2 H2 (Same.refl _) (Cn.two s2.i owf2 owd2) _ fun v G3 H3 s3 dv => ?_
      refine g_pair s3.i dv fun vr vh dr dh => ?_
      have hs : bfs n most T (k + 1) = exAll n most (row, here) (bfs n most T k) := by
        show expand n most k (bfs n most T k) = _
        unfold expand
        rw [ex]
      have hm4 : (if row.length < most then n else 0) ≤ n := by split <;> omega
      have owf3 := s3.own owf2
      have owd3 := s3.own owd2
      have st3 := st.up (s2.trans s3)
      refine q_for (List.range (if row.length < most then n else 0)) natD (Cn.two st3.i owf3 owd3) (i_rng (a_cons (e_if (b := decide (row.length < most)) ((b_test (e_B0 (f := fun i j => decide (i < j)) (e_lenT (e_var rfl dr) (List.length_map _)) (e_var rfl (.int _)))).eq (by simp)) (fun hb => ?_) (fun hb => ?_)) a_nil) (by omega))
        (fun G5 _ j σ' G' H' => Same G5 G' ∧ ∃ (xs : List V) (kx : List (Tab × Addr)) (y7 y8 : Option V), σ' = [some vB, some (vN most), some (.ref f), some (.ref d), some (vN k), some vr, some vh, y7, y8] ∧ Stp [f, d] G1 H1 G' H' ∧ Own G' H' f (.lst xs) ∧ Das G' xs ((((List.range (if row.length < most then n else 0)).take j).foldl (exStep here row) (bfs n most T k)).map entD) ∧ kx.map (·.1) = keysF (((List.range (if row.length < most then n else 0)).take j).foldl (exStep here row) (bfs n most T k)) ∧ KeysD G' kx ∧ Own G' H' d (NDo P w d kx))
        (fun G5 H5 s5 => ⟨Same.refl _, xs, kx, _, _, rfl, st3.up s5, s5.own owf3, s5.das (s3.das (s2.das dx)), hkx, hKD.mono (s2.g.trans (s3.g.trans s5.g)), s5.own owd3⟩) (fun _ _ _ _ _ _ ⟨h, _, _, _, _, _, s, _⟩ => ⟨h, s.i⟩) (fun G5 H5 j pl σ' G6 H6 x G7 H7 s5 eo ⟨sg, xs, kx, y7, y8, hσ, st6, owf6, dx6, hkx6, hKD6, owd6⟩ s7 dxx => ?_) (fun G5 H5 σ' G6 H6 s5 ⟨sg, xs, kx, y7, y8, hσ, st6, owf6, dx6, hkx6, hKD6, owd6⟩ => ?_)
      · have : row.length < most := by simpa using hb
        rw [if_pos this]
        exact e_lenT (e_var rfl dh) (by rw [List.length_map, nok.sq.len])
      · have : ¬ row.length < most := by simpa using hb
        rw [if_neg this]
        exact e_int
      · subst hσ
        cases dxx.inv_int
        have hjm : j < (if row.length < most then n else 0) := by
          have := (List.getElem?_eq_some_iff.mp eo).1
          rwa [List.length_range] at this
        have hja : pl = j := by
          rw [List.getElem?_range hjm] at eo
          exact (Option.some.inj eo).symm
        subst hja
        have hlt : row.length < most := Classical.byContradiction fun z => by rw [if_neg z] at hjm; omega
        have hpn : pl < n := by rw [if_pos hlt] at hjm; exact hjm
        rw [take_fold _ _ hjm]
        obtain ⟨more, em, lm, _⟩ := foldl_more here row ((List.range (if row.length < most then n else 0)).take pl) (bfs n most T k)
        rw [List.length_take, List.length_range] at lm
        have fl : (((List.range (if row.length < most then n else 0)).take pl).foldl (exStep here row) (bfs n most T k)).length ≤ 5465 := by
          rw [em, List.length_append]
          omega
        generalize ((List.range (if row.length < most then n else 0)).take pl).foldl (exStep here row) (bfs n most T k) = F at dx6 hkx6 fl ⊢
        have dh7 : Da G7 vh (tD here) := dh.mono (s5.g.trans (sg.trans s7.g))
        have dr7 : Da G7 vr (Prm.rowD row) := dr.mono (s5.g.trans (sg.trans s7.g))
        have owf7 := s7.own owf6
        have owd7 := s7.own owd6
        refine q_asg (Cn.two s7.i owf7 owd7) (e_cg (⟨here, pl, n, gk row.length⟩ : ASw) (a_cons (e_var rfl dh7) (a_cons (e_var rfl (.int _)) a_nil)) ⟨hbh, hpn, nok.lt, Nat.le_trans (gk_le row.length (by omega)) (by decide)⟩) fun vt G8 H8 s8 dt => ?_
        have dt : Da G8 vt (tD (sw here pl)) := dt
        have owf8 := s8.own owf7
        have owd8 := s8.own owd7
        have hK8 : KeysD G8 kx := hKD6.mono (s7.g.trans s8.g)
        have xl : xs.length = F.length := by rw [dx6.length, List.length_map]
        have kl : kx.length = F.length := by
          have := congrArg List.length hkx6
          unfold keysF at this
          simpa using this
        refine s_when (b := !decide (sw here pl ∈ keysF F)) (Cn.two s8.i owf8 owd8) ((b_ninT (P := P) (w := w) (l := d) (xs := kx) (by simp) rfl hK8 (e_var rfl dt)).eq (by rw [hkx6])) (fun hh G9 H9 s9 => ?_) (fun hh G9 H9 s9 => ?_)
        · have hn : sw here pl ∉ keysF F := by simpa using hh
          have ef : exStep here row F pl = F ++ [(row ++ [pl], sw here pl)] := by
            unfold exStep
            rw [if_neg hn]
          rw [ef]
          refine q_putT (P := P) (w := w) (xs := kx) (Cn.two s9.i (s9.own owf8) (s9.own owd8)) rfl (s9.own owd8) (hK8.mono s9.g) (e_var rfl (s9.da dt)) (by rw [hkx6]; exact hn) (small7 (by omega)) fun a GA HA sA oA kA => ?_
          have owfA := sA.ownM (by simp [hfd]) (s9.own owf8)
          refine s_app (Cn.two sA.i owfA oA) rfl owfA (d := entD (row ++ [pl], sw here pl)) (e_tup (a_cons ((e_catT (e_var rfl (dr7.mono (s8.g.trans (s9.g.trans sA.g)))) (e_tup (a_cons (e_var rfl (.int _)) a_nil) (slack (by simp))) (slack (by simp; omega))).eq (d' := Prm.rowD (row ++ [pl])) (by unfold Prm.rowD; rw [List.map_append]; rfl)) (a_cons (e_var rfl ((s9.da dt).mono sA.g)) a_nil)) (slack (by simp))) (small7 (by omega)) fun v GB HB sB dv stB oB => ?_
          refine ⟨GB, sg.trans (s7.g.trans (s8.g.trans (s9.g.trans (sA.g.trans sB.g)))), xs ++ [v], kx ++ [(sw here pl, a)], _, _, rfl, ((st6.up (s7.trans (s8.trans s9))).trans (sA.weak (by simp))).trans (stB.weak (by simp)), oB, ?_, ?_, kA.mono sB.g, (sB.own oA).putN hfd.symm⟩
          · rw [List.map_append]
            exact ((dx6.mono (s7.g.trans (s8.g.trans (s9.g.trans sA.g)))).mono sB.g).snoc dv
          · unfold keysF
            rw [List.map_append, List.map_append, hkx6]
            rfl
        · have hn : sw here pl ∈ keysF F := by simpa using hh
          have ef : exStep here row F pl = F := by
            unfold exStep
            rw [if_pos hn]
          rw [ef]
          exact ⟨G9, sg.trans (s7.g.trans (s8.g.trans s9.g)), xs, kx, _, _, rfl, st6.up (s7.trans (s8.trans s9)), s9.own owf8, dx6.mono (s7.g.trans (s8.g.trans s9.g)), hkx6, hK8.mono s9.g, s9.own owd8⟩
      · subst hσ
        have et : ∀ m, (List.range m).take (List.range m).length = List.range m := fun m => List.take_length
        rw [et] at dx6 hkx6
        have eE : (List.range (if row.length < most then n else 0)).foldl (exStep here row) (bfs n most T k) = bfs n most T (k + 1) := hs.symm
        rw [eE] at dx6 hkx6
        have hk1 : k + 1 ≤ (bfs n most T (k + 1)).length := by
          rw [hs]
          exact (phi_step (n := n) ex nok.short).2
        refine s_aug (Cn.two st6.i owf6 owd6) rfl e_int fun G8 H8 s8 => ⟨5461 - (k + 1), G8, by omega, k + 1, xs, kx, _, _, _, _, rfl, hk1, rfl, st6.up s8, s8.own owf6, s8.das dx6, hkx6, hKD6.mono s8.g, s8.own owd6⟩
    · have hk2 : (bfs n most T k).length ≤ k := by
        have : ¬ k < (bfs n most T k).length := by simpa using hh
        omega
      have ee := bfs_end (by omega) hk2
      have owf2 := s2.own owf
      have k1 := Own.know s2.i owf2
      have sF : Stp [] G H G2 H2 := s1.comp (st.up s2) fun c hc => by
        rcases (by simpa using hc : c = f ∨ c = d) with z | z
        · rw [z]; exact .inr hf
        · rw [z]; exact .inr hd
      exact s_retO (Cn.nil k1.1) rfl (q (.ref f) (upd G2 f (.lst xs)) H2 (sF.know owf2 hf) (by rw [ee]; exact .lst upd_same ((s2.das dx).mono k1.2)))
end N41
/-! W10: the law's rows. -/
namespace N41
open PySem PySem.Spec PyProof.Rows L2
def shF (f : Fnd) : List Str := f.map fun x => (tD x.2).shown
theorem mem_shF {n : Nat} {F : Fnd} (h : ∀ x ∈ F, Sq n x.2) {S : Tab} (hS : Sq n S) : (tD S).shown ∈ shF F ↔ S ∈ keysF F := by
  unfold shF keysF
  constructor
  · intro z
    obtain ⟨x, hx, e⟩ := List.mem_map.mp z
    exact List.mem_map.mpr ⟨x, hx, shown_inj (h x hx) hS e⟩
  · intro z
    obtain ⟨x, hx, e⟩ := List.mem_map.mp z
    exact List.mem_map.mpr ⟨x, hx, by rw [e]⟩
abbrev sp__law_rows : Sp := SpF (fun a : AM => [tD a.B, intD a.most]) (fun a => MPre a.n a.most a.B) (fun a => .list ((rowsF a.n a.most a.B).map entD))
theorem cal__law_rows {P : Program} {w : World} {K : PySem.W.Frag} {mg : Str → Option Value} {base : Heap} (B : Blt mg) (D : FD K mg "_law_rows" st__law_rows) (c__law_swap : CalG P w K mg base 1 "_law_swap" sp__law_swap) :
    CalG P w K mg base 2 "_law_rows" sp__law_rows := by
  obtain ⟨f, fd, F, hdf⟩ := D.ex
  refine calG0 (N := N__law_rows) F (F.fn.binds hdf fun _ _ _ _ _ _ us hl => match us, hl with | [_, _], _ => rfl) sc__law_rows (fun vs H Q E h => ?_) fun cdv A outer s H vs Q E hgu hr h => ⟨_, (pss_cons (ps_par (i := 2) (j := 3) rfl nd__law_rows rfl rfl (by decide) rfl rfl (pa_cons (pe_lst (pa_cons (pe_tup (pa_cons (pe_tup pa_nil) (pa_cons (pv 0) pa_nil))) pa_nil)) (pa_cons pe_int pa_nil)) (by rfl))
 (pss_cons (ps_set (i := 4) nd__law_rows rfl (Or.inl rfl) (pe_disp (pps_cons (pe_callB (r := rRepr K) (c_repr hgu hr.u200) (by rfl) B.repr bt_repr (pa_cons (pv 0) pa_nil)) pe_bl pps_nil) rfl rfl (by simp) (by decide)))
 (pss_cons (ps_while PassesOwn.never (pt_cmpR op_lt (pv 3) (pe_callB (r := rLen K) c_len (by rfl) B.len bt_len (pa_cons (pv 2) pa_nil)) (nomark _)) (pss_cons (ps_asg (pe_ix (r := rIxL K) ix_list (pv 2) (pv 3) (fun _ _ => rfl)) (pg_tupK (K := K) (n := 2) rfl rfl (pgs_cons (pg_name (i := 5) nd__law_rows rfl (Or.inl rfl)) (pgs_cons (pg_name (i := 6) nd__law_rows rfl (Or.inl rfl)) pgs_nil))))
 (pss_cons (ps_for PassesOwn.never rfl (pi_range1 (by rfl) B.range (pa_cons (pe_ifExp (pt_cmpR op_lt (pe_callB (r := rLen K) c_len (by rfl) B.len bt_len (pa_cons (pv 5) pa_nil)) (pv 1) (nomark _)) (pe_callB (r := rLen K) c_len (by rfl) B.len bt_len (pa_cons (pv 0) pa_nil)) pe_int) pa_nil)) (pg_name (i := 7) nd__law_rows rfl (Or.inl rfl)) (pss_cons (ps_set (i := 8) nd__law_rows rfl (Or.inl rfl) (pe_cg c__law_swap hgu hr (by decide) (by rfl) (pa_cons (pv 6) (pa_cons (pv 7) pa_nil))))
 (pss_one (ps_if (pt_cmp (pc_dnotin (hu_of hr) (pe_callB (r := rRepr K) (c_repr hgu hr.u200) (by rfl) B.repr bt_repr (pa_cons (pv 8) pa_nil)) (pv 4)) (by rfl)) (pss_cons (ps_asg pe_bl (pg_sub (pv 4) (pe_callB (r := rRepr K) (c_repr hgu hr.u200) (by rfl) B.repr bt_repr (pa_cons (pv 8) pa_nil)) (set_dict (hu_of hr))))
 (pss_one (ps_expr (pe_bm PySem.F.plainAttrs_list PySem.F.slot_list_append PySem.F.type_list_append mt_append (pv 2) (pa_cons (pe_tup (pa_cons (pe_op (r := rCatA K) op_catA (pv 5) (pe_tup (pa_cons (pv 7) pa_nil))) (pa_cons (pv 8) pa_nil))) pa_nil))))) pss_nil))))
 (pss_one (ps_set (i := 3) nd__law_rows rfl (Or.inl rfl) (pe_op op_add (pv 3) pe_int))))))
 (pss_one (ps_ret (pv 2)))))), ?_⟩
  · exact h.ln fun _ => rfl
  · obtain ⟨⟨T, n, most⟩, G, gh, dv, hp, q⟩ := h
    have hp : MPre n most T := hp
    obtain ⟨vB, vm, rfl, dB, dm⟩ := (show Das G vs [tD T, intD most] from dv).inv2
    cases dm.inv_int
    have q : ∀ (v : V) (G2 H2 : Hp), Stp [] G H G2 H2 → Da G2 v (.list ((rowsF n most T).map entD)) → Q v H2 := q
    have h4 := hp.h4
    have h6 := hp.h6
    refine q_parLD (Cn.nil gh) (l_lst (a_cons (e_tup (a_cons (e_tup a_nil (by decide)) (a_cons (e_var rfl dB) a_nil)) (slack (by simp))) a_nil) (slack (by simp))) e_int fun v f xs G0 H0 s0 dv0 hf0 of0 dxf0 => ?_
    cases dv0.inv_int
    refine q_dispS (Cn.one s0.i of0) (e_reprT (e_var rfl (s0.da dB)) hp.sq h4 (hp.le.lt2 (k := 2) (by decide)) (by decide)) fun d G1 H1 s1' hd0 od => ?_
    have of := s1'.own of0
    have dxf := s1'.das dxf0
    have s1 : Stp [] G H G1 H1 := s0.trans s1'
    have hf := hf0
    have hd := s0.free hd0
    have hfd : f ≠ d := of0.ne hd0
    refine q_while (fun m σ' G' H' => ∃ (k : Nat) (xs : List V) (y5 y6 y7 y8 : Option V), m = 5461 - k ∧ k ≤ (bfs n most T k).length ∧ σ' = [some vB, some (vN most), some (.ref f), some (vN k), some (.ref d), y5, y6, y7, y8] ∧ Stp [f, d] G1 H1 G' H' ∧ Own G' H' f (.lst xs) ∧ Das G' xs ((bfs n most T k).map entD) ∧ Own G' H' d (.dK (SK (shF (bfs n most T k))))) 5461
      ⟨0, xs, _, _, _, _, rfl, by simp, rfl, Stp.refl s1.i, of, dxf, od⟩ ?_
    rintro m σ' G' H' ⟨k, xs, y5, y6, y7, y8, rfl, hk, rfl, st, owf, dx, owd⟩
    have fok := bfs_ok (most := most) hp.sq hp.sk hp.le k
    have flen := bfs_len (most := most) h4 h6 hp.sq hp.sk hp.le k
    refine ⟨_, decide (k < (bfs n most T k).length), Cn.two st.i owf owd, (b_test (e_B0 (f := fun i j => decide (i < j)) (e_var rfl (.int _)) (e_lenO (l := f) (xs := xs) (by simp) rfl (by rw [dx.length, List.length_map])))).eq (by simp), fun hh G2 H2 s2 => ?_, fun hh G2 H2 s2 => ?_⟩
    · have hh : k < (bfs n most T k).length := by simpa using hh
      obtain ⟨⟨row, here⟩, ex⟩ := get_of hh
      have nok := fok.node _ (List.mem_of_getElem? ex)
      have hbh : Bd n here := nok.sq.bd hp.h1 h4
      have owf2 := s2.own owf
      have owd2 := s2.own owd
      refine e_ixO (l := f) (xs := xs) (Γ := [(f, .lst xs), (d, .dK (SK (shF (bfs n most T k))))]) (ds := (bfs n most T k).map entD) (j := k) (d := entD (row, here)) (by simp) rfl (s2.das dx) (e_var rfl (.int _)) (by rw [List.getElem?_map, ex]; rfl) G2 H2 (Same.refl _) (Cn.two s2.i owf2 owd2) _ fun v G3 H3 s3 dv => ?_
      refine g_pair s3.i dv fun vr vh dr dh => ?_
      have hs : bfs n most T (k + 1) = exAll n most (row, here) (bfs n most T k) := by
        show expand n most k (bfs n most T k) = _
        unfold expand
        rw [ex]
      have hm4 : (if row.length < most then n else 0) ≤ n := by split <;> omega
      have owf3 := s3.own owf2
      have owd3 := s3.own owd2
      have st3 := st.up (s2.trans s3)
      refine q_for (List.range (if row.length < most then n else 0)) natD (Cn.two st3.i owf3 owd3) (i_rng (a_cons (e_if (b := decide (row.length < most)) ((b_test (e_B0 (f := fun i j => decide (i < j)) (e_lenT (e_var rfl dr) (List.length_map _)) (e_var rfl (.int _)))).eq (by simp)) (fun hb => ?_) (fun hb => ?_)) a_nil) (by omega))
        (fun G5 _ j σ' G' H' => Same G5 G' ∧ ∃ (xs : List V) (y7 y8 : Option V), σ' = [some vB, some (vN most), some (.ref f), some (vN k), some (.ref d), some vr, some vh, y7, y8] ∧ Stp [f, d] G1 H1 G' H' ∧ Own G' H' f (.lst xs) ∧ Das G' xs ((((List.range (if row.length < most then n else 0)).take j).foldl (exStep here row) (bfs n most T k)).map entD) ∧ Own G' H' d (.dK (SK (shF (((List.range (if row.length < most then n else 0)).take j).foldl (exStep here row) (bfs n most T k))))))
        (fun G5 H5 s5 => ⟨Same.refl _, xs, _, _, rfl, st3.up s5, s5.own owf3, s5.das (s3.das (s2.das dx)), s5.own owd3⟩) (fun _ _ _ _ _ _ ⟨h, _, _, _, _, s, _⟩ => ⟨h, s.i⟩) (fun G5 H5 j pl σ' G6 H6 x G7 H7 s5 eo ⟨sg, xs, y7, y8, hσ, st6, owf6, dx6, owd6⟩ s7 dxx => ?_) (fun G5 H5 σ' G6 H6 s5 ⟨sg, xs, y7, y8, hσ, st6, owf6, dx6, owd6⟩ => ?_)
      · have : row.length < most := by simpa using hb
        rw [if_pos this]
        exact e_lenT (e_var rfl (dB.mono (s1.g.trans st3.g))) (by rw [List.length_map, hp.sq.len])
      · have : ¬ row.length < most := by simpa using hb
        rw [if_neg this]
        exact e_int
      · subst hσ
        cases dxx.inv_int
        have hjm : j < (if row.length < most then n else 0) := by
          have := (List.getElem?_eq_some_iff.mp eo).1
          rwa [List.length_range] at this
        have hja : pl = j := by
          rw [List.getElem?_range hjm] at eo
          exact (Option.some.inj eo).symm
        subst hja
        have hlt : row.length < most := Classical.byContradiction fun z => by rw [if_neg z] at hjm; omega
        have hpn : pl < n := by rw [if_pos hlt] at hjm; exact hjm
        rw [take_fold _ _ hjm]
        obtain ⟨more, em, lm, _⟩ := foldl_more here row ((List.range (if row.length < most then n else 0)).take pl) (bfs n most T k)
        rw [List.length_take, List.length_range] at lm
        have fl : (((List.range (if row.length < most then n else 0)).take pl).foldl (exStep here row) (bfs n most T k)).length ≤ 5465 := by
          rw [em, List.length_append]
          omega
        have fokF := foldl_ok nok hlt ((List.range (if row.length < most then n else 0)).take pl) (bfs n most T k) (fun p hp => by
          have := List.mem_range.mp (List.mem_of_mem_take hp)
          rwa [if_pos hlt] at this) fok
        have fokF : FOk n most (((List.range (if row.length < most then n else 0)).take pl).foldl (exStep here row) (bfs n most T k)) := fokF
        generalize ((List.range (if row.length < most then n else 0)).take pl).foldl (exStep here row) (bfs n most T k) = F at dx6 owd6 fl fokF ⊢
        have lt2 : Lt2 (2 * gk row.length + 1) (sw here pl) := sw_lt2 nok.lt
        have gk4 : 2 * gk row.length + 1 ≤ 400 := by have := gk_le row.length (by omega); omega
        have hmem : (tD (sw here pl)).shown ∈ shF F ↔ sw here pl ∈ keysF F := mem_shF (fun x hx => (fokF.node x hx).sq) (sw_sq nok.sq pl)
        have dh7 : Da G7 vh (tD here) := dh.mono (s5.g.trans (sg.trans s7.g))
        have dr7 : Da G7 vr (Prm.rowD row) := dr.mono (s5.g.trans (sg.trans s7.g))
        have owf7 := s7.own owf6
        have owd7 := s7.own owd6
        refine q_asg (Cn.two s7.i owf7 owd7) (e_cg (⟨here, pl, n, gk row.length⟩ : ASw) (a_cons (e_var rfl dh7) (a_cons (e_var rfl (.int _)) a_nil)) ⟨hbh, hpn, nok.lt, Nat.le_trans (gk_le row.length (by omega)) (by decide)⟩) fun vt G8 H8 s8 dt => ?_
        have dt : Da G8 vt (tD (sw here pl)) := dt
        have owf8 := s8.own owf7
        have owd8 := s8.own owd7
        have xl : xs.length = F.length := by rw [dx6.length, List.length_map]
        have kl : (shF F).length = F.length := by unfold shF; rw [List.length_map]
        refine s_when (b := !decide (sw here pl ∈ keysF F)) (Cn.two s8.i owf8 owd8) ((b_ninS (l := d) (ss := shF F) (by simp) rfl (e_reprT (e_var rfl dt) (sw_sq nok.sq pl) h4 lt2 gk4)).eq (by simp only [hmem])) (fun hh G9 H9 s9 => ?_) (fun hh G9 H9 s9 => ?_)
        · have hn : sw here pl ∉ keysF F := by simpa using hh
          have ef : exStep here row F pl = F ++ [(row ++ [pl], sw here pl)] := by
            unfold exStep
            rw [if_neg hn]
          rw [ef]
          refine q_putS (ss := shF F) (Cn.two s9.i (s9.own owf8) (s9.own owd8)) rfl (s9.own owd8) (e_reprT (e_var rfl (s9.da dt)) (sw_sq nok.sq pl) h4 lt2 gk4) (fun z => hn (hmem.mp z)) (small7 (by omega)) fun GA HA sA oA => ?_
          have owfA := sA.ownM (by simp [hfd]) (s9.own owf8)
          refine s_app (Cn.two sA.i owfA oA) rfl owfA (d := entD (row ++ [pl], sw here pl)) (e_tup (a_cons ((e_catT (e_var rfl (dr7.mono (s8.g.trans (s9.g.trans sA.g)))) (e_tup (a_cons (e_var rfl (.int _)) a_nil) (slack (by simp))) (slack (by simp; omega))).eq (d' := Prm.rowD (row ++ [pl])) (by unfold Prm.rowD; rw [List.map_append]; rfl)) (a_cons (e_var rfl ((s9.da dt).mono sA.g)) a_nil)) (slack (by simp))) (small7 (by omega)) fun v GB HB sB dv stB oB => ?_
          refine ⟨GB, sg.trans (s7.g.trans (s8.g.trans (s9.g.trans (sA.g.trans sB.g)))), xs ++ [v], _, _, rfl, ((st6.up (s7.trans (s8.trans s9))).trans (sA.weak (by simp))).trans (stB.weak (by simp)), oB, ?_, ?_⟩
          · rw [List.map_append]
            exact ((dx6.mono (s7.g.trans (s8.g.trans (s9.g.trans sA.g)))).mono sB.g).snoc dv
          · have e : shF (F ++ [(row ++ [pl], sw here pl)]) = shF F ++ [(tD (sw here pl)).shown] := by
              unfold shF
              rw [List.map_append]
              rfl
            rw [e]
            exact (sB.own oA).putN hfd.symm
        · have hn : sw here pl ∈ keysF F := by simpa using hh
          have ef : exStep here row F pl = F := by
            unfold exStep
            rw [if_pos hn]
          rw [ef]
          exact ⟨G9, sg.trans (s7.g.trans (s8.g.trans s9.g)), xs, _, _, rfl, st6.up (s7.trans (s8.trans s9)), s9.own owf8, dx6.mono (s7.g.trans (s8.g.trans s9.g)), s9.own owd8⟩
      · subst hσ
        have et : ∀ m, (List.range m).take (List.range m).length = List.range m := fun m => List.take_length
        rw [et] at dx6 owd6
        have eE : (List.range (if row.length < most then n else 0)).foldl (exStep here row) (bfs n most T k) = bfs n most T (k + 1) := hs.symm
        rw [eE] at dx6 owd6
        have hk1 : k + 1 ≤ (bfs n most T (k + 1)).length := by
          rw [hs]
          exact (phi_step (n := n) ex nok.short).2
        refine s_asgI (n := ((k + 1 : Nat) : Int)) (Cn.two st6.i owf6 owd6) ((e_I0 (f := fun i j => i + j) (e_var rfl (.int _)) e_int).eq rfl) fun G8 H8 s8 => ⟨5461 - (k + 1), G8, by omega, k + 1, xs, _, _, _, _, rfl, hk1, rfl, st6.up s8, s8.own owf6, s8.das dx6, s8.own owd6⟩
    · have hk2 : (bfs n most T k).length ≤ k := by
        have : ¬ k < (bfs n most T k).length := by simpa using hh
        omega
      have ee := bfs_end (by omega) hk2
      have owf2 := s2.own owf
      have k1 := Own.know s2.i owf2
      have sF : Stp [] G H G2 H2 := s1.comp (st.up s2) fun c hc => by
        rcases (by simpa using hc : c = f ∨ c = d) with z | z
        · rw [z]; exact .inr hf
        · rw [z]; exact .inr hd
      exact s_retO (Cn.nil k1.1) rfl (q (.ref f) (upd G2 f (.lst xs)) H2 (sF.know owf2 hf) (by rw [ee]; exact .lst upd_same ((s2.das dx).mono k1.2)))
end N41
/-! W11: far tables. -/
namespace N41
open PySem PySem.Spec PyProof.Rows L2
structure AK where
  T : Tab
  n : Nat
  k : Nat
abbrev sp__law_is_far : Sp := SpF (fun a : AK => [tD a.T]) (fun a => Sq a.n a.T ∧ 1 ≤ a.n ∧ a.n ≤ 4 ∧ Lt2 a.k a.T ∧ a.k ≤ 400) (fun a => .bool (isFar a.n a.T))
theorem cal__law_is_far {P : Program} {w : World} {K : PySem.W.Frag} {mg : Str → Option Value} {base : Heap} (B : Blt mg) (D : FD K mg "_law_is_far" st__law_is_far) :
    CalG P w K mg base 1 "_law_is_far" sp__law_is_far := by
  obtain ⟨f, fd, F, hdf⟩ := D.ex
  refine calG0 (N := N__law_is_far) F (F.fn.binds hdf fun _ _ _ _ _ _ us hl => match us, hl with | [_], _ => rfl) sc__law_is_far (fun vs H Q E h => ?_) fun cdv A outer s H vs Q E hgu hr h => ⟨_, (pss_cons (ps_set (i := 1) nd__law_is_far rfl (Or.inl rfl) (pe_callB (r := rLen K) c_len (by rfl) B.len bt_len (pa_cons (pe_ix (r := rIxT K) ix_tup (pv 0) pe_int (fun _ _ => rfl)) pa_nil)))
 (pss_cons (ps_for PassesOwn.never rfl (pi_range1 (by rfl) B.range (pa_cons (pv 1) pa_nil)) (pg_name (i := 2) nd__law_is_far rfl (Or.inl rfl)) (pss_one (ps_for PassesOwn.never rfl (pi_range1 (by rfl) B.range (pa_cons (pv 2) pa_nil)) (pg_name (i := 3) nd__law_is_far rfl (Or.inl rfl)) (pss_one (ps_if (pt_cmpR op_lt (pe_op op_mulW (pe_ix (r := rIxT K) ix_tup (pe_ix (r := rIxT K) ix_tup (pv 0) (pv 2) (fun _ _ => rfl)) (pv 3) (fun _ _ => rfl)) (pe_ix (r := rIxT K) ix_tup (pe_ix (r := rIxT K) ix_tup (pv 0) (pv 3) (fun _ _ => rfl)) (pv 2) (fun _ _ => rfl))) (pe_un un_neg pe_int) (nomark _)) (pss_one (ps_ret pe_bl)) pss_nil)))))
 (pss_one (ps_ret pe_bl)))), ?_⟩
  · exact h.ln fun _ => rfl
  · obtain ⟨⟨T, n, k⟩, G, gh, dv, pre, q⟩ := h
    obtain ⟨hq, h1, h4, hl, hk⟩ : Sq n T ∧ 1 ≤ n ∧ n ≤ 4 ∧ Lt2 k T ∧ k ≤ 400 := pre
    have hb := hq.bd h1 h4
    obtain ⟨vT, rfl, dT⟩ := (show Das G vs [tD T] from dv).inv1
    refine q_asgI (Cn.nil gh) (e_row0 hb (e_var rfl dT)) fun G1 H1 s1 => ?_
    have dT1 := s1.da dT
    refine q_for (List.range n) natD (Cn.nil s1.i) (i_rng (a_cons (e_var rfl (.int _)) a_nil) (by omega)) (fun G5 _ i σ' G' H' => Same G5 G' ∧ ∃ (y2 y3 : Option V), σ' = [some vT, some (vN n), y2, y3] ∧ Stp [] G1 H1 G' H' ∧ ∀ a, a < i → ∀ b, b < a → farAt T a b = false)
      (fun G5 H5 s5 => ⟨Same.refl _, _, _, rfl, s5, fun a ha => by omega⟩) (fun _ _ _ _ _ _ ⟨h, _, _, _, s, _⟩ => ⟨h, s.i⟩) (fun G5 H5 i a σ' G' H' x G6 H6 s5 eo ⟨sg, y2, y3, hσ, st, hno⟩ s6 dxx => ?_) (fun G5 H5 σ' G' H' s5 ⟨sg, y2, y3, hσ, st, hno⟩ => ?_)
    · subst hσ
      cases dxx.inv_int
      have hin : i < n := by
        have := (List.getElem?_eq_some_iff.mp eo).1
        rwa [List.length_range] at this
      have hst : a = i := by
        rw [List.getElem?_range hin] at eo
        exact (Option.some.inj eo).symm
      subst hst
      refine s_forN (List.range a) natD (Cn.nil s6.i) (i_rng (a_cons (e_var rfl (.int _)) a_nil) (by omega)) (fun G7 _ j σ' G'' H'' => Same G7 G'' ∧ ∃ (y3 : Option V), σ' = [some vT, some (vN n), some (vN a), y3] ∧ Stp [] G6 H6 G'' H'' ∧ ∀ b, b < j → farAt T a b = false)
        (fun G7 H7 s7 => ⟨Same.refl _, _, rfl, s7, fun b hb => by omega⟩) (fun _ _ _ _ _ _ ⟨h, _, _, s, _⟩ => ⟨h, s.i⟩) (fun G7 H7 j b σ' G8 H8 x2 G9 H9 s7 ej ⟨sg7, y3, hσ, st8, hno8⟩ s9 dx2 => ?_) (fun G7 H7 σ' G8 H8 s7 ⟨sg7, y3, hσ, st8, hno8⟩ => ?_)
      · subst hσ
        cases dx2.inv_int
        have hjn : j < a := by
          have := (List.getElem?_eq_some_iff.mp ej).1
          rwa [List.length_range] at this
        have hja : b = j := by
          rw [List.getElem?_range hjn] at ej
          exact (Option.some.inj ej).symm
        subst hja
        have dT9 : Da G9 vT (tD T) := dT1.mono (st.g.trans (s6.g.trans (st8.g.trans s9.g)))
        have hlT := hq.len
        refine s_when (b := farAt T a b) (Cn.nil s9.i) ((b_test (e_B0 (f := fun i j => decide (i < j)) (e_I (f := fun i j => i * j) (e_cell hq.rows (by omega) (by omega) (e_var rfl dT9) (e_var rfl (.int _)) (e_var rfl (.int _))) (e_cell hq.rows (by omega) hin (e_var rfl dT9) (e_var rfl (.int _)) (e_var rfl (.int _))) (mulW (k := k) (m := k) (hl.cell _ _) (hl.cell _ _) (by omega) (by omega))) (e_neg e_int))).eq rfl) (fun hh GA HA sA => ?_) (fun hh GA HA sA => ?_)
        · refine s_ret (Cn.nil sA.i) e_bl fun v GB HB sB dv => q v GB HB (s1.trans (st.trans (s6.trans (st8.trans (s9.trans (sA.trans sB)))))) ?_
          have e : isFar n T = true := List.any_eq_true.mpr ⟨a, List.mem_range.mpr hin, List.any_eq_true.mpr ⟨b, List.mem_range.mpr hjn, hh⟩⟩
          show Da GB v (.bool (isFar n T))
          rw [e]
          exact dv
        · refine ⟨GA, sg7.trans (s9.g.trans sA.g), _, rfl, st8.trans (s9.trans sA), fun c hc => ?_⟩
          by_cases z : c = b
          · rw [z]; exact hh
          · exact hno8 c (by omega)
      · subst hσ
        rw [List.length_range] at hno8
        refine ⟨G8, sg.trans (s6.g.trans st8.g), _, _, rfl, st.trans (s6.trans st8), fun c hc => ?_⟩
        by_cases z : c = a
        · rw [z]; exact hno8
        · exact hno c (by omega)
    · subst hσ
      rw [List.length_range] at hno
      refine s_ret (Cn.nil st.i) e_bl fun v GB HB sB dv => q v GB HB (s1.trans (st.trans sB)) ?_
      have e : isFar n T = false := by
        refine Bool.eq_false_iff.mpr fun z => ?_
        obtain ⟨a, ha, h2⟩ := List.any_eq_true.mp z
        obtain ⟨b, hb, h3⟩ := List.any_eq_true.mp h2
        rw [hno a (List.mem_range.mp ha) b (List.mem_range.mp hb)] at h3
        cases h3
      show Da GB v (.bool (isFar n T))
      rw [e]
      exact dv
theorem ex_fold {n : Nat} {here : Tab} {row : List Nat} {P : List Nat × Tab → Prop} (hs : ∀ p, p < n → P (row ++ [p], sw here p)) : ∀ (L : List Nat) (f : Fnd), (∀ p ∈ L, p < n) → (∀ x ∈ f, P x) → (keysF f).Nodup → (∀ x ∈ L.foldl (exStep here row) f, P x) ∧ (keysF (L.foldl (exStep here row) f)).Nodup
  | [], f, _, h1, h2 => ⟨h1, h2⟩
  | p :: L, f, hL, h1, h2 => by
    rw [List.foldl_cons]
    refine ex_fold hs L _ (fun q hq => hL q (by simp [hq])) ?_ ?_
    · unfold exStep
      split
      · exact h1
      · intro y hy
        rcases List.mem_append.mp hy with hy | hy
        · exact h1 y hy
        · have e : y = (row ++ [p], sw here p) := by simpa using hy
          rw [e]
          exact hs p (hL p (by simp))
    · unfold exStep
      split
      · exact h2
      · rename_i hn
        unfold keysF at hn h2 ⊢
        rw [List.map_append, List.nodup_append]
        refine ⟨h2, by simp, fun a ha b hb e => ?_⟩
        have : b = sw here p := by simpa using hb
        exact hn (by rw [← this, ← e]; exact ha)
def FarOk (n k : Nat) (x : List Nat × Tab) : Prop := Sq n x.2 ∧ Skw n x.2 ∧ LeE 12 x.2 ∧ x.1.length ≤ k
theorem FarOk.up {n k : Nat} {x : List Nat × Tab} (h : FarOk n k x) : FarOk n (k + 1) x := ⟨h.1, h.2.1, h.2.2.1, Nat.le_succ_of_le h.2.2.2⟩
abbrev sp__law_far_row : Sp := SpS (fun a : AT => [tD a.T]) (fun a => MPre a.n 0 a.T) (fun _ d => d = .none ∨ ∃ r, d = Prm.rowD r)
theorem cal__law_far_row {P : Program} {w : World} {K : PySem.W.Frag} {mg : Str → Option Value} {base : Heap} (B : Blt mg) (D : FD K mg "_law_far_row" st__law_far_row) (c__law_is_far : CalG P w K mg base 1 "_law_is_far" sp__law_is_far) (c__law_swap : CalG P w K mg base 1 "_law_swap" sp__law_swap) :
    CalG P w K mg base 2 "_law_far_row" sp__law_far_row := by
  obtain ⟨f, fd, F, hdf⟩ := D.ex
  refine calG0 (N := N__law_far_row) F (F.fn.binds hdf fun _ _ _ _ _ _ us hl => match us, hl with | [_], _ => rfl) sc__law_far_row (fun vs H Q E h => ?_) fun cdv A outer s H vs Q E hgu hr h => ⟨_, (pss_cons (ps_set (i := 1) nd__law_far_row rfl (Or.inl rfl) (pe_callB (r := rLen K) c_len (by rfl) B.len bt_len (pa_cons (pe_ix (r := rIxT K) ix_tup (pv 0) pe_int (fun _ _ => rfl)) pa_nil)))
 (pss_cons (ps_par (i := 2) (j := 3) rfl nd__law_far_row rfl rfl (by decide) rfl rfl (pa_cons (pe_lst (pa_cons (pe_tup (pa_cons (pe_tup pa_nil) (pa_cons (pe_slice (r := rSlA K) sl_tupA (pv 0) po_none (po_some (pv 1))) pa_nil))) pa_nil)) (pa_cons pe_int pa_nil)) (by rfl))
 (pss_cons (ps_set (i := 4) nd__law_far_row rfl (Or.inl rfl) (pe_disp (pps_cons (pe_callB (r := rRepr K) (c_repr hgu hr.u200) (by rfl) B.repr bt_repr (pa_cons (pe_slice (r := rSlA K) sl_tupA (pv 0) po_none (po_some (pv 1))) pa_nil)) pe_bl pps_nil) rfl rfl (by simp) (by decide)))
 (pss_cons (ps_while PassesOwn.never (pt_cmpR op_lt (pv 3) (pe_callB (r := rLen K) c_len (by rfl) B.len bt_len (pa_cons (pv 2) pa_nil)) (nomark _)) (pss_cons (ps_asg (pe_ix (r := rIxL K) ix_list (pv 2) (pv 3) (fun _ _ => rfl)) (pg_tupK (K := K) (n := 2) rfl rfl (pgs_cons (pg_name (i := 5) nd__law_far_row rfl (Or.inl rfl)) (pgs_cons (pg_name (i := 6) nd__law_far_row rfl (Or.inl rfl)) pgs_nil))))
 (pss_cons (ps_if (pt_val (pe_cg c__law_is_far hgu hr (by decide) (by rfl) (pa_cons (pv 6) pa_nil))) (pss_one (ps_ret (pv 5))) pss_nil)
 (pss_cons (ps_for PassesOwn.never rfl (pi_range1 (by rfl) B.range (pa_cons (pv 1) pa_nil)) (pg_name (i := 7) nd__law_far_row rfl (Or.inl rfl)) (pss_cons (ps_set (i := 8) nd__law_far_row rfl (Or.inl rfl) (pe_cg c__law_swap hgu hr (by decide) (by rfl) (pa_cons (pv 6) (pa_cons (pv 7) pa_nil))))
 (pss_one (ps_if (pt_cmp (pc_dnotin (hu_of hr) (pe_callB (r := rRepr K) (c_repr hgu hr.u200) (by rfl) B.repr bt_repr (pa_cons (pv 8) pa_nil)) (pv 4)) (by rfl)) (pss_cons (ps_asg pe_bl (pg_sub (pv 4) (pe_callB (r := rRepr K) (c_repr hgu hr.u200) (by rfl) B.repr bt_repr (pa_cons (pv 8) pa_nil)) (set_dict (hu_of hr))))
 (pss_one (ps_expr (pe_bm PySem.F.plainAttrs_list PySem.F.slot_list_append PySem.F.type_list_append mt_append (pv 2) (pa_cons (pe_tup (pa_cons (pe_op (r := rCatA K) op_catA (pv 5) (pe_tup (pa_cons (pv 7) pa_nil))) (pa_cons (pv 8) pa_nil))) pa_nil))))) pss_nil))))
 (pss_one (ps_set (i := 3) nd__law_far_row rfl (Or.inl rfl) (pe_op op_add (pv 3) pe_int)))))))
 (pss_one (ps_ret pe_non)))))), ?_⟩
  · exact h.ln fun _ => rfl
  · obtain ⟨⟨T, n⟩, G, gh, dv, hp, q⟩ := h
    have hp : MPre n 0 T := hp
    have h4 := hp.h4
    have hb := hp.sq.bd hp.h1 h4
    obtain ⟨vT, rfl, dT⟩ := (show Das G vs [tD T] from dv).inv1
    have q : ∀ (d : PyData) (v : V) (G2 H2 : Hp), (d = .none ∨ ∃ r, d = Prm.rowD r) → Stp [] G H G2 H2 → Da G2 v d → Q v H2 := q
    have hTT : (T.map rD).take n = T.map rD := List.take_of_length_le (by rw [List.length_map, hp.sq.len]; exact Nat.le_refl _)
    have tabE : ∀ {Γ0 : List (Addr × HO)} {σ : L2.St} {Gx : Hp} (hσ : σ[0]? = some (some vT)) (h1 : σ[1]? = some (some (vN n))) (hG : Same G Gx), EvD Γ0 (tSl (rSlA K) (tVar 0) tNoPart (tPart (tVar 1))) σ Gx (tD T) := fun {Γ0 σ Gx} hσ h1 hG => by
      have := e_slT (Γ := Γ0) (K := K) (n := n) (e_var hσ (dT.mono hG)) (o_some (e_var h1 (.int _)))
      rw [hTT] at this
      exact this
    refine q_asgI (Cn.nil gh) (e_row0 hb (e_var rfl dT)) fun Gm Hm sm => ?_
    refine q_parLD (Cn.nil sm.i) (l_lst (a_cons (e_tup (a_cons (e_tup a_nil (by decide)) (a_cons (tabE rfl rfl sm.g) a_nil)) (slack (by simp))) a_nil) (slack (by simp))) e_int fun v f xs G0 H0 s0 dv0 hf0 of0 dxf0 => ?_
    cases dv0.inv_int
    refine q_dispS (Cn.one s0.i of0) (e_reprT (tabE rfl rfl (sm.g.trans s0.g)) hp.sq h4 (hp.le.lt2 (k := 2) (by decide)) (by decide)) fun d G1 H1 s1' hd0 od => ?_
    have of := s1'.own of0
    have dxf := s1'.das dxf0
    have s1 : Stp [] G H G1 H1 := sm.trans (s0.trans s1')
    have hf := sm.free hf0
    have hd := sm.free (s0.free hd0)
    have hfd : f ≠ d := of0.ne hd0
    refine q_while (fun m σ' G' H' => ∃ (k : Nat) (F : Fnd) (xs : List V) (y5 y6 y7 y8 : Option V), m = 1771561 - k ∧ k ≤ F.length ∧ F.length ≤ 1 + 4 * k ∧ k ≤ 1771561 ∧ (∀ x ∈ F, FarOk n k x) ∧ (keysF F).Nodup ∧ (∀ x ∈ F.take k, NotFar x.2) ∧ σ' = [some vT, some (vN n), some (.ref f), some (vN k), some (.ref d), y5, y6, y7, y8] ∧ Stp [f, d] G1 H1 G' H' ∧ Own G' H' f (.lst xs) ∧ Das G' xs (F.map entD) ∧ Own G' H' d (.dK (SK (shF F)))) 1771561
      ⟨0, [([], T)], xs, _, _, _, _, rfl, by simp, by simp, by omega, fun x hx => by
        have e : x = ([], T) := by simpa using hx
        rw [e]
        exact ⟨hp.sq, hp.sk, fun r hr y hy => Nat.le_trans (hp.le r hr y hy) (by decide), Nat.le_refl _⟩, by simp [keysF], by simp, rfl, Stp.refl s1.i, of, dxf, od⟩ ?_
    rintro m σ' G' H' ⟨k, F, xs, y5, y6, y7, y8, rfl, hk, flen, hk3, fok, fnd, fnf, rfl, st, owf, dx, owd⟩
    refine ⟨_, decide (k < F.length), Cn.two st.i owf owd, (b_test (e_B0 (f := fun i j => decide (i < j)) (e_var rfl (.int _)) (e_lenO (l := f) (xs := xs) (by simp) rfl (by rw [dx.length, List.length_map])))).eq (by simp), fun hh G2 H2 s2 => ?_, fun hh G2 H2 s2 => ?_⟩
    · have hh : k < F.length := by simpa using hh
      obtain ⟨⟨row, here⟩, ex⟩ := get_of hh
      obtain ⟨hsq, hsk, hle, hrow⟩ : Sq n here ∧ Skw n here ∧ LeE 12 here ∧ row.length ≤ k := fok _ (List.mem_of_getElem? ex)
      have fok' : ∀ x ∈ F, FarOk n (k + 1) x := fun x hx => (fok x hx).up
      have hbh : Bd n here := hsq.bd hp.h1 h4
      have hl4 : Lt2 4 here := hle.lt2 (by decide)
      have owf2 := s2.own owf
      have owd2 := s2.own owd
      refine e_ixO (l := f) (xs := xs) (Γ := [(f, .lst xs), (d, .dK (SK (shF F)))]) (ds := F.map entD) (j := k) (d := entD (row, here)) (by simp) rfl (s2.das dx) (e_var rfl (.int _)) (by rw [List.getElem?_map, ex]; rfl) G2 H2 (Same.refl _) (Cn.two s2.i owf2 owd2) _ fun v G3 H3 s3 dv => ?_
      refine g_pair s3.i dv fun vr vh dr dh => ?_
      have owf3 := s3.own owf2
      have owd3 := s3.own owd2
      have st3 := st.up (s2.trans s3)
      have sFx : ∀ {G9 H9 : Hp}, Stp [] G3 H3 G9 H9 → Stp [] G H G9 H9 := fun s9 => s1.comp (st3.up s9) fun c hc => by
        rcases (by simpa using hc : c = f ∨ c = d) with z | z
        · rw [z]; exact .inr hf
        · rw [z]; exact .inr hd
      have hpre : Sq n here ∧ 1 ≤ n ∧ n ≤ 4 ∧ Lt2 4 here ∧ 4 ≤ 400 := ⟨hsq, hp.h1, h4, hl4, by decide⟩
      refine q_when (b := isFar n here) (Cn.two s3.i owf3 owd3) (b_B (e_cg (args := fun a : AK => [tD a.T]) (pre := fun a => Sq a.n a.T ∧ 1 ≤ a.n ∧ a.n ≤ 4 ∧ Lt2 a.k a.T ∧ a.k ≤ 400) (res := fun a => .bool (isFar a.n a.T)) (⟨here, n, 4⟩ : AK) (a_cons (e_var rfl dh) a_nil) hpre)) (fun hfar G4 H4 s4 => ?_) (fun hfar G4 H4 s4 => ?_)
      · exact s_ret (Cn.nil s4.i) (e_var rfl (s4.da dr)) fun v G5 H5 s5 dv => q _ v G5 H5 (.inr ⟨row, rfl⟩) (sFx (s4.trans s5)) dv
      · have hnf : NotFar here := notFar_of hsq hsk hfar
        have hl3 := le3_of hsq hnf
        have ftk : F.take (k + 1) = F.take k ++ [(row, here)] := by rw [List.take_add_one, ex]; rfl
        have hk1 : k + 1 ≤ 1771561 := by
          have nd2 : (keysF (F.take (k + 1))).Nodup := by
            unfold keysF at fnd ⊢
            rw [List.map_take]
            exact fnd.sublist (List.take_sublist _ _)
          have := few (n := n) h4 nd2 fun S hS => by
            obtain ⟨x, hx, rfl⟩ := List.mem_map.mp hS
            refine ⟨(fok x (List.mem_of_mem_take hx)).1, ?_⟩
            rw [ftk] at hx
            rcases List.mem_append.mp hx with hx | hx
            · exact fnf x hx
            · have e : x = (row, here) := by simpa using hx
              rw [e]; exact hnf
          unfold keysF at this
          rw [List.length_map, List.length_take] at this
          omega
        have owf4 := s4.own owf3
        have owd4 := s4.own owd3
        have st4 := st3.up s4
        refine q_for (List.range n) natD (Cn.two st4.i owf4 owd4) (i_rng (a_cons (e_var rfl (.int _)) a_nil) (by omega))
          (fun G5 _ j σ' G' H' => Same G5 G' ∧ ∃ (xs : List V) (y7 y8 : Option V), σ' = [some vT, some (vN n), some (.ref f), some (vN k), some (.ref d), some vr, some vh, y7, y8] ∧ Stp [f, d] G1 H1 G' H' ∧ Own G' H' f (.lst xs) ∧ Das G' xs ((((List.range n).take j).foldl (exStep here row) F).map entD) ∧ Own G' H' d (.dK (SK (shF (((List.range n).take j).foldl (exStep here row) F)))))
          (fun G5 H5 s5 => ⟨Same.refl _, xs, _, _, rfl, st4.up s5, s5.own owf4, s5.das (s4.das (s3.das (s2.das dx))), s5.own owd4⟩) (fun _ _ _ _ _ _ ⟨h, _, _, _, _, s, _⟩ => ⟨h, s.i⟩) (fun G5 H5 j pl σ' G6 H6 x G7 H7 s5 eo ⟨sg, xs, y7, y8, hσ, st6, owf6, dx6, owd6⟩ s7 dxx => ?_) (fun G5 H5 σ' G6 H6 s5 ⟨sg, xs, y7, y8, hσ, st6, owf6, dx6, owd6⟩ => ?_)
        · subst hσ
          cases dxx.inv_int
          have hjm : j < n := by
            have := (List.getElem?_eq_some_iff.mp eo).1
            rwa [List.length_range] at this
          have hja : pl = j := by
            rw [List.getElem?_range hjm] at eo
            exact (Option.some.inj eo).symm
          subst hja
          rw [take_fold _ _ hjm]
          obtain ⟨more, em, lm, _⟩ := foldl_more here row ((List.range n).take pl) F
          rw [List.length_take, List.length_range] at lm
          obtain ⟨fok2, fnd2⟩ := ex_fold (n := n) (here := here) (row := row) (P := FarOk n (k + 1)) (fun p hpn => ⟨sw_sq hsq p, sw_skw hsq.rows (Nat.le_of_eq hsq.len.symm) hpn hsk, sw_le12 hl3, by show (row ++ [p]).length ≤ k + 1; rw [List.length_append]; exact Nat.succ_le_succ hrow⟩) ((List.range n).take pl) F (fun p hp => List.mem_range.mp (List.mem_of_mem_take hp)) fok' fnd
          have fl : (((List.range n).take pl).foldl (exStep here row) F).length ≤ 7200000 := by
            rw [em, List.length_append]
            omega
          generalize ((List.range n).take pl).foldl (exStep here row) F = F2 at dx6 owd6 fl fok2 ⊢
          have lt2 : Lt2 4 (sw here pl) := (sw_le12 hl3).lt2 (by decide)
          have hmem : (tD (sw here pl)).shown ∈ shF F2 ↔ sw here pl ∈ keysF F2 := mem_shF (fun x hx => (fok2 x hx).1) (sw_sq hsq pl)
          have dh7 : Da G7 vh (tD here) := (s4.da dh).mono (s5.g.trans (sg.trans s7.g))
          have dr7 : Da G7 vr (Prm.rowD row) := (s4.da dr).mono (s5.g.trans (sg.trans s7.g))
          have owf7 := s7.own owf6
          have owd7 := s7.own owd6
          refine q_asg (Cn.two s7.i owf7 owd7) (e_cg (⟨here, pl, n, 4⟩ : ASw) (a_cons (e_var rfl dh7) (a_cons (e_var rfl (.int _)) a_nil)) ⟨hbh, hjm, hl4, (by decide : 4 ≤ 400)⟩) fun vt G8 H8 s8 dt => ?_
          have dt : Da G8 vt (tD (sw here pl)) := dt
          have owf8 := s8.own owf7
          have owd8 := s8.own owd7
          have xl : xs.length = F2.length := by rw [dx6.length, List.length_map]
          have kl : (shF F2).length = F2.length := by unfold shF; rw [List.length_map]
          refine s_when (b := !decide (sw here pl ∈ keysF F2)) (Cn.two s8.i owf8 owd8) ((b_ninS (l := d) (ss := shF F2) (by simp) rfl (e_reprT (e_var rfl dt) (sw_sq hsq pl) h4 lt2 (by decide))).eq (by simp only [hmem])) (fun hh G9 H9 s9 => ?_) (fun hh G9 H9 s9 => ?_)
          · have hn : sw here pl ∉ keysF F2 := by simpa using hh
            have ef : exStep here row F2 pl = F2 ++ [(row ++ [pl], sw here pl)] := by
              unfold exStep
              rw [if_neg hn]
            rw [ef]
            refine q_putS (ss := shF F2) (Cn.two s9.i (s9.own owf8) (s9.own owd8)) rfl (s9.own owd8) (e_reprT (e_var rfl (s9.da dt)) (sw_sq hsq pl) h4 lt2 (by decide)) (fun z => hn (hmem.mp z)) (small7 (by omega)) fun GA HA sA oA => ?_
            have owfA := sA.ownM (by simp [hfd]) (s9.own owf8)
            refine s_app (Cn.two sA.i owfA oA) rfl owfA (d := entD (row ++ [pl], sw here pl)) (e_tup (a_cons ((e_catT (e_var rfl (dr7.mono (s8.g.trans (s9.g.trans sA.g)))) (e_tup (a_cons (e_var rfl (.int _)) a_nil) (slack (by simp))) (Nat.le_of_lt (small7 (by simp; omega)))).eq (d' := Prm.rowD (row ++ [pl])) (by unfold Prm.rowD; rw [List.map_append]; rfl)) (a_cons (e_var rfl ((s9.da dt).mono sA.g)) a_nil)) (slack (by simp))) (small7 (by omega)) fun v GB HB sB dv stB oB => ?_
            refine ⟨GB, sg.trans (s7.g.trans (s8.g.trans (s9.g.trans (sA.g.trans sB.g)))), xs ++ [v], _, _, rfl, ((st6.up (s7.trans (s8.trans s9))).trans (sA.weak (by simp))).trans (stB.weak (by simp)), oB, ?_, ?_⟩
            · rw [List.map_append]
              exact ((dx6.mono (s7.g.trans (s8.g.trans (s9.g.trans sA.g)))).mono sB.g).snoc dv
            · have e : shF (F2 ++ [(row ++ [pl], sw here pl)]) = shF F2 ++ [(tD (sw here pl)).shown] := by
                unfold shF
                rw [List.map_append]
                rfl
              rw [e]
              exact (sB.own oA).putN hfd.symm
          · have hn : sw here pl ∈ keysF F2 := by simpa using hh
            have ef : exStep here row F2 pl = F2 := by
              unfold exStep
              rw [if_pos hn]
            rw [ef]
            exact ⟨G9, sg.trans (s7.g.trans (s8.g.trans s9.g)), xs, _, _, rfl, st6.up (s7.trans (s8.trans s9)), s9.own owf8, dx6.mono (s7.g.trans (s8.g.trans s9.g)), s9.own owd8⟩
        · subst hσ
          have et : (List.range n).take (List.range n).length = List.range n := List.take_length
          rw [et] at dx6 owd6
          obtain ⟨more, em, lm, _⟩ := foldl_more here row (List.range n) F
          rw [List.length_range] at lm
          obtain ⟨fok2, fnd2⟩ := ex_fold (n := n) (here := here) (row := row) (P := FarOk n (k + 1)) (fun p hpn => ⟨sw_sq hsq p, sw_skw hsq.rows (Nat.le_of_eq hsq.len.symm) hpn hsk, sw_le12 hl3, by show (row ++ [p]).length ≤ k + 1; rw [List.length_append]; exact Nat.succ_le_succ hrow⟩) (List.range n) F (fun p hp => List.mem_range.mp hp) fok' fnd
          refine s_asgI (n := ((k + 1 : Nat) : Int)) (Cn.two st6.i owf6 owd6) ((e_I0 (f := fun i j => i + j) (e_var rfl (.int _)) e_int).eq rfl) fun G8 H8 s8 => ⟨1771561 - (k + 1), G8, by omega, k + 1, _, xs, _, _, _, _, rfl, ?_, ?_, hk1, fok2, fnd2, ?_, rfl, st6.up s8, s8.own owf6, s8.das dx6, s8.own owd6⟩
          · rw [em, List.length_append]; omega
          · rw [em, List.length_append]; omega
          · intro x hx
            rw [em, List.take_append_of_le_length (by omega), ftk] at hx
            rcases List.mem_append.mp hx with hx | hx
            · exact fnf x hx
            · have e : x = (row, here) := by simpa using hx
              rw [e]; exact hnf
    · refine s_ret (Cn.nil s2.i) e_non fun v G5 H5 s5 dv => q _ v G5 H5 (.inl rfl) ?_ dv
      exact s1.comp (st.up (s2.trans s5)) fun c hc => by
        rcases (by simpa using hc : c = f ∨ c = d) with z | z
        · rw [z]; exact .inr hf
        · rw [z]; exact .inr hd
end N41
/-! W12: the least table; rows to boards and to trees. -/
namespace N41
open PySem PySem.Spec PyProof.Rows L2
abbrev sp__law_first : Sp := SpF (fun a : AT => [tD a.T]) (fun a => Sq a.n a.T ∧ 1 ≤ a.n ∧ a.n ≤ 4) (fun a => leastD a.n a.T)
theorem cal__law_first {P : Program} {w : World} {K : PySem.W.Frag} {mg : Str → Option Value} {base : Heap} (B : Blt mg) (D : FD K mg "_law_first" st__law_first) :
    CalG P w K mg base 1 "_law_first" sp__law_first := by
  obtain ⟨f, fd, F, hdf⟩ := D.ex
  refine calG0 (N := N__law_first) F (F.fn.binds hdf fun _ _ _ _ _ _ us hl => match us, hl with | [_], _ => rfl) sc__law_first (fun vs H Q E h => ?_) fun cdv A outer s H vs Q E hgu hr h => ⟨_, (pss_cons (ps_set (i := 1) nd__law_first rfl (Or.inl rfl) (pe_callB (r := rLen K) c_len (by rfl) B.len bt_len (pa_cons (pv 0) pa_nil)))
 (pss_cons (ps_set (i := 2) nd__law_first rfl (Or.inl rfl) (pe_lst (pa_cons (pe_tup pa_nil) pa_nil)))
 (pss_cons (ps_for PassesOwn.never rfl (pi_range1 (by rfl) B.range (pa_cons (pv 1) pa_nil)) (pg_name (i := 3) nd__law_first rfl (Or.inl rfl)) (pss_cons (ps_set (i := 4) nd__law_first rfl (Or.inl rfl) (pe_lst pa_nil))
 (pss_cons (ps_for PassesOwn.never rfl (pi_listK (K := K) rfl (pv 2)) (pg_name (i := 5) nd__law_first rfl (Or.inr rfl)) (pss_one (ps_expr (pe_bm PySem.F.plainAttrs_list PySem.F.slot_list_extend PySem.F.type_list_extend mt_extend (pv 4) (pa_cons (pe_lc (own := [("_law_place", 6)]) rfl nd__law_first (pi_range1 (by rfl) B.range (pa_cons (pv 1) pa_nil)) (blkOk_by (by kernel_rfl)) (fun _ _ _ _ _ => (pg_name (i := 6) nd__law_first rfl (Or.inl rfl))) (fun _ _ _ _ _ => (pts_one (pt_cmpR (r := rIn K true) op_notIn_seq (pv 6) (pv 5) (by rfl)))) (fun _ _ _ _ _ => (pe_op (r := rCatA K) op_catA (pv 5) (pe_tup (pa_cons (pv 6) pa_nil))))) pa_nil)))))
 (pss_one (ps_set (i := 2) nd__law_first rfl (Or.inl rfl) (pv 4))))))
 (pss_one (ps_ret (pe_callB (r := rMinD K) (c_minD rfl hr.u200) (by rfl) B.min bt_min (pa_cons (pe_lc (own := [("_law_order_here", 5)]) rfl nd__law_first (pi_listK (K := K) rfl (pv 2)) (blkOk_by (by kernel_rfl)) (fun _ _ _ _ _ => (pg_name (i := 5) nd__law_first rfl (Or.inr rfl))) (fun _ _ _ _ _ => pts_nil) (fun _ _ _ _ _ => (pe_callTy (r := rTup K) c_tup (by rfl) B.tuple bt_tuple (pa_cons (pe_lc (own := [("_law_at", 3)]) rfl nd__law_first (pi_tupK (K := K) rfl (pv 5)) (blkOk_by (by kernel_rfl)) (fun _ _ _ _ _ => (pg_name (i := 3) nd__law_first rfl (Or.inr rfl))) (fun _ _ _ _ _ => pts_nil) (fun _ _ _ _ _ => (pe_callTy (r := rTup K) c_tup (by rfl) B.tuple bt_tuple (pa_cons (pe_lc (own := [("_law_to", 7)]) rfl nd__law_first (pi_tupK (K := K) rfl (pv 5)) (blkOk_by (by kernel_rfl)) (fun _ _ _ _ _ => (pg_name (i := 7) nd__law_first rfl (Or.inl rfl))) (fun _ _ _ _ _ => pts_nil) (fun _ _ _ _ _ => (pe_ix (r := rIxT K) ix_tup (pe_ix (r := rIxT K) ix_tup (pv 0) (pv 3) (fun _ _ => rfl)) (pv 7) (fun _ _ => rfl)))) pa_nil)))) pa_nil)))) pa_nil))))))), ?_⟩
  · exact h.ln fun _ => rfl
  · obtain ⟨⟨T, n⟩, G, gh, dv, pre, q⟩ := h
    obtain ⟨hq, h1, h4⟩ : Sq n T ∧ 1 ≤ n ∧ n ≤ 4 := pre
    obtain ⟨vT, rfl, dT⟩ := (show Das G vs [tD T] from dv).inv1
    have hlT : (T.map rD).length = n := by rw [List.length_map, hq.len]
    refine q_asgI (Cn.nil gh) (e_lenT (e_var rfl dT) hlT) fun G1 H1 s1 => ?_
    refine q_asg (d := .list ((ordIt n 0).map Prm.rowD)) (Cn.nil s1.i) ((l_lst (a_cons (e_tup a_nil (by decide)) a_nil) (by decide)).toD) fun vO G2 H2 s2 dO => ?_
    have dT2 := s2.da (s1.da dT)
    refine q_for (List.range n) natD (Cn.nil s2.i) (i_rng (a_cons (e_var rfl (.int _)) a_nil) (by omega)) (fun G5 _ i σ' G' H' => Same G5 G' ∧ ∃ (vO : V) (y3 y4 y5 y6 y7 : Option V), σ' = [some vT, some (vN n), some vO, y3, y4, y5, y6, y7] ∧ Stp [] G2 H2 G' H' ∧ Da G' vO (.list ((ordIt n i).map Prm.rowD)) ∧ i ≤ n)
      (fun G5 H5 s5 => ⟨Same.refl _, vO, _, _, _, _, _, rfl, s5, s5.da dO, by omega⟩) (fun _ _ _ _ _ _ ⟨h, _, _, _, _, _, _, _, s, _⟩ => ⟨h, s.i⟩) (fun G5 H5 i a σ' G' H' x G6 H6 s5 eo ⟨sg, vO, y3, y4, y5, y6, y7, hσ, st, dO, hin⟩ s6 dxx => ?_) (fun G5 H5 σ' G' H' s5 ⟨sg, vO, y3, y4, y5, y6, y7, hσ, st, dO, hin⟩ => ?_)
    · subst hσ
      have hil : i < n := by
        have := (List.getElem?_eq_some_iff.mp eo).1
        rwa [List.length_range] at this
      obtain ⟨ob, oel⟩ := ord_bnd n h4 i (by omega)
      obtain ⟨ob1, _⟩ := ord_bnd n h4 (i + 1) (by omega)
      refine q_asgL (Cn.nil s6.i) (l_lst a_nil (by decide)) fun l xs0 G7 H7 s7 hl o7 dx7 => ?_
      cases dx7
      refine q_for (ordIt n i) Prm.rowD (Cn.one s7.i o7) (i_list (e_var rfl (s7.da (s6.da dO)))) (fun G8 _ j σ' G'' H'' => Same G8 G'' ∧ ∃ (xs : List V) (y5 y6 y7 : Option V), σ' = [some vT, some (vN n), some vO, some x, some (.ref l), y5, y6, y7] ∧ Stp [l] G7 H7 G'' H'' ∧ Own G'' H'' l (.lst xs) ∧ Das G'' xs ((ordStep n ((ordIt n i).take j)).map Prm.rowD))
        (fun G8 H8 s8 => ⟨Same.refl _, [], _, _, _, rfl, s8.of0, s8.own o7, .nil⟩) (fun _ _ _ _ _ _ ⟨h, _, _, _, _, _, s, _⟩ => ⟨h, s.i⟩) (fun G8 H8 j o σ' G9 H9 x2 GA HA s8 ej ⟨sg8, xs, y5, y6, y7, hσ, st9, ow9, dx9⟩ sA dx2 => ?_) (fun G8 H8 σ' G9 H9 s8 ⟨sg8, xs, y5, y6, y7, hσ, st9, ow9, dx9⟩ => ?_)
      · subst hσ
        obtain ⟨ol, oi⟩ := oel o (List.mem_of_getElem? ej)
        have owA := sA.own ow9
        have e1 : ordStep n ((ordIt n i).take (j + 1)) = ordStep n ((ordIt n i).take j) ++ ((List.range n).filter fun p => !decide (p ∈ o)).map fun p => o ++ [p] := by
          unfold ordStep
          rw [flat_snoc _ ej]
        have hle : (ordStep n ((ordIt n i).take (j + 1))).length ≤ 100 := by
          have e2 : ordStep n (ordIt n i) = ordStep n ((ordIt n i).take (j + 1)) ++ ordStep n ((ordIt n i).drop (j + 1)) := by
            unfold ordStep
            rw [← List.flatMap_append, List.take_append_drop]
          have e3 : (ordStep n (ordIt n i)).length ≤ 100 := ob1
          rw [e2, List.length_append] at e3
          omega
        have hxl : xs.length = (ordStep n ((ordIt n i).take j)).length := by rw [dx9.length, List.length_map]
        rw [e1, List.length_append] at hle
        refine s_ext (Cn.one sA.i owA) rfl owA ((l_lcN (j := 6) (List.range n) natD (fun p => !decide (p ∈ o)) (fun p => Prm.rowD (o ++ [p])) (i_rng (a_cons (e_var rfl (.int _)) a_nil) (by omega)) (small (by rw [List.length_range]; omega)) (fun _ => rfl) fun p G3 y hp e3 dy => ?_).toD) (slack ?_) fun ys GB HB sB dy stB oB => ⟨GB, sg8.trans (sA.g.trans sB.g), xs ++ ys, _, _, _, rfl, (st9.up sA).trans stB, oB, ?_⟩
        · cases dy.inv_int
          exact ⟨(b_test (e_inTN (neg := true) (ns := o) (e_var rfl (.int _)) (e_var rfl (dx2.mono e3)))).eq rfl, fun _ => (e_catT (e_var rfl (dx2.mono e3)) (e_tup (a_cons (e_var rfl (.int _)) a_nil) (slack (by simp))) (slack (by simp; omega))).eq (by unfold Prm.rowD; rw [List.map_append]; rfl)⟩
        · rw [List.length_map] at hle ⊢
          omega
        · rw [e1, List.map_append, List.map_map]
          exact (((dx9.mono sA.g).mono sB.g)).append dy
      · subst hσ
        rw [List.take_length] at dx9
        have sB : Stp [] G2 H2 G9 H9 := (st.trans (s6.trans s7)).comp st9 fun c hc => by
          have z : c = l := by simpa using hc
          rw [z]
          exact .inr ((st.trans s6).free hl)
        have hl2 : H2 l = none := (st.trans s6).free hl
        have k1 := Own.know st9.i ow9
        have sK := sB.know ow9 hl2
        refine s_asg (Cn.nil sK.i) (e_var rfl (.lst upd_same (dx9.mono k1.2) : Da (upd G9 l (.lst xs)) (.ref l) (.list ((ordIt n (i + 1)).map Prm.rowD)))) fun v GB HB sC dv => ⟨GB, ?_, v, _, _, _, _, _, rfl, sK.trans sC, dv, by omega⟩
        exact sg.trans (s6.g.trans (s7.g.trans (st9.g.trans (k1.2.trans sC.g))))
    · subst hσ
      rw [List.length_range] at dO
      rw [ord_end n h1 h4] at dO
      have hz : ∀ n, n ≤ 4 → (Prm.perms n).length < 1000 := by decide +kernel
      have dT5 := st.da dT2
      refine s_ret (Cn.nil st.i) ((e_minD (l_lcM (j := 5) (Prm.perms n) Prm.rowD (fun o => tD (renM T o)) (i_list (e_var rfl dO)) (small (hz n h4)) (fun _ => rfl) fun o G3 x hm e3 dx => ?_).toD (renAll_pos h1 h4 T) (comp_ren h4 T)).eq (d' := leastD n T) rfl) fun v G4 H4 s4 dv => q v G4 H4 (s1.trans (s2.trans (st.trans s4))) dv
      obtain ⟨k1, k2⟩ := perms_ok n h4 o hm
      refine (e_tupleL (l_lcM (j := 3) o natD (fun i => rD (o.map fun j => cell T i j)) (i_tup (e_var rfl dx)) (small (by omega)) (fun _ => rfl) fun i G4 y him e4 dy => ?_).toD).eq (d' := tD (renM T o)) ?_
      · cases dy.inv_int
        refine (e_tupleL (l_lcM (j := 7) o natD (fun j => .int (cell T i j)) (i_tup (e_var rfl (dx.mono e4))) (small (by omega)) (fun _ => rfl) fun j G5 z hjm e5 dz => ?_).toD).eq (d' := rD (o.map fun j => cell T i j)) ?_
        · cases dz.inv_int
          exact e_cell hq.rows (by rw [hq.len]; exact k2 i him) (k2 j hjm) (e_var rfl (((dT5.mono e3).mono e4).mono e5)) (e_var rfl (.int _)) (e_var rfl (.int _))
        · unfold rD; rw [List.map_map]; rfl
      · unfold tD renM
        rw [List.map_map]
        rfl
theorem Das.inv3 {G : Hp} {vs : List V} {d1 d2 d3 : PyData} (h : Das G vs [d1, d2, d3]) : ∃ a b c, vs = [a, b, c] ∧ Da G a d1 ∧ Da G b d2 ∧ Da G c d3 := by
  cases h with
  | cons h1 h2 =>
    obtain ⟨b, c, rfl, h3, h4⟩ := h2.inv2
    exact ⟨_, _, _, rfl, h1, h3, h4⟩
theorem find_of {α : Type} (p : α → Bool) : ∀ {L : List α} {i : Nat} {a : α}, L[i]? = some a → p a = true → (∀ j b, j < i → L[j]? = some b → p b = false) → L.find? p = some a
  | [], _, _, e, _, _ => by simp at e
  | x :: L, 0, a, e, h, _ => by
    have : x = a := by simpa using e
    rw [this, List.find?_cons_of_pos h]
  | x :: L, i + 1, a, e, h, hn => by
    have h0 := hn 0 x (by omega) rfl
    rw [List.find?_cons_of_neg (by rw [h0]; exact Bool.false_ne_true)]
    exact find_of p (by simpa using e) h fun j b hj eb => hn (j + 1) b (by omega) (by simpa using eb)
theorem find_none {α : Type} (p : α → Bool) {L : List α} (hn : ∀ j b, j < L.length → L[j]? = some b → p b = false) : L.find? p = none := by
  refine List.find?_eq_none.mpr fun x hx => ?_
  obtain ⟨j, ej⟩ := List.mem_iff_getElem?.mp hx
  rw [hn j x (List.getElem?_eq_some_iff.mp ej).1 ej]
  exact Bool.false_ne_true
def optRow : Option (List Nat × Tab) → PyData
  | some x => Prm.rowD x.1
  | none => .none
def likeF (n : Nat) (d : PyData) (x : List Nat × Tab) : Bool := PyData.eqv (leastD n x.2) d
structure ARB where
  B : Tab
  n : Nat
  B2 : Tab
  n2 : Nat
  most : Nat
structure RBPre (a : ARB) : Prop where
  ok : Ok a.n a.B
  ok2 : Ok a.n2 a.B2
  mp : MPre a.n a.most (a.B.take a.n)
def resRB (a : ARB) : PyData := if a.n = a.n2 then optRow ((rowsF a.n a.most (a.B.take a.n)).find? (likeF a.n (leastD a.n2 (a.B2.take a.n2)))) else .none
abbrev sp_row_to_board : Sp := SpF (fun a : ARB => [tD a.B, tD a.B2, intD a.most]) RBPre resRB
theorem cal_row_to_board {P : Program} {w : World} {K : PySem.W.Frag} {mg : Str → Option Value} {base : Heap} (B : Blt mg) (D : FD K mg "row_to_board" st_row_to_board) (c_checked_board : CalG P w K mg base 4 "checked_board" sp_checked_board) (c_check_most : CalG P w K mg base 1 "check_most" sp_check_most) (c_least_renamed : CalG P w K mg base 2 "least_renamed" sp_least_renamed) (c_table_of : CalG P w K mg base 1 "table_of" sp_table_of) (c_first_rows : CalG P w K mg base 2 "first_rows" sp_first_rows) :
    CalG P w K mg base 5 "row_to_board" sp_row_to_board := by
  obtain ⟨f, fd, F, hdf⟩ := D.ex
  refine calG0 (N := N_row_to_board) F (F.fn.binds hdf fun _ _ _ _ _ _ us hl => match us, hl with | [_, _, _], _ => rfl) sc_row_to_board (fun vs H Q E h => ?_) fun cdv A outer s H vs Q E hgu hr h => ⟨_, (pss_cons (ps_expr (pe_cg c_checked_board hgu hr (by decide) (by rfl) (pa_cons (pv 0) pa_nil)))
 (pss_cons (ps_expr (pe_cg c_checked_board hgu hr (by decide) (by rfl) (pa_cons (pv 1) pa_nil)))
 (pss_cons (ps_expr (pe_cg c_check_most hgu hr (by decide) (by rfl) (pa_cons (pv 2) pa_nil)))
 (pss_cons (ps_if (pt_cmpR op_ne (pe_callB (r := rLen K) c_len (by rfl) B.len bt_len (pa_cons (pe_ix (r := rIxT K) ix_tup (pv 0) pe_int (fun _ _ => rfl)) pa_nil)) (pe_callB (r := rLen K) c_len (by rfl) B.len bt_len (pa_cons (pe_ix (r := rIxT K) ix_tup (pv 1) pe_int (fun _ _ => rfl)) pa_nil)) (nomark _)) (pss_one (ps_ret pe_non)) pss_nil)
 (pss_cons (ps_set (i := 3) nd_row_to_board rfl (Or.inl rfl) (pe_cg c_least_renamed hgu hr (by decide) (by rfl) (pa_cons (pe_cg c_table_of hgu hr (by decide) (by rfl) (pa_cons (pv 1) pa_nil)) pa_nil)))
 (pss_cons (ps_for PassesOwn.never rfl (pi_listK (K := K) rfl (pe_cg c_first_rows hgu hr (by decide) (by rfl) (pa_cons (pv 0) (pa_cons (pv 2) pa_nil)))) (pg_tupK (K := K) (n := 2) rfl rfl (pgs_cons (pg_name (i := 4) nd_row_to_board rfl (Or.inl rfl)) (pgs_cons (pg_name (i := 5) nd_row_to_board rfl (Or.inl rfl)) pgs_nil))) (pss_one (ps_if (pt_cmpR (r := rEqD K) (op_eqD hr.units) (pe_cg c_least_renamed hgu hr (by decide) (by rfl) (pa_cons (pv 5) pa_nil)) (pv 3) (nomark _)) (pss_one (ps_ret (pv 4))) pss_nil)))
 (pss_one (ps_ret pe_non)))))))), ?_⟩
  · exact h.ln fun _ => rfl
  · obtain ⟨⟨B, n, B2, n2, most⟩, G, gh, dv, ⟨ok, ok2, mp⟩, q⟩ := h
    have ok : Ok n B := ok
    have ok2 : Ok n2 B2 := ok2
    have mp : MPre n most (B.take n) := mp
    have q : ∀ (v : V) (G2 H2 : Hp), Stp [] G H G2 H2 → Da G2 v (resRB ⟨B, n, B2, n2, most⟩) → Q v H2 := q
    obtain ⟨vB, vB2, vm, rfl, dB, dB2, dm⟩ := Das.inv3 (show Das G vs [tD B, tD B2, intD most] from dv)
    · cases dm.inv_int
      refine q_drop (Cn.nil gh) (e_cg (⟨B, n⟩ : AB) (a_cons (e_var rfl dB) a_nil) ok) fun G1 H1 s1 => ?_
      refine q_drop (Cn.nil s1.i) (e_cg (⟨B2, n2⟩ : AB) (a_cons (e_var rfl (s1.da dB2)) a_nil) ok2) fun G2 H2 s2 => ?_
      refine q_drop (Cn.nil s2.i) (e_cg (ι := Nat) most (a_cons (e_var rfl (.int _)) a_nil) trivial) fun G3 H3 s3 => ?_
      have sA : Stp [] G H G3 H3 := s1.trans (s2.trans s3)
      have dB3 := sA.da dB
      have dB23 := sA.da dB2
      refine q_when (b := !decide (n = n2)) (Cn.nil s3.i) ((b_test (e_neI (e_row0 ok.bd (e_var rfl dB3)) (e_row0 ok2.bd (e_var rfl dB23)))).eq (by simp [Int.ofNat_inj])) (fun hh G4 H4 s4 => ?_) (fun hh G4 H4 s4 => ?_)
      · have hne : ¬ n = n2 := by simpa using hh
        refine s_ret (Cn.nil s4.i) e_non fun v G5 H5 s5 dv => q v G5 H5 (sA.trans (s4.trans s5)) ?_
        unfold resRB
        rw [if_neg hne]
        exact dv
      · have hnn : n = n2 := by simpa using hh
        subst hnn
        refine q_asg (Cn.nil s4.i) (e_cg (⟨B2.take n, n⟩ : AT) (a_cons (e_cg (⟨B2, n⟩ : AB) (a_cons (e_var rfl (s4.da dB23)) a_nil) ok2.bd) a_nil) ⟨ok2.bd.top, mp.h1, mp.h4⟩) fun vw G5 H5 s5 dw => ?_
        have dw : Da G5 vw (leastD n (B2.take n)) := dw
        have dB5 := s5.da (s4.da dB3)
        have e1 : resRB ⟨B, n, B2, n, most⟩ = optRow ((rowsF n most (B.take n)).find? (likeF n (leastD n (B2.take n)))) := if_pos rfl
        rw [e1] at q
        have sB : Stp [] G H G5 H5 := sA.trans (s4.trans s5)
        have fok := bfs_ok (most := most) mp.sq mp.sk mp.le 5461
        obtain ⟨S2, sq2, e2⟩ := leastD_tab mp.h1 mp.h4 (B2.take n)
        refine q_for (rowsF n most (B.take n)) entD (Cn.nil s5.i) (i_list (e_cg (⟨B, n, most⟩ : AM) (a_cons (e_var rfl dB5) (a_cons (e_var rfl (.int _)) a_nil)) ⟨ok.bd, mp⟩)) (fun G6 _ i σ' G' H' => Same G6 G' ∧ ∃ (y4 y5 : Option V), σ' = [some vB, some vB2, some (vN most), some vw, y4, y5] ∧ Stp [] G5 H5 G' H' ∧ ∀ j b, j < i → (rowsF n most (B.take n))[j]? = some b → likeF n (leastD n (B2.take n)) b = false)
          (fun G6 H6 s6 => ⟨Same.refl _, _, _, rfl, s6, fun j b hj => by omega⟩) (fun _ _ _ _ _ _ ⟨h, _, _, _, s, _⟩ => ⟨h, s.i⟩) (fun G6 H6 i x σ' G' H' v G7 H7 s6 eo ⟨sg, y4, y5, hσ, st, hno⟩ s7 dx => ?_) (fun G6 H6 σ' G' H' s6 ⟨sg, y4, y5, hσ, st, hno⟩ => ?_)
        · subst hσ
          obtain ⟨row, here⟩ := x
          have nok := fok.node _ (List.mem_of_getElem? eo)
          refine g_pair s7.i dx fun vr vh dr dh => ?_
          obtain ⟨S1, sq1, e3⟩ := leastD_tab mp.h1 mp.h4 here
          have dw7 : Da G7 vw (leastD n (B2.take n)) := dw.mono (st.g.trans s7.g)
          refine s_when (b := likeF n (leastD n (B2.take n)) (row, here)) (Cn.nil s7.i) (b_test (e_eqD (e_cg (⟨here, n⟩ : AT) (a_cons (e_var rfl dh) a_nil) ⟨nok.sq, mp.h1, mp.h4⟩) (e_var rfl dw7) (by show SeqAt.shaped (leastD n here) = true; rw [e3]; exact shaped_tD _) (by rw [e2]; exact shaped_tD _))) (fun hh G8 H8 s8 => ?_) (fun hh G8 H8 s8 => ?_)
          · refine s_ret (Cn.nil s8.i) (e_var rfl (s8.da dr)) fun v G9 H9 s9 dv => q v G9 H9 (sB.trans (st.trans (s7.trans (s8.trans s9)))) ?_
            rw [find_of _ eo hh hno]
            exact dv
          · refine ⟨G8, sg.trans (s7.g.trans s8.g), _, _, rfl, st.trans (s7.trans s8), fun j b hj eb => ?_⟩
            by_cases z : j = i
            · subst z
              rw [eo] at eb
              cases eb
              exact hh
            · exact hno j b (by omega) eb
        · subst hσ
          refine s_ret (Cn.nil st.i) e_non fun v G9 H9 s9 dv => q v G9 H9 (sB.trans (st.trans s9)) ?_
          rw [find_none _ hno]
          exact dv
structure ART where
  B : Tab
  n : Nat
  most : Nat
structure RTPre (a : ART) : Prop where
  ok : Ok a.n a.B
  mp : MPre a.n a.most (a.B.take a.n)
def treeF (n : Nat) (x : List Nat × Tab) : Bool := progTree n (adjT x.2)
def resRT (a : ART) : PyData := optRow ((rowsF a.n a.most (a.B.take a.n)).find? (treeF a.n))
abbrev sp_row_to_tree : Sp := SpF (fun a : ART => [tD a.B, intD a.most]) RTPre resRT
theorem cal_row_to_tree {P : Program} {w : World} {K : PySem.W.Frag} {mg : Str → Option Value} {base : Heap} (B : Blt mg) (D : FD K mg "row_to_tree" st_row_to_tree) (c_checked_board : CalG P w K mg base 4 "checked_board" sp_checked_board) (c_check_most : CalG P w K mg base 1 "check_most" sp_check_most) (c_first_rows : CalG P w K mg base 2 "first_rows" sp_first_rows) (c_is_tree_table : CalG P w K mg base 3 "is_tree_table" sp_is_tree_table) :
    CalG P w K mg base 5 "row_to_tree" sp_row_to_tree := by
  obtain ⟨f, fd, F, hdf⟩ := D.ex
  refine calG0 (N := N_row_to_tree) F (F.fn.binds hdf fun _ _ _ _ _ _ us hl => match us, hl with | [_, _], _ => rfl) sc_row_to_tree (fun vs H Q E h => ?_) fun cdv A outer s H vs Q E hgu hr h => ⟨_, (pss_cons (ps_expr (pe_cg c_checked_board hgu hr (by decide) (by rfl) (pa_cons (pv 0) pa_nil)))
 (pss_cons (ps_expr (pe_cg c_check_most hgu hr (by decide) (by rfl) (pa_cons (pv 1) pa_nil)))
 (pss_cons (ps_for PassesOwn.never rfl (pi_listK (K := K) rfl (pe_cg c_first_rows hgu hr (by decide) (by rfl) (pa_cons (pv 0) (pa_cons (pv 1) pa_nil)))) (pg_tupK (K := K) (n := 2) rfl rfl (pgs_cons (pg_name (i := 2) nd_row_to_tree rfl (Or.inl rfl)) (pgs_cons (pg_name (i := 3) nd_row_to_tree rfl (Or.inl rfl)) pgs_nil))) (pss_one (ps_if (pt_val (pe_cg c_is_tree_table hgu hr (by decide) (by rfl) (pa_cons (pv 3) pa_nil))) (pss_one (ps_ret (pv 2))) pss_nil)))
 (pss_one (ps_ret pe_non))))), ?_⟩
  · exact h.ln fun _ => rfl
  · obtain ⟨⟨B, n, most⟩, G, gh, dv, ⟨ok, mp⟩, q⟩ := h
    have ok : Ok n B := ok
    have mp : MPre n most (B.take n) := mp
    have q : ∀ (v : V) (G2 H2 : Hp), Stp [] G H G2 H2 → Da G2 v (optRow ((rowsF n most (B.take n)).find? (treeF n))) → Q v H2 := q
    obtain ⟨vB, vm, rfl, dB, dm⟩ := (show Das G vs [tD B, intD most] from dv).inv2
    cases dm.inv_int
    refine q_drop (Cn.nil gh) (e_cg (⟨B, n⟩ : AB) (a_cons (e_var rfl dB) a_nil) ok) fun G1 H1 s1 => ?_
    refine q_drop (Cn.nil s1.i) (e_cg (ι := Nat) most (a_cons (e_var rfl (.int _)) a_nil) trivial) fun G3 H3 s3 => ?_
    have sB : Stp [] G H G3 H3 := s1.trans s3
    have dB5 := sB.da dB
    have fok := bfs_ok (most := most) mp.sq mp.sk mp.le 5461
    refine q_for (rowsF n most (B.take n)) entD (Cn.nil s3.i) (i_list (e_cg (⟨B, n, most⟩ : AM) (a_cons (e_var rfl dB5) (a_cons (e_var rfl (.int _)) a_nil)) ⟨ok.bd, mp⟩)) (fun G6 _ i σ' G' H' => Same G6 G' ∧ ∃ (y4 y5 : Option V), σ' = [some vB, some (vN most), y4, y5] ∧ Stp [] G3 H3 G' H' ∧ ∀ j b, j < i → (rowsF n most (B.take n))[j]? = some b → treeF n b = false)
      (fun G6 H6 s6 => ⟨Same.refl _, _, _, rfl, s6, fun j b hj => by omega⟩) (fun _ _ _ _ _ _ ⟨h, _, _, _, s, _⟩ => ⟨h, s.i⟩) (fun G6 H6 i x σ' G' H' v G7 H7 s6 eo ⟨sg, y4, y5, hσ, st, hno⟩ s7 dx => ?_) (fun G6 H6 σ' G' H' s6 ⟨sg, y4, y5, hσ, st, hno⟩ => ?_)
    · subst hσ
      obtain ⟨row, here⟩ := x
      have nok := fok.node _ (List.mem_of_getElem? eo)
      refine g_pair s7.i dx fun vr vh dr dh => ?_
      refine s_when (b := treeF n (row, here)) (Cn.nil s7.i) (b_B (e_cg (args := fun a : AT => [tD a.T]) (pre := fun a => Sq a.n a.T ∧ 1 ≤ a.n ∧ a.n ≤ 4) (res := fun a => .bool (progTree a.n (adjT a.T))) (⟨here, n⟩ : AT) (a_cons (e_var rfl dh) a_nil) ⟨nok.sq, mp.h1, mp.h4⟩)) (fun hh G8 H8 s8 => ?_) (fun hh G8 H8 s8 => ?_)
      · refine s_ret (Cn.nil s8.i) (e_var rfl (s8.da dr)) fun v G9 H9 s9 dv => q v G9 H9 (sB.trans (st.trans (s7.trans (s8.trans s9)))) ?_
        rw [find_of _ eo hh hno]
        exact dv
      · refine ⟨G8, sg.trans (s7.g.trans s8.g), _, _, rfl, st.trans (s7.trans s8), fun j b hj eb => ?_⟩
        by_cases z : j = i
        · subst z
          rw [eo] at eb
          cases eb
          exact hh
        · exact hno j b (by omega) eb
    · subst hσ
      refine s_ret (Cn.nil st.i) e_non fun v G9 H9 s9 dv => q v G9 H9 (sB.trans (st.trans s9)) ?_
      rw [find_none _ hno]
      exact dv
end N41
/-! W13: the deck. -/
namespace N41
open PySem PySem.Spec PyProof.Rows L2
/-- the deck at l, c draws past its numbers -/
def Dk (G H : Hp) (l : Addr) (c : Nat) : Prop := ∃ a b : Int, Own G H l (.lst [.int a, .int b, .int (c : Int)]) ∧ 0 ≤ a ∧ b.natAbs < 2 ^ 200
theorem Dk.up {G H G1 H1 : Hp} {l : Addr} {c : Nat} (h : Dk G H l c) (s : Stp [] G H G1 H1) : Dk G1 H1 l c := by
  obtain ⟨a, b, o, r⟩ := h
  exact ⟨a, b, s.own o, r⟩
theorem Dk.step {m : List Addr} {G H G1 H1 : Hp} {l : Addr} {c : Nat} (h : Dk G H l c) (s : Stp m G H G1 H1) (hm : l ∉ m) : Dk G1 H1 l c := by
  obtain ⟨a, b, o, r⟩ := h
  exact ⟨a, b, s.ownM hm o, r⟩
theorem Dk.ne {G H : Hp} {l q : Addr} {c : Nat} (h : Dk G H l c) (hq : H q = none) : l ≠ q := by
  obtain ⟨a, b, o, r⟩ := h
  exact o.ne hq
theorem Dk.in {G H : Hp} {l : Addr} {c : Nat} (h : Dk G H l c) : H l ≠ none := by
  obtain ⟨a, b, o, r⟩ := h
  rw [o.2]
  exact fun z => nomatch z
theorem Dk.putN {G H : Hp} {l p : Addr} {c : Nat} {o : HO} (h : Dk G H l c) (n : l ≠ p) : Dk G (upd H p o) l c := by
  obtain ⟨a, b, ow, r⟩ := h
  exact ⟨a, b, ow.putN n, r⟩
abbrev sp__law_draw : Sp := fun vs H Q _ => ∃ (l : Addr) (m c : Nat) (G : Hp), vs = [.ref l, vN m] ∧ Same G H ∧ Dk G H l c ∧ c ≤ 1000000 ∧ 1 ≤ m ∧ m ≤ 1000000 ∧
  ∀ (r c' : Nat) G2 H2, r < m → c ≤ c' → c' ≤ c + 1 → Stp [l] G H G2 H2 → Dk G2 H2 l c' → Q (vN r) H2
section
variable {Γ : List (Addr × HO)} {σ : L2.St} {G H : Hp} {tm : TE} {l : Addr} {c m : Nat}
theorem r_draw {i : Nat} (cn : Cn Γ G H) (hi : σ[i]? = some (some (.ref l))) (dk : Dk G H l c) (hc : c ≤ 1000000) (hm : EvD Γ tm σ G (intD m)) (h1 : 1 ≤ m) (h2 : m ≤ 1000000) {Q : VK} (k : ∀ (r c' : Nat) G2 H2, r < m → c ≤ c' → c' ≤ c + 1 → Stp [l] G H G2 H2 → Dk G2 H2 l c' → Q (vN r) H2) : tCallG sp__law_draw (tCons (tVar i) (tCons tm tNil)) σ H Q :=
  ⟨_, hi, hm G H (Same.refl _) cn _ fun v G1 H1 s dv => by
    cases dv.inv_int
    exact ⟨l, m, c, G1, rfl, s.i, dk.up s, hc, h1, h2, fun r c' G2 H2 a1 a2 a3 st d => k r c' G2 H2 a1 a2 a3 (s.of0.trans st) d⟩⟩
end
theorem three_das (G : Hp) (a b c : Int) : Das G [.int a, .int b, .int c] [.int a, .int b, .int c] := .cons (.int a) (.cons (.int b) (.cons (.int c) .nil))
abbrev mod34 : Int := 10 ^ (34 : Int).toNat + 193
abbrev mod36 : Int := 10 ^ (36 : Int).toNat + 159
theorem mod34_pos : 0 < mod34 := by decide
theorem mod36_pos : 0 < mod36 := by decide
theorem mod34_lt : mod34 < 1329227995784915872903807060280344576 := by decide
theorem big_pow {x : Nat} {k : Nat} (h : x < 2 ^ k) (hk : k ≤ 100000) : x < 2 ^ 100000 := Nat.lt_of_lt_of_le h (Nat.pow_le_pow_right Nat.two_pos hk)
theorem draw1 {b : Int} {c : Nat} (hb : b.natAbs < 2 ^ 200) (hc : c ≤ 1000000) : CPow3 (b + 32452867 * ((c + 1 : Nat) : Int)) 3 := by
  refine ⟨rfl, big_pow (k := 201) ?_ (by decide)⟩
  have e1 : (2 : Nat) ^ 201 = 2 ^ 200 + 2 ^ 200 := by rw [Nat.pow_succ, Nat.mul_two]
  have e2 : (1152921504606846976 : Nat) ≤ 2 ^ 200 := Nat.le_trans (by decide : 1152921504606846976 ≤ 2 ^ 60) (Nat.pow_le_pow_right Nat.two_pos (by decide))
  generalize (2 : Nat) ^ 200 = y at hb e1 e2
  omega
theorem draw2 {mx : Int} {c : Nat} (h0 : 0 ≤ mx) (h1 : mx < mod34) (hc : c ≤ 1000000) : CPow3 (mx + 49979687 * ((c + 1 : Nat) : Int)) 3 := by
  refine ⟨rfl, big_pow (k := 121) ?_ (by decide)⟩
  have e0 := mod34_lt
  have e1 : (2 : Nat) ^ 121 = 2658455991569831745807614120560689152 := by decide
  rw [e1]
  omega
theorem cal__law_draw {P : Program} {w : World} {K : PySem.W.Frag} {mg : Str → Option Value} {base : Heap} (B : Blt mg) (D : FD K mg "_law_draw" st__law_draw) :
    CalG P w K mg base 1 "_law_draw" sp__law_draw := by
  obtain ⟨f, fd, F, hdf⟩ := D.ex
  refine calG0 (N := N__law_draw) F (F.fn.binds hdf fun _ _ _ _ _ _ us hl => match us, hl with | [_, _], _ => rfl) sc__law_draw (fun vs H Q E h => ?_) fun cdv A outer s H vs Q E hgu hr h => ⟨_, (pss_cons (ps_if (pt_cmpR op_gt (pe_ix (r := rIxL K) ix_list (pv 0) pe_int (fun _ _ => rfl)) pe_int (nomark _)) (pss_cons (ps_set (i := 2) nd__law_draw rfl (Or.inl rfl) (pe_op op_mod (pe_callTy (r := rInt1) c_int (by rfl) B.int bt_int (pa_cons (pe_ix (r := rIxL K) ix_list (pv 0) pe_int (fun _ _ => rfl)) pa_nil)) (pv 1)))
 (pss_cons (ps_asg (pe_op op_fdivW (pe_ix (r := rIxL K) ix_list (pv 0) pe_int (fun _ _ => rfl)) (pv 1)) (pg_sub (pv 0) pe_int set_list))
 (pss_one (ps_ret (pv 2))))) pss_nil)
 (pss_cons (ps_asg (pe_op op_add (pe_ix (r := rIxL K) ix_list (pv 0) pe_int (fun _ _ => rfl)) pe_int) (pg_sub (pv 0) pe_int set_list))
 (pss_cons (ps_set (i := 3) nd__law_draw rfl (Or.inl rfl) (pe_op op_mod (pe_callTy (r := rInt1) c_int (by rfl) B.int bt_int (pa_cons (pe_op op_pow3 (pe_op op_add (pe_ix (r := rIxL K) ix_list (pv 0) pe_int (fun _ _ => rfl)) (pe_op op_mulW pe_int (pe_ix (r := rIxL K) ix_list (pv 0) pe_int (fun _ _ => rfl)))) pe_int) pa_nil)) (pe_op op_add (pe_op op_pow pe_int pe_int) pe_int)))
 (pss_cons (ps_set (i := 3) nd__law_draw rfl (Or.inl rfl) (pe_op op_mod (pe_callTy (r := rInt1) c_int (by rfl) B.int bt_int (pa_cons (pe_op op_pow3 (pe_op op_add (pv 3) (pe_op op_mulW pe_int (pe_ix (r := rIxL K) ix_list (pv 0) pe_int (fun _ _ => rfl)))) pe_int) pa_nil)) (pe_op op_add (pe_op op_pow pe_int pe_int) pe_int)))
 (pss_one (ps_ret (pe_op op_mod (pe_callTy (r := rInt1) c_int (by rfl) B.int bt_int (pa_cons (pe_op op_fdivW (pv 3) (pe_op op_pow pe_int pe_int)) pa_nil)) (pv 1)))))))), ?_⟩
  · obtain ⟨l, m, c, G, rfl, _⟩ := h
    rfl
  · obtain ⟨l, m, c, G, rfl, gh, ⟨a, b, ow, ha, hb⟩, hc, h1, h2, q⟩ := h
    have hml : ((m : Nat) : Int).natAbs.log2 < 9000 := by
      rw [Int.natAbs_natCast]
      exact Nat.lt_trans ((Nat.log2_lt (by omega)).mpr (show m < 2 ^ 20 by omega)) (by decide)
    refine q_when (b := decide (0 < a)) (Cn.one gh ow) (b_test (e_B0 (f := fun i j => decide (j < i)) (e_ixO (l := l) (xs := [.int a, .int b, .int (c : Int)]) (j := 0) (by simp) rfl (three_das _ _ _ _) e_int rfl) e_int)) (fun hh G1 H1 s1 => ?_) (fun hh G1 H1 s1 => ?_)
    · have ow1 := s1.own ow
      refine q_asgI (n := a % (m : Int)) (Cn.one s1.i ow1) (e_I (f := fun i j => i % j) (e_toInt (e_ixO (l := l) (xs := [.int a, .int b, .int (c : Int)]) (j := 0) (by simp) rfl (three_das _ _ _ _) e_int rfl)) (e_var rfl (.int _)) (by omega)) fun G2 H2 s2 => ?_
      have ow2 := s2.own ow1
      refine q_put (j := 0) (d := .int (a / (m : Int))) (Cn.one s2.i ow2) rfl ow2 (e_I (f := fun i j => i / j) (e_ixO (l := l) (xs := [.int a, .int b, .int (c : Int)]) (j := 0) (by simp) rfl (three_das _ _ _ _) e_int rfl) (e_var rfl (.int _)) ⟨by omega, hml⟩) e_int (by simp) fun v G3 H3 s3 dv st ow3 => ?_
      cases dv.inv_int
      have hr0 : 0 ≤ a % (m : Int) := Int.emod_nonneg _ (by omega)
      have hrm : a % (m : Int) < (m : Int) := Int.emod_lt_of_pos _ (by omega)
      refine s_ret (Cn.one st.i ow3) (e_var rfl (.int (a % (m : Int)))) fun v G4 H4 s4 dv => ?_
      cases dv.inv_int
      have e : V.int (a % (m : Int)) = vN (a % (m : Int)).toNat := by
        show V.int _ = V.int _
        rw [Int.toNat_of_nonneg hr0]
      rw [e]
      exact q _ c _ _ (by omega) (Nat.le_refl _) (by omega) (((s1.trans s2).of0.trans st).up s4) ⟨a / (m : Int), b, s4.own ow3, Int.ediv_nonneg ha (by omega), hb⟩
    · have ow1 := s1.own ow
      refine q_put (j := 2) (d := .int ((c + 1 : Nat) : Int)) (Cn.one s1.i ow1) rfl ow1 ((e_I0 (f := fun i j => i + j) (e_ixO (l := l) (xs := [.int a, .int b, .int (c : Int)]) (j := 2) (by simp) rfl (three_das _ _ _ _) e_int rfl) e_int).eq rfl) e_int (by simp) fun v G2 H2 s2 dv st ow2 => ?_
      cases dv.inv_int
      have ow2 : Own G2 _ l (.lst [.int a, .int b, .int ((c + 1 : Nat) : Int)]) := ow2
      have cn2 : Cn [(l, HO.lst [V.int a, V.int b, V.int ((c + 1 : Nat) : Int)])] G2 _ := Cn.one st.i ow2
      have dd : ∀ Gx : Hp, Das Gx [V.int a, V.int b, V.int ((c + 1 : Nat) : Int)] [.int a, .int b, .int ((c + 1 : Nat) : Int)] := fun Gx => three_das _ _ _ _
      have hmem : (l, HO.lst [V.int a, V.int b, V.int ((c + 1 : Nat) : Int)]) ∈ [(l, HO.lst [V.int a, V.int b, V.int ((c + 1 : Nat) : Int)])] := List.mem_singleton.mpr rfl
      have mw : ∀ k : Int, k.natAbs < 2 ^ 30 → CMulW k ((c + 1 : Nat) : Int) := fun k hk => mulW (k := 30) (m := 30) hk (by rw [Int.natAbs_natCast]; omega) (by decide) (by decide)
      refine q_asgI (n := (b + 32452867 * ((c + 1 : Nat) : Int)) ^ (3 : Int).toNat % mod34) cn2 (e_I (f := fun i j => i % j) (e_toInt (e_I (f := fun i j => i ^ j.toNat) (e_I0 (f := fun i j => i + j) (e_ixO (j := 1) hmem rfl (dd _) e_int rfl) (e_I (f := fun i j => i * j) e_int (e_ixO (j := 2) hmem rfl (dd _) e_int rfl) (mw _ (by decide)))) e_int (draw1 hb hc))) (e_I0 (f := fun i j => i + j) (e_I (f := fun i j => i ^ j.toNat) e_int e_int ⟨by decide, by decide, by decide⟩) e_int) mod34_pos) fun G3 H3 s3 => ?_
      have ow3 := s3.own ow2
      have hm0 : 0 ≤ ((b + 32452867 * ((c + 1 : Nat) : Int)) ^ (3 : Int).toNat % mod34) := Int.emod_nonneg _ (by have := mod34_pos; omega)
      have hm1 : ((b + 32452867 * ((c + 1 : Nat) : Int)) ^ (3 : Int).toNat % mod34) < mod34 := Int.emod_lt_of_pos _ mod34_pos
      generalize ((b + 32452867 * ((c + 1 : Nat) : Int)) ^ (3 : Int).toNat % mod34) = mx at hm0 hm1 ⊢
      refine q_asgI (n := (mx + 49979687 * ((c + 1 : Nat) : Int)) ^ (3 : Int).toNat % mod36) (Cn.one s3.i ow3) (e_I (f := fun i j => i % j) (e_toInt (e_I (f := fun i j => i ^ j.toNat) (e_I0 (f := fun i j => i + j) (e_var rfl (.int mx)) (e_I (f := fun i j => i * j) e_int (e_ixO (j := 2) hmem rfl (dd _) e_int rfl) (mw _ (by decide)))) e_int (draw2 hm0 hm1 hc))) (e_I0 (f := fun i j => i + j) (e_I (f := fun i j => i ^ j.toNat) e_int e_int ⟨by decide, by decide, by decide⟩) e_int) mod36_pos) fun G4 H4 s4 => ?_
      have ow4 := s4.own ow3
      generalize ((mx + 49979687 * ((c + 1 : Nat) : Int)) ^ (3 : Int).toNat % mod36) = my
      have hr0 : 0 ≤ my / 10 ^ (7 : Int).toNat % (m : Int) := Int.emod_nonneg _ (by omega)
      have hrm : my / 10 ^ (7 : Int).toNat % (m : Int) < (m : Int) := Int.emod_lt_of_pos _ (by omega)
      refine s_ret (d := .int (my / 10 ^ (7 : Int).toNat % (m : Int))) (Cn.one s4.i ow4) (e_I (f := fun i j => i % j) (e_toInt (e_I (f := fun i j => i / j) (e_var rfl (.int my)) (e_I (f := fun i j => i ^ j.toNat) e_int e_int ⟨by decide, by decide, by decide⟩) ⟨by decide, by decide⟩)) (e_var rfl (.int _)) (by omega)) fun v G5 H5 s5 dv => ?_
      cases dv.inv_int
      have e : V.int (my / 10 ^ (7 : Int).toNat % (m : Int)) = vN (my / 10 ^ (7 : Int).toNat % (m : Int)).toNat := by
        show V.int _ = V.int _
        rw [Int.toNat_of_nonneg hr0]
      rw [e]
      exact q _ (c + 1) _ _ (by omega) (by omega) (Nat.le_refl _) ((s1.of0.trans st).up (s3.trans (s4.trans s5))) ⟨a, b, s5.own ow4, ha, hb⟩
end N41
/-! W14: orders and marks. -/
namespace N41
open PySem PySem.Spec PyProof.Rows L2
theorem seq_nat {r n : Nat} (h : r < n) : seqIndex? (r : Int) n = some r := by
  unfold seqIndex?
  have h1 : ¬ ((r : Int) < 0) := by omega
  simp only [h1, if_false]
  rw [if_pos (by simp; omega)]
  simp
theorem r_cons1 {te : TE} {σ : L2.St} {H : Hp} {Q : List V → Hp → Prop} (h : te σ H fun x H1 => Q [x] H1) : tCons te tNil σ H Q := h
theorem r_cb1 {rr : List V → Hp → VK → Prop} {te : TE} {σ : L2.St} {H : Hp} {Q : VK} (h : te σ H fun x H1 => rr [x] H1 Q) : tCB rr (tCons te tNil) σ H Q := h
theorem map_erase {α β : Type} (f : α → β) : ∀ (l : List α) (r : Nat), (l.map f).eraseIdx r = (l.eraseIdx r).map f
  | [], _ => rfl
  | _ :: _, 0 => rfl
  | x :: l, r + 1 => by
    show f x :: (l.map f).eraseIdx r = f x :: (l.eraseIdx r).map f
    rw [map_erase f l r]
theorem erase_perm {α : Type} : ∀ (l : List α) (r : Nat) (h : r < l.length), (l[r] :: l.eraseIdx r).Perm l
  | [], _, h => by simp at h
  | x :: l, 0, _ => List.Perm.refl _
  | x :: l, r + 1, h => by
    have hr : r < l.length := by simpa using h
    have ih := erase_perm l r hr
    show (l[r] :: x :: l.eraseIdx r).Perm (x :: l)
    exact (List.Perm.swap _ _ _).trans (List.Perm.cons x ih)
abbrev sp__law_order : Sp := fun vs H Q _ => ∃ (l : Addr) (n c : Nat) (G : Hp), vs = [.ref l, vN n] ∧ Same G H ∧ Dk G H l c ∧ c ≤ 900000 ∧ n ≤ 4 ∧
  ∀ (p : Addr) (o : List Nat) (c' : Nat) G2 H2, o.Perm (List.range n) → c ≤ c' → c' ≤ c + n → Stp [l] G H G2 H2 → H p = none → Own G2 H2 p (.lst (o.map vN)) → Dk G2 H2 l c' → Q (.ref p) H2
theorem cal__law_order {P : Program} {w : World} {K : PySem.W.Frag} {mg : Str → Option Value} {base : Heap} (B : Blt mg) (D : FD K mg "_law_order" st__law_order) (c__law_draw : CalG P w K mg base 1 "_law_draw" sp__law_draw) :
    CalG P w K mg base 2 "_law_order" sp__law_order := by
  obtain ⟨f, fd, F, hdf⟩ := D.ex
  refine calG0 (N := N__law_order) F (F.fn.binds hdf fun _ _ _ _ _ _ us hl => match us, hl with | [_, _], _ => rfl) sc__law_order (fun vs H Q E h => ?_) fun cdv A outer s H vs Q E hgu hr h => ⟨_, (pss_cons (ps_par (i := 2) (j := 3) rfl nd__law_order rfl rfl (by decide) rfl rfl (pa_cons (pe_listRg rfl (by rfl) B.list (prg_1 (by rfl) B.range (pv 1))) (pa_cons (pe_lst pa_nil) pa_nil)) (by rfl))
 (pss_cons (ps_for PassesOwn.never rfl (pi_range1 (by rfl) B.range (pa_cons (pv 1) pa_nil)) (pg_name (i := 4) nd__law_order rfl (Or.inl rfl)) (pss_one (ps_expr (pe_bm PySem.F.plainAttrs_list PySem.F.slot_list_append PySem.F.type_list_append mt_append (pv 3) (pa_cons (pe_bm PySem.F.plainAttrs_list PySem.F.slot_list_pop PySem.F.type_list_pop mt_popAt (pv 2) (pa_cons (pe_cg c__law_draw hgu hr (by decide) (by rfl) (pa_cons (pv 0) (pa_cons (pe_callB (r := rLen K) c_len (by rfl) B.len bt_len (pa_cons (pv 2) pa_nil)) pa_nil))) pa_nil)) pa_nil)))))
 (pss_one (ps_ret (pv 3))))), ?_⟩
  · obtain ⟨l, n, c, G, rfl, _⟩ := h
    rfl
  · obtain ⟨l, n, c, G, rfl, gh, dk, hc, h4, q⟩ := h
    refine q_parLL (Cn.nil gh) (l_listRg (n := n) (e_var rfl (.int _)) (by omega)) (l_lst a_nil (Nat.zero_le _)) fun pl xl pf xf G1 H1 s1 hl hf hlf ol dxl of dxf => ?_
    have ex := Das.inv_nats dxl
    subst ex
    cases dxf
    have dk1 := dk.up s1
    have nl : l ≠ pl := dk.ne hl
    have nf : l ≠ pf := dk.ne hf
    refine q_for (List.range n) natD (Cn.two s1.i ol of) (i_rng (a_cons (e_var rfl (.int _)) a_nil) (by omega)) (fun G5 _ i σ' G' H' => Same G5 G' ∧ ∃ (lf fd : List Nat) (c' : Nat) (y4 : Option V), σ' = [some (.ref l), some (vN n), some (.ref pl), some (.ref pf), y4] ∧ Stp [l, pl, pf] G1 H1 G' H' ∧ Own G' H' pl (.lst (lf.map vN)) ∧ Own G' H' pf (.lst (fd.map vN)) ∧ (fd ++ lf).Perm (List.range n) ∧ lf.length = n - i ∧ c ≤ c' ∧ c' ≤ c + i ∧ Dk G' H' l c')
      (fun G5 H5 s5 => ⟨Same.refl _, List.range n, [], c, _, rfl, s5.of0, s5.own ol, s5.own of, by simp, by simp, Nat.le_refl _, by omega, dk1.up s5⟩) (fun _ _ _ _ _ _ ⟨h, _, _, _, _, _, s, _⟩ => ⟨h, s.i⟩) (fun G5 H5 i a σ' G' H' x G6 H6 s5 eo ⟨sg, lf, fd, c', y4, hσ, st, owl, owf, hp, hlen, hc1, hc2, dk'⟩ s6 dx => ?_) (fun G5 H5 σ' G' H' s5 ⟨sg, lf, fd, c', y4, hσ, st, owl, owf, hp, hlen, hc1, hc2, dk'⟩ => ?_)
    · subst hσ
      have hin : i < n := by
        have := (List.getElem?_eq_some_iff.mp eo).1
        rwa [List.length_range] at this
      have owl6 := s6.own owl
      have owf6 := s6.own owf
      refine ⟨_, rfl, Or.inl ⟨rfl, fd.map vN, SqL.of owf6.2⟩, ?_⟩
      refine ⟨_, rfl, Or.inl ⟨rfl, lf.map vN, SqL.of owl6.2⟩, ?_⟩
      refine r_draw (Cn.two s6.i owl6 owf6) rfl (dk'.up s6) (by omega) (e_lenO (l := pl) (xs := lf.map vN) (n := lf.length) (by simp) rfl (List.length_map _)) (by omega) (by omega) fun r c2 G7 H7 hr e1 e2 s7 d7 => ?_
      have owl7 := s7.ownM (by simp; exact nl.symm) owl6
      have owf7 := s7.ownM (by simp; exact nf.symm) owf6
      have hx : (lf.map vN)[r]? = some (vN lf[r]) := by rw [List.getElem?_map, List.getElem?_eq_getElem hr]; rfl
      refine ⟨pl, lf.map vN, (r : Int), r, vN lf[r], rfl, rfl, owl7.2, by omega, by omega, by rw [List.length_map]; exact seq_nat hr, hx, ?_⟩
      have st8 : Stp [pl] G7 H7 G7 (upd H7 pl (.lst ((lf.map vN).eraseIdx r))) := Stp.put s7.i owl7 (by simp)
      have owl8 : Own G7 (upd H7 pl (.lst ((lf.map vN).eraseIdx r))) pl _ := owl7.put
      have owf8 := st8.ownM (by simp; exact hlf.symm) owf7
      have d8 := d7.step st8 (by simp; exact nl)
      have hfl : fd.length + lf.length = n := by
        have := hp.length_eq
        rwa [List.length_append, List.length_range] at this
      refine ⟨pf, fd.map vN, vN lf[r], rfl, rfl, owf8.2, small (by rw [List.length_map]; omega), ?_⟩
      have st9 : Stp [pf] G7 _ G7 (upd (upd H7 pl (.lst ((lf.map vN).eraseIdx r))) pf (.lst (fd.map vN ++ [vN lf[r]]))) := Stp.put st8.i owf8 (by simp)
      have ee : (lf.map vN).eraseIdx r = (lf.eraseIdx r).map vN := by
        exact map_erase _ _ _
      have ef : fd.map vN ++ [vN lf[r]] = (fd ++ [lf[r]]).map vN := by rw [List.map_append]; rfl
      refine ⟨G7, sg.trans (s6.g.trans s7.g), lf.eraseIdx r, fd ++ [lf[r]], c2, _, rfl, (((st.up s6).trans (s7.weak (by simp))).trans (st8.weak (by simp))).trans (st9.weak (by simp)), ?_, ?_, ?_, ?_, by omega, by omega, d8.step st9 (by simp; exact nf)⟩
      · rw [← ee]
        exact owl8.putN hlf
      · rw [← ef]
        exact owf8.put
      · have pp : (lf[r] :: lf.eraseIdx r).Perm lf := erase_perm lf r hr
        have : (fd ++ [lf[r]] ++ lf.eraseIdx r).Perm (fd ++ lf) := by
          rw [List.append_assoc]
          exact List.Perm.append_left fd pp
        exact this.trans hp
      · rw [List.length_eraseIdx_of_lt hr]
        omega
    · subst hσ
      rw [List.length_range] at hlen hc2
      have h0 : lf = [] := List.eq_nil_of_length_eq_zero (by omega)
      rw [h0, List.append_nil] at hp
      have sF : Stp [l] G H G' H' := s1.of0.comp st fun c hc => by
        rcases (by simpa using hc : c = l ∨ c = pl ∨ c = pf) with z | z | z
        · exact .inl (by simp [z])
        · rw [z]; exact .inr hl
        · rw [z]; exact .inr hf
      exact s_retO (Cn.one st.i owf) rfl (q pf fd c' G' H' hp hc1 (by omega) sF hf owf dk')
abbrev sp__law_marks : Sp := fun vs H Q _ => ∃ (l : Addr) (n lim c : Nat) (G : Hp), vs = [.ref l, vN n, vN lim] ∧ Same G H ∧ Dk G H l c ∧ c ≤ 900000 ∧ n ≤ 4 ∧ lim ≤ 10 ∧
  ∀ (v : V) (M : Tab) (c' : Nat) G2 H2, Rows n M → M.length ≤ lim → c ≤ c' → c' ≤ c + 100 → Stp [l] G H G2 H2 → Da G2 v (tD M) → Dk G2 H2 l c' → Q v H2
theorem cal__law_marks {P : Program} {w : World} {K : PySem.W.Frag} {mg : Str → Option Value} {base : Heap} (B : Blt mg) (D : FD K mg "_law_marks" st__law_marks) (c__law_draw : CalG P w K mg base 1 "_law_draw" sp__law_draw) :
    CalG P w K mg base 2 "_law_marks" sp__law_marks := by
  obtain ⟨f, fd, F, hdf⟩ := D.ex
  refine calG0 (N := N__law_marks) F (F.fn.binds hdf fun _ _ _ _ _ _ us hl => match us, hl with | [_, _, _], _ => rfl) sc__law_marks (fun vs H Q E h => ?_) fun cdv A outer s H vs Q E hgu hr h => ⟨_, (pss_cons (ps_set (i := 3) nd__law_marks rfl (Or.inl rfl) (pe_lst pa_nil))
 (pss_cons (ps_for PassesOwn.never rfl (pi_range1 (by rfl) B.range (pa_cons (pe_cg c__law_draw hgu hr (by decide) (by rfl) (pa_cons (pv 0) (pa_cons (pe_op op_add (pv 2) pe_int) pa_nil))) pa_nil)) (pg_name (i := 4) nd__law_marks rfl (Or.inl rfl)) (pss_one (ps_expr (pe_bm PySem.F.plainAttrs_list PySem.F.slot_list_append PySem.F.type_list_append mt_append (pv 3) (pa_cons (pe_callTy (r := rTup K) c_tup (by rfl) B.tuple bt_tuple (pa_cons (pe_lc (own := [("_law_at", 5)]) rfl nd__law_marks (pi_range1 (by rfl) B.range (pa_cons (pv 1) pa_nil)) (blkOk_by (by kernel_rfl)) (fun _ _ _ _ _ => (pg_name (i := 5) nd__law_marks rfl (Or.inl rfl))) (fun _ _ _ _ _ => pts_nil) (fun _ _ _ _ _ => (pe_ix (r := rIxL K) ix_list (pe_lst (pa_cons pe_int (pa_cons pe_int (pa_cons pe_int (pa_cons (pe_un un_neg pe_int) (pa_cons pe_int (pa_cons (pe_un un_neg pe_int) pa_nil))))))) (pe_cg c__law_draw hgu hr (by decide) (by rfl) (pa_cons (pv 0) (pa_cons pe_int pa_nil))) (fun _ _ => rfl)))) pa_nil)) pa_nil)))))
 (pss_one (ps_ret (pe_callTy (r := rTup K) c_tup (by rfl) B.tuple bt_tuple (pa_cons (pv 3) pa_nil)))))), ?_⟩
  · obtain ⟨l, n, lim, c, G, rfl, _⟩ := h
    rfl
  · obtain ⟨l, n, lim, c, G, rfl, gh, dk, hc, h4, hlim, q⟩ := h
    refine q_asgL (Cn.nil gh) (l_lst a_nil (Nat.zero_le _)) fun pf xf G1 H1 s1 hf of dxf => ?_
    cases dxf
    have dk1 := dk.up s1
    have nf : l ≠ pf := dk.ne hf
    refine r_draw (Cn.one s1.i of) rfl dk1 (by omega) ((e_I0 (f := fun i j => i + j) (e_var rfl (.int _)) e_int).eq (d' := intD (lim + 1)) rfl) (by omega) (by omega) fun r c1 G2 H2 hr e1 e2 s2 d2 => ?_
    show tSeq (tFor (iRng1 (tCons (tC (vN r)) tNil)) _ _) _ _ _ _
    have of2 := s2.ownM (by simp; exact nf.symm) of
    refine q_for (List.range r) natD (Cn.one s2.i of2) (i_rng (a_cons e_int a_nil) (by omega)) (fun G5 _ i σ' G' H' => Same G5 G' ∧ ∃ (xs : List V) (M : Tab) (c' : Nat) (y4 y5 : Option V), σ' = [some (.ref l), some (vN n), some (vN lim), some (.ref pf), y4, y5] ∧ Stp [l, pf] G2 H2 G' H' ∧ Own G' H' pf (.lst xs) ∧ Das G' xs (M.map rD) ∧ Rows n M ∧ M.length = i ∧ c1 ≤ c' ∧ c' ≤ c1 + 4 * i ∧ Dk G' H' l c')
      (fun G5 H5 s5 => ⟨Same.refl _, [], [], c1, _, _, rfl, s5.of0, s5.own of2, .nil, (fun _ h => by cases h), rfl, Nat.le_refl _, by omega, d2.up s5⟩) (fun _ _ _ _ _ _ ⟨h, _, _, _, _, _, _, s, _⟩ => ⟨h, s.i⟩) (fun G5 H5 i a σ' G' H' x G6 H6 s5 eo ⟨sg, xs, M, c', y4, y5, hσ, st, owf, dxs, hM, hlen, hc1, hc2, dk'⟩ s6 dx => ?_) (fun G5 H5 σ' G' H' s5 ⟨sg, xs, M, c', y4, y5, hσ, st, owf, dxs, hM, hlen, hc1, hc2, dk'⟩ => ?_)
    · subst hσ
      have hin : i < r := by
        have := (List.getElem?_eq_some_iff.mp eo).1
        rwa [List.length_range] at this
      have owf6 := s6.own owf
      have dk6 := dk'.up s6
      refine ⟨_, rfl, Or.inl ⟨rfl, xs, SqL.of owf6.2⟩, ?_⟩
      refine r_cons1 (r_cb1 ?_)
      refine r_lcG (List.range n) natD [l] (fun C ys Ga Ha => ∃ (cc : Nat) (ns : List Int), ys = ns.map V.int ∧ c' ≤ cc ∧ cc ≤ c' + ys.length ∧ Dk Ga Ha l cc ∧ l ≠ C) (Cn.one s6.i owf6) (fun c hc => by
        have : c = l := by simpa using hc
        rw [this]; exact dk6.in) (i_rng (a_cons (e_var rfl (.int _)) a_nil) (by omega)) (small (by rw [List.length_range]; omega)) (fun _ => rfl)
        (fun C Ga Ha sa hC => ⟨c', [], rfl, Nat.le_refl _, by simp, (dk6.up sa).putN (dk6.ne (sa.free hC)), dk6.ne (sa.free hC)⟩) (fun C ys Ga Ha Gb Hb ⟨cc, ns, e1, e2, e3, d, ne⟩ s => ⟨cc, ns, e1, e2, e3, d.up s, ne⟩) (fun C ys Ga Ha o o' ow ⟨cc, ns, e1, e2, e3, d, ne⟩ => ⟨cc, ns, e1, e2, e3, d.putN ne, ne⟩)
        (fun C k b Ga Ha ys z eb hC hC2 sa hyl ⟨cc, ns, ey, e2, e3, d, ne⟩ dz Q' hQ => ?_) _ fun p ys G7 H7 s7 hp op hyl ⟨cc, ns, ey, e2, e3, d7, ne⟩ => ?_
      rotate_left
      · have hkn : k < n := by
          have := (List.getElem?_eq_some_iff.mp eb).1
          rwa [List.length_range] at this
        refine l_lst (Γ := []) (a_cons e_int (a_cons e_int (a_cons e_int (a_cons (e_neg e_int) (a_cons e_int (a_cons (e_neg e_int) a_nil)))))) (by decide) Ga Ha (Same.refl _) (Cn.nil sa.i) _ fun p6 xs6 Gb Hb sb hp6 op6 dx6 => ?_
        have dx6 : Das Gb xs6 (([0, 0, 1, -1, 2, -2] : List Int).map PyData.int) := dx6
        have ex6 := dx6.inv_ints
        subst ex6
        refine r_draw (Cn.one sb.i op6) rfl (d.up sb) (by rw [hyl] at e3; omega) e_int (by decide) (by decide) fun r2 c3 Gc Hc hr2 f1 f2 sc dc => ?_
        have np : l ≠ p6 := d.ne hp6
        have op6c := sc.ownM (by simp; exact np.symm) op6
        have hat : ∃ y : Int, (([0, 0, 1, -1, 2, -2] : List Int).map V.int)[r2]? = some (.int y) := by
          have hr6 : r2 < 6 := hr2
          have : r2 = 0 ∨ r2 = 1 ∨ r2 = 2 ∨ r2 = 3 ∨ r2 = 4 ∨ r2 = 5 := by omega
          rcases this with rfl | rfl | rfl | rfl | rfl | rfl <;> exact ⟨_, rfl⟩
        obtain ⟨y, hy⟩ := hat
        refine ⟨p6, _, (r2 : Int), .int y, rfl, rfl, SqL.of op6c.2, atI_nat hy, hQ _ Gc Hc (sb.of0.trans sc) ⟨c3, ns ++ [y], by rw [ey, List.map_append]; rfl, by omega, by rw [List.length_append]; simp; omega, dc, ne⟩⟩
      · rw [List.length_range] at hyl
        subst ey
        have hnl : ns.length = n := by rw [List.length_map] at hyl; exact hyl
        have owf7 := s7.ownM (by simp; exact nf.symm) owf6
        refine ⟨p, ns.map V.int, rfl, .inl ⟨SqL.of op.2, fun q2 hq2 => ?_⟩⟩
        have s8 : Stp [] G7 H7 (upd G7 q2 (.tup (ns.map V.int))) (upd H7 q2 (.tup (ns.map V.int))) := Stp.new s7.i hq2
        have owf8 := s8.own owf7
        refine ⟨pf, xs, .ref q2, rfl, rfl, owf8.2, small (by rw [dxs.length, List.length_map]; omega), ?_⟩
        have st9 : Stp [pf] (upd G7 q2 (.tup (ns.map V.int))) _ _ (upd (upd H7 q2 (.tup (ns.map V.int))) pf (.lst (xs ++ [.ref q2]))) := Stp.put s8.i owf8 (by simp)
        refine ⟨upd G7 q2 (.tup (ns.map V.int)), sg.trans (s6.g.trans (s7.g.trans s8.g)), xs ++ [.ref q2], M ++ [ns], cc, _, _, rfl, ((st.up s6).trans ((s7.up s8).weak (by simp))).trans (st9.weak (by simp)), owf8.put, ?_, ?_, by simp [hlen], by omega, by rw [List.length_map] at e3; omega, (d7.up s8).step st9 (by simp; exact nf)⟩
        · rw [List.map_append]
          exact (dxs.mono (s6.g.trans (s7.g.trans s8.g))).snoc (.tup upd_same (das_ints ns))
        · intro rr hrr
          rcases List.mem_append.mp hrr with z | z
          · exact hM rr z
          · have : rr = ns := by simpa using z
            rw [this]; exact hnl
    · subst hσ
      rw [List.length_range] at hlen hc2
      have sF : Stp [l] G H G' H' := (s1.of0.trans s2).comp st fun c hc => by
        rcases (by simpa using hc : c = l ∨ c = pf) with z | z
        · exact .inl (by simp [z])
        · rw [z]; exact .inr hf
      exact s_ret (Cn.one st.i owf) ((e_tupleO (l := pf) (by simp) rfl dxs).eq (d' := tD M) rfl) fun v G8 H8 s8 dv => q v M c' G8 H8 hM (by omega) (by omega) (by omega) (sF.up s8) dv (dk'.up s8)
end N41
/-! W15: the deck's start, kinds, types. -/
namespace N41
open PySem PySem.Spec PyProof.Rows L2
structure ASB where
  T : Tab
  n : Nat
  row : List Nat
theorem gk_le5 : ∀ l, l ≤ 5 → gk l ≤ 191 := by decide
theorem fold_sw {n : Nat} : ∀ (row : List Nat) (T : Tab) (l : Nat), (∀ p ∈ row, p < n) → Sq n T → Lt2 (gk l) T → Sq n (row.foldl sw T) ∧ Lt2 (gk (l + row.length)) (row.foldl sw T)
  | [], T, l, _, h1, h2 => ⟨h1, h2⟩
  | p :: row, T, l, hp, h1, h2 => by
    have := fold_sw row (sw T p) (l + 1) (fun q hq => hp q (by simp [hq])) (sw_sq h1 p) (sw_lt2 h2)
    rw [List.foldl_cons, List.length_cons]
    rwa [show l + 1 + row.length = l + (row.length + 1) by omega] at this
theorem fold_skw {n : Nat} : ∀ (row : List Nat) (T : Tab), (∀ p ∈ row, p < n) → Sq n T → Skw n T → Skw n (row.foldl sw T)
  | [], T, _, _, h => h
  | p :: row, T, hp, h1, h => by
    rw [List.foldl_cons]
    exact fold_skw row (sw T p) (fun q hq => hp q (by simp [hq])) (sw_sq h1 p) (sw_skw h1.rows (Nat.le_of_eq h1.len.symm) (hp p (by simp)) h)
abbrev sp__law_swap_by : Sp := SpF (fun a : ASB => [tD a.T, .list (a.row.map natD)]) (fun a => Sq a.n a.T ∧ 1 ≤ a.n ∧ a.n ≤ 4 ∧ Lt2 (gk 0) a.T ∧ (∀ p ∈ a.row, p < a.n) ∧ a.row.length ≤ 5) (fun a => tD (a.row.foldl sw a.T))
theorem cal__law_swap_by {P : Program} {w : World} {K : PySem.W.Frag} {mg : Str → Option Value} {base : Heap} (B : Blt mg) (D : FD K mg "_law_swap_by" st__law_swap_by) (c__law_swap : CalG P w K mg base 1 "_law_swap" sp__law_swap) :
    CalG P w K mg base 2 "_law_swap_by" sp__law_swap_by := by
  obtain ⟨f, fd, F, hdf⟩ := D.ex
  refine calG0 (N := N__law_swap_by) F (F.fn.binds hdf fun _ _ _ _ _ _ us hl => match us, hl with | [_, _], _ => rfl) sc__law_swap_by (fun vs H Q E h => ?_) fun cdv A outer s H vs Q E hgu hr h => ⟨_, (pss_cons (ps_for PassesOwn.never rfl (pi_listK (K := K) rfl (pv 1)) (pg_name (i := 2) nd__law_swap_by rfl (Or.inl rfl)) (pss_one (ps_set (i := 0) nd__law_swap_by rfl (Or.inl rfl) (pe_cg c__law_swap hgu hr (by decide) (by rfl) (pa_cons (pv 0) (pa_cons (pv 2) pa_nil))))))
 (pss_one (ps_ret (pv 0)))), ?_⟩
  · exact h.ln fun _ => rfl
  · obtain ⟨⟨T, n, row⟩, G, gh, dv, pre, q⟩ := h
    obtain ⟨hq, h1, h4, hl, hr5, hlen⟩ : Sq n T ∧ 1 ≤ n ∧ n ≤ 4 ∧ Lt2 (gk 0) T ∧ (∀ p ∈ row, p < n) ∧ row.length ≤ 5 := pre
    obtain ⟨vT, vr, rfl, dT, dr⟩ := (show Das G vs [tD T, .list (row.map natD)] from dv).inv2
    refine q_for row natD (Cn.nil gh) (i_list (e_var rfl dr)) (fun G5 _ i σ' G' H' => Same G5 G' ∧ ∃ (vg : V) (y2 : Option V), σ' = [some vg, some vr, y2] ∧ Stp [] G H G' H' ∧ Da G' vg (tD ((row.take i).foldl sw T)))
      (fun G5 H5 s5 => ⟨Same.refl _, vT, _, rfl, s5, s5.da dT⟩) (fun _ _ _ _ _ _ ⟨h, _, _, _, s, _⟩ => ⟨h, s.i⟩) (fun G5 H5 i p σ' G' H' x G6 H6 s5 eo ⟨sg, vg, y2, hσ, st, dg⟩ s6 dx => ?_) (fun G5 H5 σ' G' H' s5 ⟨sg, vg, y2, hσ, st, dg⟩ => ?_)
    · subst hσ
      cases dx.inv_int
      have hin : i < row.length := (List.getElem?_eq_some_iff.mp eo).1
      obtain ⟨f1, f2⟩ := fold_sw (row.take i) T 0 (fun p hp => hr5 p (List.mem_of_mem_take hp)) hq hl
      rw [List.length_take, Nat.min_eq_left (by omega), Nat.zero_add] at f2
      rw [List.take_add_one, eo, List.foldl_append]
      refine s_asg (Cn.nil s6.i) (e_cg (⟨(row.take i).foldl sw T, p, n, gk i⟩ : ASw) (a_cons (e_var rfl (s6.da dg)) (a_cons (e_var rfl (.int _)) a_nil)) ⟨f1.bd h1 h4, hr5 p (List.mem_of_getElem? eo), f2, Nat.le_trans (gk_le5 i (by omega)) (by decide)⟩) fun v G7 H7 s7 dv => ⟨G7, sg.trans (s6.g.trans s7.g), v, _, rfl, st.trans (s6.trans s7), dv⟩
    · subst hσ
      rw [List.take_length] at dg
      exact s_ret (Cn.nil st.i) (e_var rfl dg) fun v G7 H7 s7 dv => q v G7 H7 (st.trans s7) dv
/-! ### the deck's start -/
abbrev sp__law_deck (K : PySem.W.Frag) : Sp := fun vs H Q _ => ∃ (a : Addr) (ns : List Int) (k : Nat) (G : Hp), vs = [.ref a, vN k] ∧ Same G H ∧ SqL K G a (ns.map V.int) ∧ k ≤ 100 ∧ ns.length ≤ 1000 ∧
  ∀ (p : Addr) G2 H2, Stp [] G H G2 H2 → H p = none → Dk G2 H2 p 0 → Q (.ref p) H2
section
variable {K : PySem.W.Frag} {Γ : List (Addr × HO)} {σ : L2.St} {G : Hp} {tb : TE} {a : Addr} {ns : List Int}
theorem e_lenS {i : Nat} (hi : σ[i]? = some (some (.ref a))) (hS : SqL K G a (ns.map V.int)) : EvD Γ (tCB (rLen K) (tCons (tVar i) tNil)) σ G (.int (ns.length : Int)) := fun G1 H1 e b Q q =>
  ⟨_, hi, a, _, rfl, .inl ((e.trans b.i).seq hS), by rw [List.length_map]; exact q _ G1 H1 (Stp.refl b.i) (.int _)⟩
theorem e_ixS {i j : Nat} {x : Int} (hi : σ[i]? = some (some (.ref a))) (hS : SqL K G a (ns.map V.int)) (hb : EvD Γ tb σ G (.int (j : Int))) (hj : ns[j]? = some x) : EvD Γ (tOp (rIxL K) (tVar i) tb) σ G (.int x) := fun G1 H1 e b Q q =>
  ⟨_, hi, hb G1 H1 e b _ fun y G2 H2 s dy => ⟨a, _, (j : Int), .int x, rfl, dy.inv_int, (e.trans (s.g.trans s.i)).seq hS, atI_nat (by rw [List.getElem?_map, hj]; rfl), q _ G2 H2 s (.int x)⟩⟩
end
theorem cal__law_deck {P : Program} {w : World} {K : PySem.W.Frag} {mg : Str → Option Value} {base : Heap} (B : Blt mg) (D : FD K mg "_law_deck" st__law_deck) :
    CalG P w K mg base 1 "_law_deck" (sp__law_deck K) := by
  obtain ⟨f, fd, F, hdf⟩ := D.ex
  refine calG0 (N := N__law_deck) F (F.fn.binds hdf fun _ _ _ _ _ _ us hl => match us, hl with | [_, _], _ => rfl) sc__law_deck (fun vs H Q E h => ?_) fun cdv A outer s H vs Q E hgu hr h => ⟨_, (pss_cons (ps_set (i := 2) nd__law_deck rfl (Or.inl rfl) pe_int)
 (pss_cons (ps_if (pt_cmpR op_lt (pv 1) (pe_callB (r := rLen K) c_len (by rfl) B.len bt_len (pa_cons (pv 0) pa_nil)) (nomark _)) (pss_one (ps_set (i := 2) nd__law_deck rfl (Or.inl rfl) (pe_callB (r := rAbs) c_abs (by rfl) B.abs bt_abs (pa_cons (pe_callTy (r := rInt1) c_int (by rfl) B.int bt_int (pa_cons (pe_ix (r := rIxL K) ix_list (pv 0) (pv 1) (fun _ _ => rfl)) pa_nil)) pa_nil)))) pss_nil)
 (pss_one (ps_ret (pe_lst (pa_cons (pe_callB (c_max2 rfl) (by rfl) B.max bt_max (pa_cons pe_int (pa_cons (pe_op op_sub (pv 2) (pe_op op_pow pe_int pe_int)) pa_nil))) (pa_cons (pe_op op_add (pe_op op_add (pe_op op_mod (pe_callTy (r := rInt1) c_int (by rfl) B.int bt_int (pa_cons (pv 2) pa_nil)) (pe_op op_add (pe_op op_pow pe_int pe_int) pe_int)) (pe_op op_mulW pe_int (pv 1))) pe_int) (pa_cons pe_int pa_nil)))))))), ?_⟩
  · obtain ⟨a, ns, k, G, rfl, _⟩ := h
    rfl
  · obtain ⟨a, ns, k, G, rfl, gh, hS, hk, hl, q⟩ := h
    refine q_asgI (Cn.nil gh) e_int fun G1 H1 s1 => ?_
    have hS1 : SqL K G1 a (ns.map V.int) := s1.g.seq hS
    have fin : ∀ (x : Int) {G2 H2 : Hp}, 0 ≤ x → Stp [] G H G2 H2 → tRet (tLst (tCons (tCB rMax2 (tCons (tC (.int 0)) (tCons (tOp (rI0 fun i j => .int (i - j)) (tVar 2) (tOp (rI CPow fun i j => .int (i ^ j.toNat)) (tC (.int 10)) (tC (.int 18)))) tNil))) (tCons (tOp (rI0 fun i j => .int (i + j)) (tOp (rI0 fun i j => .int (i + j)) (tOp (rI (fun _ j => 0 < j) fun i j => .int (i % j)) (tCB rInt1 (tCons (tVar 2) tNil)) (tOp (rI0 fun i j => .int (i + j)) (tOp (rI CPow fun i j => .int (i ^ j.toNat)) (tC (.int 10)) (tC (.int 30))) (tC (.int 57)))) (tOp (rI CMulW fun i j => .int (i * j)) (tC (.int 15485867)) (tVar 1))) (tC (.int 71))) (tCons (tC (.int 0)) tNil)))) { nx := fun x H' => Q V.non H', rt := Q } [some (.ref a), some (vN k), some (.int x)] H2 := fun x G2 H2 hx s2 => by
      have hmod : (0 : Int) < 10 ^ (30 : Int).toNat + 57 := by decide
      refine s_retL (ds := [.int (max 0 (x - 10 ^ (18 : Int).toNat)), .int (x % (10 ^ (30 : Int).toNat + 57) + 15485867 * (k : Int) + 71), .int ((0 : Nat) : Int)]) (Cn.nil s2.i) (l_lst (a_cons (e_max2 e_int (e_I0 (f := fun i j => i - j) (e_var rfl (.int x)) (e_I (f := fun i j => i ^ j.toNat) e_int e_int ⟨by decide, by decide, by decide⟩))) (a_cons (e_I0 (f := fun i j => i + j) (e_I0 (f := fun i j => i + j) (e_I (f := fun i j => i % j) (e_toInt (e_var rfl (.int x))) (e_I0 (f := fun i j => i + j) (e_I (f := fun i j => i ^ j.toNat) e_int e_int ⟨by decide, by decide, by decide⟩) e_int) hmod) (e_I (f := fun i j => i * j) e_int (e_var rfl (.int (k : Int))) (mulW (k := 30) (m := 30) (by decide) (by rw [Int.natAbs_natCast]; omega) (by decide) (by decide)))) e_int) (a_cons e_int a_nil))) (slack (by simp))) fun p xs G3 H3 s3 hp op dx => ?_
      have h0 : 0 ≤ x % (10 ^ (30 : Int).toNat + 57) := Int.emod_nonneg _ (by omega)
      have h1 : x % (10 ^ (30 : Int).toNat + 57) < 10 ^ (30 : Int).toNat + 57 := Int.emod_lt_of_pos _ hmod
      have ev : (10 : Int) ^ (30 : Int).toNat + 57 < 2 ^ 110 := by decide
      generalize hy : x % (10 ^ (30 : Int).toNat + 57) = y at h0 h1 dx
      have hmx : 0 ≤ max 0 (x - 10 ^ (18 : Int).toNat) := Int.le_max_left _ _
      generalize (max 0 (x - 10 ^ (18 : Int).toNat)) = mx at dx hmx
      have dx : Das G3 xs (([mx, y + 15485867 * (k : Int) + 71, ((0 : Nat) : Int)] : List Int).map PyData.int) := dx
      have := dx.inv_ints
      subst this
      refine q p G3 H3 (s2.trans s3) (s2.free hp) ⟨mx, y + 15485867 * (k : Int) + 71, op, hmx, ?_⟩
      have e1 : (2 : Int) ^ 110 = 1298074214633706907132624082305024 := by decide
      have e2 : (2 : Nat) ^ 120 = 1329227995784915872903807060280344576 := by decide
      rw [e1] at ev
      exact Nat.lt_of_lt_of_le (show _ < 2 ^ 120 by rw [e2]; omega) (Nat.pow_le_pow_right Nat.two_pos (by decide))
    refine q_when (b := decide ((k : Int) < (ns.length : Int))) (Cn.nil s1.i) (b_test (e_B0 (f := fun i j => decide (i < j)) (e_var rfl (.int _)) (e_lenS rfl hS1))) (fun hh G2 H2 s2 => ?_) (fun hh G2 H2 s2 => fin 0 (Int.le_refl _) (s1.trans s2))
    have hk2 : k < ns.length := by
      have : (k : Int) < (ns.length : Int) := by simpa using hh
      omega
    obtain ⟨x, ex⟩ := get_of hk2
    exact s_asgI (Cn.nil s2.i) (e_abs (e_toInt (e_ixS rfl (s2.g.seq hS1) (e_var rfl (.int _)) ex))) fun G3 H3 s3 => fin _ (by omega) (s1.trans (s2.trans s3))
end N41
/-! W16: kinds and their edges. -/
namespace N41
open PySem PySem.Spec PyProof.Rows L2
abbrev kA : Str := Str.ofString "A"
abbrev kB : Str := Str.ofString "B"
abbrev kC : Str := Str.ofString "C"
abbrev kDd : Str := Str.ofString "D"
abbrev kF : Str := Str.ofString "F"
abbrev kG : Str := Str.ofString "G"
abbrev Kd := Str × Nat
abbrev Ed := Nat × Nat × Nat × Nat
def kdD (q : Kd) : PyData := .tuple [.str q.1, intD q.2]
def edD (e : Ed) : PyData := .tuple [intD e.1, intD e.2.1, intD e.2.2.1, intD e.2.2.2]
def kinds : List Kd := [(kA, 1), (kA, 2), (kA, 3), (kA, 4), (kB, 2), (kB, 3), (kB, 4), (kC, 3), (kC, 4), (kDd, 4), (kF, 4), (kG, 2)]
def ed1 (q : Kd) : List Ed := (List.range (q.2 - 1)).map fun i => (i, i + 1, 1, 1)
def ed2 (q : Kd) : List Ed := if decide (q.1 ∈ [kB, kC]) = true then (ed1 q).set ((ed1 q).length - 1) (if decide (q.1 = kB) = true then (q.2 - 2, q.2 - 1, 1, 2) else (q.2 - 2, q.2 - 1, 2, 1)) else ed1 q
def ed3 (q : Kd) : List Ed := if decide (q.1 ∈ [kF, kG]) = true then (ed2 q).take ((ed2 q).length - 2) ++ (if decide (q.1 = kF) = true then [(1, 2, 1, 2), (2, 3, 1, 1)] else [(0, 1, 1, 3)]) else ed2 q
def edges (q : Kd) : List Ed := if decide (q.1 = kDd) = true then [(0, 1, 1, 1), (1, 2, 1, 1), (1, 3, 1, 1)] else ed3 q
/-- the weights of a kind -/
def wts (q : Kd) : List Nat := if q.1 = kB then List.replicate (q.2 - 1) 2 ++ [1] else if q.1 = kC then List.replicate (q.2 - 1) 1 ++ [2] else if q.1 = kF then [2, 2, 1, 1] else if q.1 = kG then [3, 1] else List.replicate q.2 1
theorem kinds_ok : ∀ q ∈ kinds, 1 ≤ q.2 ∧ q.2 ≤ 4 ∧ (q.1 ∈ [kB, kC] → 2 ≤ q.2) ∧ (edges q).length ≤ 3 ∧ (wts q).length = q.2 ∧ (∀ w ∈ wts q, 0 < w) ∧ ∀ e ∈ edges q, e.1 < q.2 ∧ e.2.1 < q.2 ∧ e.1 ≠ e.2.1 ∧ 1 ≤ e.2.2.1 ∧ e.2.2.1 ≤ 3 ∧ 1 ≤ e.2.2.2 ∧ e.2.2.2 ≤ 3 ∧ (wts q).getD e.1 1 * e.2.2.1 = (wts q).getD e.2.1 1 * e.2.2.2 := by decide +kernel
section
variable {K : PySem.W.Frag} {Γ : List (Addr × HO)} {σ : L2.St} {G H : Hp} {ta tb te : TE} {t : TT} {tu tw tz : TS} {D : Ends} {l : Addr} {xs : List V} {d : PyData}
theorem inV_strs {a : Str} : ∀ {ss : List Str}, inV (.str a) (ss.map V.str) = decide (a ∈ ss)
  | [] => by simp [inV]
  | s :: ss => by
    have ih := inV_strs (a := a) (ss := ss)
    have e : inV (.str a) ((s :: ss).map V.str) = (eqV (.str s) (.str a) || inV (.str a) (ss.map V.str)) := by
      first | rfl | simp [inV, List.any_cons]
    rw [e, ih]
    by_cases h : a = s
    · subst h
      simp [eqV]
    · have h2 : ¬ s = a := fun z => h z.symm
      simp [eqV, h, h2]
theorem flat_strs : ∀ ss : List Str, (ss.map V.str).all flatV = true
  | [] => rfl
  | s :: ss => by
    rw [List.map_cons, List.all_cons, flat_strs ss]
    rfl
theorem Das.inv_strs : ∀ {ss : List Str} {vs : List V}, Das G vs (ss.map PyData.str) → vs = ss.map V.str
  | [], _, h => by cases h; rfl
  | s :: ss, _, h => by
    cases h with
    | cons h1 h2 =>
      cases h1.inv_str
      rw [Das.inv_strs h2]
      rfl
theorem e_inTS {a : Str} {ss : List Str} (ha : EvD Γ ta σ G (.str a)) (hb : EvD Γ tb σ G (.tuple (ss.map PyData.str))) : EvD Γ (tOp (rIn K false) ta tb) σ G (.bool (decide (a ∈ ss))) := fun G1 H1 a b Q q =>
  e_two ha hb a b fun x y G2 H2 s dx dy => by
    obtain ⟨p, xs, rfl, hp, hs⟩ := dy.inv_tup
    cases Das.inv_strs hs
    cases dx.inv_str
    exact ⟨p, _, rfl, .inr (SqT.of (s.i _ _ hp)), rfl, flat_strs ss, by rw [inV_strs]; exact q _ G2 H2 s (.bl _)⟩
theorem q_whenJ {b : Bool} (J : L2.St → Hp → Hp → Prop) (c : Cn Γ G H) (h : EvB Γ t σ G b) (h1 : b = true → ∀ G2 H2 (N : L2.St → Hp → Prop), Stp [] G H G2 H2 → (∀ σ' G' H', J σ' G' H' → N σ' H') → tu { D with nx := N } σ H2) (h2 : b = false → ∀ G2 H2, Stp [] G H G2 H2 → J σ G2 H2) (k : ∀ σ' G' H', J σ' G' H' → tz D σ' H') : tSeq (tIfS t tu tNext) tz D σ H :=
  q_when c h (fun e G2 H2 s => h1 e G2 H2 _ s k) fun e G2 H2 s => k _ _ _ (h2 e G2 H2 s)
theorem q_ifJ {b : Bool} (J : L2.St → Hp → Hp → Prop) (c : Cn Γ G H) (h : EvB Γ t σ G b) (h1 : b = true → ∀ G2 H2 (N : L2.St → Hp → Prop), Stp [] G H G2 H2 → (∀ σ' G' H', J σ' G' H' → N σ' H') → tu { D with nx := N } σ H2) (h2 : b = false → ∀ G2 H2 (N : L2.St → Hp → Prop), Stp [] G H G2 H2 → (∀ σ' G' H', J σ' G' H' → N σ' H') → tw { D with nx := N } σ H2) (k : ∀ σ' G' H', J σ' G' H' → tz D σ' H') : tSeq (tIfS t tu tw) tz D σ H :=
  q_if c h (fun e G2 H2 s => h1 e G2 H2 _ s k) fun e G2 H2 s => h2 e G2 H2 _ s k
theorem ixN_last {n : Nat} (h : 1 ≤ n) : ixN n (-1) = some (n - 1) := by
  unfold ixN
  rw [if_neg (by decide), if_pos (by omega)]
  congr 1
  omega
/-- xs[-1] = e -/
theorem s_putL {i : Nat} (c : Cn Γ G H) (hi : σ[i]? = some (some (.ref l))) (o : Own G H l (.lst xs)) (h : EvD Γ te σ G d) (hl : 1 ≤ xs.length)
    (k : ∀ v G2 H2, Stp [] G H G2 H2 → Da G2 v d → Stp [l] G H G2 (upd H2 l (.lst (xs.set (xs.length - 1) v))) → Own G2 (upd H2 l (.lst (xs.set (xs.length - 1) v))) l (.lst (xs.set (xs.length - 1) v)) → D.nx σ (upd H2 l (.lst (xs.set (xs.length - 1) v)))) :
    tAsg te (gSub (tVar i) (tUn (rU fun i => .int (-i)) (tC (.int 1))) rSetL) D σ H := h G H (Same.refl _) c _ fun v G2 H2 s dv => ⟨_, hi, ⟨1, rfl,
  ⟨l, xs, -1, xs.length - 1, rfl, rfl, (s.own o).2, ixN_last hl, k v G2 H2 s dv (s.of0.trans (Stp.put s.i (s.own o) (by simp))) (s.own o).put⟩⟩⟩
end
/-- xs[-k:] = [..] if t else [..] -/
theorem h_tail {Γ : List (Addr × HO)} {σ : L2.St} {G H : Hp} {ta tb : TE} {t : TT} {D : Ends} {l : Addr} {xs : List V} {ds : List PyData} {i k : Nat} {b : Bool} (c : Cn Γ G H) (hi : σ[i]? = some (some (.ref l))) (o : Own G H l (.lst xs)) (ht : EvB Γ t σ G b) (h1 : b = true → EvL Γ ta σ G ds) (h2 : b = false → EvL Γ tb σ G ds) (hz : xs.length + ds.length ≤ sizeLine)
    (q : ∀ ys G2 H2, Stp [] G H G2 H2 → Das G2 ys ds → Stp [l] G H G2 (upd H2 l (.lst (xs.take (xs.length - k) ++ ys))) → Own G2 (upd H2 l (.lst (xs.take (xs.length - k) ++ ys))) l (.lst (xs.take (xs.length - k) ++ ys)) → D.nx σ (upd H2 l (.lst (xs.take (xs.length - k) ++ ys)))) :
    tAsg (tIf t ta tb) (gTail (tVar i) k) D σ H := by
  refine s_tail c hi o (fun G1 H1 a b' Q q => ht G1 H1 a b' _ fun G2 H2 s => ?_) hz q
  cases b with
  | true =>
    refine iteT (h1 rfl G2 H2 (a.trans s.g) (b'.up s) _ fun p xs G3 H3 s3 hp o3 dx => q p xs G3 H3 (s.trans s3) (s.free hp) o3 dx)
  | false =>
    refine iteF (h2 rfl G2 H2 (a.trans s.g) (b'.up s) _ fun p xs G3 H3 s3 hp o3 dx => q p xs G3 H3 (s.trans s3) (s.free hp) o3 dx)
theorem subD1 {m : Nat} (h : 1 ≤ m) : PyData.int ((m : Int) - 1) = intD (m - 1) := by
  show PyData.int _ = PyData.int _
  congr 1
  omega
theorem subD2 {m : Nat} (h : 2 ≤ m) : PyData.int ((m : Int) - 2) = intD (m - 2) := by
  show PyData.int _ = PyData.int _
  congr 1
  omega
theorem e_ed {Γ : List (Addr × HO)} {σ : L2.St} {G : Hp} {a b c d : TE} {e : Ed} (h1 : EvD Γ a σ G (intD e.1)) (h2 : EvD Γ b σ G (intD e.2.1)) (h3 : EvD Γ c σ G (intD e.2.2.1)) (h4 : EvD Γ d σ G (intD e.2.2.2)) : EvD Γ (tTup (tCons a (tCons b (tCons c (tCons d tNil))))) σ G (edD e) := e_tup (a_cons h1 (a_cons h2 (a_cons h3 (a_cons h4 a_nil)))) (slack (by simp))
abbrev sp__law_edges : Sp := SpF (fun q : Kd => [.str q.1, intD q.2]) (fun q => q ∈ kinds) (fun q => .list ((edges q).map edD))
theorem cal__law_edges {P : Program} {w : World} {K : PySem.W.Frag} {mg : Str → Option Value} {base : Heap} (B : Blt mg) (D : FD K mg "_law_edges" st__law_edges) :
    CalG P w K mg base 1 "_law_edges" sp__law_edges := by
  obtain ⟨f, fd, F, hdf⟩ := D.ex
  refine calG0 (N := N__law_edges) F (F.fn.binds hdf fun _ _ _ _ _ _ us hl => match us, hl with | [_, _], _ => rfl) sc__law_edges (fun vs H Q E h => ?_) fun cdv A outer s H vs Q E hgu hr h => ⟨_, (pss_cons (ps_if (pt_cmpR op_eq (pv 0) pe_str (nomark _)) (pss_one (ps_ret (pe_lst (pa_cons (pe_tup (pa_cons pe_int (pa_cons pe_int (pa_cons pe_int (pa_cons pe_int pa_nil))))) (pa_cons (pe_tup (pa_cons pe_int (pa_cons pe_int (pa_cons pe_int (pa_cons pe_int pa_nil))))) (pa_cons (pe_tup (pa_cons pe_int (pa_cons pe_int (pa_cons pe_int (pa_cons pe_int pa_nil))))) pa_nil)))))) pss_nil)
 (pss_cons (ps_setLc (i := 2) (own := [("_law_at", 3)]) rfl nd__law_edges rfl rfl (sw_true rfl rfl rfl (by kernel_rfl)) (pi_range1 (by rfl) B.range (pa_cons (pe_op op_sub (pv 1) pe_int) pa_nil)) (blkOk_by (by kernel_rfl)) (fun _ _ _ _ _ => (pg_name (i := 3) nd__law_edges rfl (Or.inl rfl))) (fun _ _ _ _ _ => pts_nil) (fun _ _ _ _ _ => (pe_tup (pa_cons (pv 3) (pa_cons (pe_op op_add (pv 3) pe_int) (pa_cons pe_int (pa_cons pe_int pa_nil)))))))
 (pss_cons (ps_if (pt_cmpR (r := rIn K false) op_in_seq (pv 0) (pe_tup (pa_cons pe_str (pa_cons pe_str pa_nil))) (by rfl)) (pss_one (ps_asg (pe_ifExp (pt_cmpR op_eq (pv 0) pe_str (nomark _)) (pe_tup (pa_cons (pe_op op_sub (pv 1) pe_int) (pa_cons (pe_op op_sub (pv 1) pe_int) (pa_cons pe_int (pa_cons pe_int pa_nil))))) (pe_tup (pa_cons (pe_op op_sub (pv 1) pe_int) (pa_cons (pe_op op_sub (pv 1) pe_int) (pa_cons pe_int (pa_cons pe_int pa_nil)))))) (pg_sub (pv 2) (pe_un un_neg pe_int) set_list))) pss_nil)
 (pss_cons (ps_if (pt_cmpR (r := rIn K false) op_in_seq (pv 0) (pe_tup (pa_cons pe_str (pa_cons pe_str pa_nil))) (by rfl)) (pss_one (ps_asg (pe_ifExp (pt_cmpR op_eq (pv 0) pe_str (nomark _)) (pe_lst (pa_cons (pe_tup (pa_cons pe_int (pa_cons pe_int (pa_cons pe_int (pa_cons pe_int pa_nil))))) (pa_cons (pe_tup (pa_cons pe_int (pa_cons pe_int (pa_cons pe_int (pa_cons pe_int pa_nil))))) pa_nil))) (pe_lst (pa_cons (pe_tup (pa_cons pe_int (pa_cons pe_int (pa_cons pe_int (pa_cons pe_int pa_nil))))) pa_nil))) (pg_tail (k := 2) (by decide) (pv 2) (po_some (pe_un un_neg pe_int)) tail_num))) pss_nil)
 (pss_one (ps_ret (pv 2))))))), ?_⟩
  · exact h.ln fun _ => rfl
  · obtain ⟨⟨kd, m⟩, G, gh, dv, hk, q⟩ := h
    obtain ⟨k1, k4, kbc, kl, _⟩ := kinds_ok _ hk
    have k1 : 1 ≤ m := k1
    have k4 : m ≤ 4 := k4
    have q : ∀ (v : V) (G2 H2 : Hp), Stp [] G H G2 H2 → Da G2 v (.list ((edges (kd, m)).map edD)) → Q v H2 := q
    obtain ⟨vk, vm, rfl, dk, dm⟩ := (show Das G vs [.str kd, intD m] from dv).inv2
    cases dk.inv_str
    cases dm.inv_int
    refine q_when (b := decide (kd = kDd)) (Cn.nil gh) (b_test (e_eqS (e_var rfl (.str _)) e_str)) (fun hh G1 H1 s1 => ?_) (fun hh G1 H1 s1 => ?_)
    · refine s_ret (Cn.nil s1.i) ((l_lst (a_cons (e_ed (e := (0, 1, 1, 1)) e_int e_int e_int e_int) (a_cons (e_ed (e := (1, 2, 1, 1)) e_int e_int e_int e_int) (a_cons (e_ed (e := (1, 3, 1, 1)) e_int e_int e_int e_int) a_nil))) (slack (by simp))).toD) fun v G2 H2 s2 dv => q v G2 H2 (s1.trans s2) ?_
      have e : edges (kd, m) = [(0, 1, 1, 1), (1, 2, 1, 1), (1, 3, 1, 1)] := if_pos hh
      rw [e]
      exact dv
    · have e0 : edges (kd, m) = ed3 (kd, m) := if_neg (by rw [hh]; exact Bool.false_ne_true)
      refine q_asgL (Cn.nil s1.i) ((l_lcM (j := 3) (List.range (m - 1)) natD (fun i => edD (i, i + 1, 1, 1)) (i_rng (a_cons ((e_I0 (f := fun i j => i - j) (e_var rfl (.int _)) e_int).eq (d' := intD (m - 1)) ?_) a_nil) (by omega)) (small (by rw [List.length_range]; omega)) (fun _ => rfl) fun i G3 x hi e3 dx => ?_).eq (ds' := (ed1 (kd, m)).map edD) ?_) fun l xs G2 H2 s2 hl o2 dx2 => ?_
      · show PyData.int _ = PyData.int _
        congr 1
        omega
      · cases dx.inv_int
        exact e_ed (e := (i, i + 1, 1, 1)) (e_var rfl (.int _)) ((e_I0 (f := fun i j => i + j) (e_var rfl (.int _)) e_int).eq rfl) e_int e_int
      · unfold ed1
        rw [List.map_map]
        rfl
      · have l1 : (ed1 (kd, m)).length = m - 1 := by unfold ed1; rw [List.length_map, List.length_range]
        have xl : xs.length = m - 1 := by rw [dx2.length, List.length_map, l1]
        refine q_whenJ (fun σ' G' H' => ∃ xs, σ' = [some (.str kd), some (vN m), some (.ref l), none] ∧ Stp [l] G2 H2 G' H' ∧ Own G' H' l (.lst xs) ∧ Das G' xs ((ed2 (kd, m)).map edD)) (Cn.one s2.i o2) (b := decide (kd ∈ [kB, kC])) (b_test (e_inTS (ss := [kB, kC]) (e_var rfl (.str _)) (e_tup (a_cons e_str (a_cons e_str a_nil)) (by decide)))) (fun hh2 G3 H3 N s3 hN => ?_) (fun hh2 G3 H3 s3 => ?_) fun σ' G3 H3 ⟨xs, hσ, st3, o3, dx3⟩ => ?_
        · have k2 : 2 ≤ m := kbc (by simpa using hh2)
          refine s_putL (Cn.one s3.i (s3.own o2)) rfl (s3.own o2) (d := edD (if decide (kd = kB) = true then (m - 2, m - 1, 1, 2) else (m - 2, m - 1, 2, 1))) (e_if (b := decide (kd = kB)) (b_test (e_eqS (e_var rfl (.str _)) e_str)) (fun hb => ?_) (fun hb => ?_)) (by omega) fun v G4 H4 s4 dv st4 o4 => hN _ _ _ ⟨_, rfl, s3.of0.trans st4, o4, ?_⟩
          · rw [if_pos hb]
            exact e_ed (e := (m - 2, m - 1, 1, 2)) ((e_I0 (f := fun i j => i - j) (e_var rfl (.int _)) e_int).eq (subD2 k2)) ((e_I0 (f := fun i j => i - j) (e_var rfl (.int _)) e_int).eq (subD1 k1)) e_int e_int
          · rw [if_neg (by rw [hb]; exact Bool.false_ne_true)]
            exact e_ed (e := (m - 2, m - 1, 2, 1)) ((e_I0 (f := fun i j => i - j) (e_var rfl (.int _)) e_int).eq (subD2 k2)) ((e_I0 (f := fun i j => i - j) (e_var rfl (.int _)) e_int).eq (subD1 k1)) e_int e_int
          · have e2 : ed2 (kd, m) = (ed1 (kd, m)).set ((ed1 (kd, m)).length - 1) (if decide (kd = kB) = true then (m - 2, m - 1, 1, 2) else (m - 2, m - 1, 2, 1)) := if_pos hh2
            rw [e2, List.map_set, l1, xl]
            exact ((s4.das (s3.das dx2))).set _ dv
        · have e2 : ed2 (kd, m) = ed1 (kd, m) := if_neg (by rw [show decide ((kd, m).1 ∈ [kB, kC]) = false from hh2]; exact Bool.false_ne_true)
          rw [e2]
          exact ⟨xs, rfl, s3.of0, s3.own o2, s3.das dx2⟩
        · subst hσ
          have l2 : (ed2 (kd, m)).length = m - 1 := by
            unfold ed2
            split
            · rw [List.length_set, l1]
            · exact l1
          have xl3 : xs.length = m - 1 := by rw [dx3.length, List.length_map, l2]
          refine q_whenJ (fun σ' G' H' => ∃ xs, σ' = [some (.str kd), some (vN m), some (.ref l), none] ∧ Stp [l] G2 H2 G' H' ∧ Own G' H' l (.lst xs) ∧ Das G' xs ((ed3 (kd, m)).map edD)) (Cn.one st3.i o3) (b := decide (kd ∈ [kF, kG])) (b_test (e_inTS (ss := [kF, kG]) (e_var rfl (.str _)) (e_tup (a_cons e_str (a_cons e_str a_nil)) (by decide)))) (fun hh2 G4 H4 N s4 hN => ?_) (fun hh2 G4 H4 s4 => ?_) fun σ' G4 H4 ⟨xs, hσ, st4, o4, dx4⟩ => ?_
          · refine h_tail (ds := (if decide (kd = kF) = true then [(1, 2, 1, 2), (2, 3, 1, 1)] else [(0, 1, 1, 3)] : List Ed).map edD) (k := 2) (Cn.one s4.i (s4.own o3)) rfl (s4.own o3) (b_test (e_eqS (e_var rfl (.str _)) e_str)) (fun hb => ?_) (fun hb => ?_) (slack ?_) fun ys G5 H5 s5 dy st5 o5 => hN _ _ _ ⟨_, rfl, (st3.up s4).trans st5, o5, ?_⟩
            · rw [if_pos hb]
              exact l_lst (a_cons (e_ed (e := (1, 2, 1, 2)) e_int e_int e_int e_int) (a_cons (e_ed (e := (2, 3, 1, 1)) e_int e_int e_int e_int) a_nil)) (slack (by simp))
            · rw [if_neg (by rw [hb]; exact Bool.false_ne_true)]
              exact l_lst (a_cons (e_ed (e := (0, 1, 1, 3)) e_int e_int e_int e_int) a_nil) (slack (by simp))
            · rw [List.length_map, xl3]
              split <;> simp <;> omega
            · have e3 : ed3 (kd, m) = (ed2 (kd, m)).take ((ed2 (kd, m)).length - 2) ++ (if decide (kd = kF) = true then [(1, 2, 1, 2), (2, 3, 1, 1)] else [(0, 1, 1, 3)]) := if_pos hh2
              rw [e3, List.map_append, List.map_take, l2, xl3]
              exact ((s5.das (s4.das dx3)).take _).append dy
          · have e3 : ed3 (kd, m) = ed2 (kd, m) := if_neg (by rw [show decide ((kd, m).1 ∈ [kF, kG]) = false from hh2]; exact Bool.false_ne_true)
            rw [e3]
            exact ⟨xs, rfl, st3.up s4, s4.own o3, s4.das dx3⟩
          · subst hσ
            have kn := Own.know st4.i o4
            have sF : Stp [] G H G4 H4 := (s1.trans s2).comp st4 fun c hc => by
              have z : c = l := by simpa using hc
              rw [z]; exact .inr (s1.free hl)
            exact s_retO (Cn.nil kn.1) rfl (q (.ref l) (upd G4 l (.lst xs)) H4 (sF.know o4 (s1.free hl)) (by rw [e0]; exact .lst upd_same (dx4.mono kn.2)))
end N41
/-! W17: the types of tables with finitely many hands. -/
namespace N41
open PySem PySem.Spec PyProof.Rows L2
def kL (s : List Kd) : PyData := .list (s.map kdD)
def kLL (L : List (List Kd)) : PyData := .list (L.map kL)
def tyTwo : List (List Kd) := [[(kA, 2)], [(kB, 2)], [(kG, 2)]]
def tyThree : List (List Kd) := [[(kA, 3)], [(kB, 3)], [(kC, 3)]]
def tyLone : List Kd := [(kA, 1)]
def tyFour0 : List (List Kd) := [[(kA, 4)], [(kB, 4)], [(kC, 4)], [(kDd, 4)], [(kDd, 4)], [(kF, 4)]]
def tyFour1 : List (List Kd) := ((tyFour0 ++ tyThree.map fun s => s ++ tyLone) ++ tyTwo.map fun s => s ++ tyLone ++ tyLone) ++ [(List.replicate 4 tyLone).flatten]
def tyFour : Nat → List (List Kd)
  | 0 => tyFour1
  | i + 1 => tyFour i ++ (tyTwo.take (i + 1)).map fun s => tyTwo.getD i [] ++ s
def tyMore : List (List (List Kd)) := [[tyLone], tyTwo ++ [tyLone ++ tyLone], ((tyThree ++ tyThree) ++ tyTwo.map fun s => s ++ tyLone) ++ [(List.replicate 3 tyLone).flatten], tyFour 3]
def tyOk (t : Nat) (s : List Kd) : Bool := decide (s.length ≤ 4) && (s.all fun q => decide (q ∈ kinds)) && decide ((s.map (·.2)).sum = t + 1)
def tyAll (t : Nat) : Bool := decide ((tyMore.getD t []).length ≤ 100) && decide (1 ≤ (tyMore.getD t []).length) && (tyMore.getD t []).all (tyOk t)
theorem tyAll_ok : (List.range 4).all tyAll = true := by decide +kernel
theorem tyMore_ok (t : Nat) (h : t < 4) : (tyMore.getD t []).length ≤ 100 ∧ 1 ≤ (tyMore.getD t []).length ∧ ∀ s ∈ tyMore.getD t [], s.length ≤ 4 ∧ (∀ q ∈ s, q ∈ kinds) ∧ (s.map (·.2)).sum = t + 1 := by
  have h1 := List.all_eq_true.mp tyAll_ok t (List.mem_range.mpr h)
  unfold tyAll at h1
  simp only [Bool.and_eq_true, decide_eq_true_eq, List.all_eq_true] at h1
  refine ⟨h1.1.1, h1.1.2, fun s hs => ?_⟩
  have h2 := h1.2 s hs
  unfold tyOk at h2
  simp only [Bool.and_eq_true, decide_eq_true_eq, List.all_eq_true] at h2
  exact ⟨h2.1.1, h2.1.2, h2.2⟩
section
variable {K : PySem.W.Frag} {Γ : List (Addr × HO)} {σ : L2.St} {G H : Hp} {ta tb te : TE} {ar : TA} {tz : TS} {D : Ends}
theorem l_kcat {s s' : List Kd} (h : EvD Γ ta σ G (kL s)) (h' : EvD Γ tb σ G (kL s')) (hz : s.length + s'.length ≤ 1000) : EvD Γ (tOp rCat ta tb) σ G (kL (s ++ s')) := ((l_cat h h' (slack (by simpa using hz))).toD).eq (by unfold kL; rw [List.map_append])
theorem l_kkcat {s s' : List (List Kd)} (h : EvD Γ ta σ G (kLL s)) (h' : EvD Γ tb σ G (kLL s')) (hz : s.length + s'.length ≤ 1000) : EvD Γ (tOp rCat ta tb) σ G (kLL (s ++ s')) := ((l_cat h h' (slack (by simpa using hz))).toD).eq (by unfold kLL; rw [List.map_append])
theorem e_kd {s : Str} {n : Nat} : EvD Γ (tTup (tCons (tC (.str s)) (tCons (tC (.int (n : Int))) tNil))) σ G (kdD (s, n)) := e_tup (a_cons e_str (a_cons e_int a_nil)) (slack (by simp))
theorem e_k1 {q : Kd} (h : EvD Γ ta σ G (kdD q)) : EvD Γ (tLst (tCons ta tNil)) σ G (kL [q]) := (l_lst (a_cons h a_nil) (slack (by simp))).toD
theorem a_kk {s : List Kd} {L : List (List Kd)} (h : EvD Γ ta σ G (kL s)) (h' : EvA Γ ar σ G (L.map kL)) : EvA Γ (tCons ta ar) σ G ((s :: L).map kL) := a_cons h h'
theorem e_kk {L : List (List Kd)} (h : EvA Γ ar σ G (L.map kL)) (hz : L.length ≤ 1000) : EvD Γ (tLst ar) σ G (kLL L) := (l_lst h (slack (by simpa using hz))).toD
theorem e_krep {s : List Kd} {n : Nat} (h : EvD Γ ta σ G (kL s)) (hz : s.length * n ≤ 1000000) (hn : n ≤ 1000000) : EvD Γ (tOp rRep ta (tC (.int (n : Int)))) σ G (kL (List.replicate n s).flatten) := ((l_rep h e_int (by simpa using hz) hn).toD).eq (by
  unfold kL
  congr 1
  clear h hz hn
  induction n with
  | zero => rfl
  | succ n ih => rw [List.replicate_succ, List.replicate_succ, List.flatten_cons, List.flatten_cons, List.map_append, ih])
theorem e_klc {L : List (List Kd)} {wi : TI} {j : Nat} {ws : List Nat} (f : List Kd → List Kd) (hi : EvI Γ wi σ G (L.map kL)) (hz : L.length ≤ 900) (hw : ∀ x, wipe ((wipe σ ws).set j (some x)) ws = wipe σ ws) (h : ∀ s G1 x, s ∈ L → Same G G1 → Da G1 x (kL s) → EvD Γ te ((wipe σ ws).set j (some x)) G1 (kL (f s))) : EvD Γ (tLc wi (gName j) tYes te ws) σ G (kLL (L.map f)) := ((l_lcM L kL (fun s => kL (f s)) hi (small (by omega)) hw h).toD).eq (by unfold kLL; rw [List.map_map]; rfl)
/-- a, b = e, a pair of data -/
theorem q_asgP {i j : Nat} {d e : PyData} (c : Cn Γ G H) (h : EvD Γ te σ G (.tuple [d, e])) (k : ∀ x y G2 H2, Stp [] G H G2 H2 → Da G2 x d → Da G2 y e → tz D ((σ.set i (some x)).set j (some y)) H2) : tSeq (tAsg te (gTup K 2 (gCons (gName i) (gCons (gName j) gNil)))) tz D σ H :=
  h G H (Same.refl _) c _ fun v G2 H2 s dv => g_pair s.i dv fun x y dx dy => k x y G2 H2 s dx dy
end
abbrev sp__law_types : Sp := fun vs H Q _ => ∃ (l : Addr) (n c : Nat) (G : Hp), vs = [.ref l, vN n] ∧ Same G H ∧ Dk G H l c ∧ c ≤ 900000 ∧ 1 ≤ n ∧ n ≤ 4 ∧
  ∀ (v : V) (s : List Kd) (c' : Nat) G2 H2, s ∈ tyMore.getD (n - 1) [] → c ≤ c' → c' ≤ c + 1 → Stp [l] G H G2 H2 → Da G2 v (kL s) → Dk G2 H2 l c' → Q v H2
theorem cal__law_types {P : Program} {w : World} {K : PySem.W.Frag} {mg : Str → Option Value} {base : Heap} (B : Blt mg) (D : FD K mg "_law_types" st__law_types) (c__law_draw : CalG P w K mg base 1 "_law_draw" sp__law_draw) :
    CalG P w K mg base 2 "_law_types" sp__law_types := by
  obtain ⟨f, fd, F, hdf⟩ := D.ex
  refine calG0 (N := N__law_types) F (F.fn.binds hdf fun _ _ _ _ _ _ us hl => match us, hl with | [_, _], _ => rfl) sc__law_types (fun vs H Q E h => ?_) fun cdv A outer s H vs Q E hgu hr h => ⟨_, (pss_cons (ps_asg (pe_tup (pa_cons (pe_lst (pa_cons (pe_lst (pa_cons (pe_tup (pa_cons pe_str (pa_cons pe_int pa_nil))) pa_nil)) (pa_cons (pe_lst (pa_cons (pe_tup (pa_cons pe_str (pa_cons pe_int pa_nil))) pa_nil)) (pa_cons (pe_lst (pa_cons (pe_tup (pa_cons pe_str (pa_cons pe_int pa_nil))) pa_nil)) pa_nil)))) (pa_cons (pe_lst (pa_cons (pe_lst (pa_cons (pe_tup (pa_cons pe_str (pa_cons pe_int pa_nil))) pa_nil)) (pa_cons (pe_lst (pa_cons (pe_tup (pa_cons pe_str (pa_cons pe_int pa_nil))) pa_nil)) (pa_cons (pe_lst (pa_cons (pe_tup (pa_cons pe_str (pa_cons pe_int pa_nil))) pa_nil)) pa_nil)))) pa_nil))) (pg_tupK (K := K) (n := 2) rfl rfl (pgs_cons (pg_name (i := 2) nd__law_types rfl (Or.inr rfl)) (pgs_cons (pg_name (i := 3) nd__law_types rfl (Or.inl rfl)) pgs_nil))))
 (pss_cons (ps_set (i := 4) nd__law_types rfl (Or.inr rfl) (pe_lst (pa_cons (pe_tup (pa_cons pe_str (pa_cons pe_int pa_nil))) pa_nil)))
 (pss_cons (ps_set (i := 5) nd__law_types rfl (Or.inl rfl) (pe_lst (pa_cons (pe_lst (pa_cons (pe_tup (pa_cons pe_str (pa_cons pe_int pa_nil))) pa_nil)) (pa_cons (pe_lst (pa_cons (pe_tup (pa_cons pe_str (pa_cons pe_int pa_nil))) pa_nil)) (pa_cons (pe_lst (pa_cons (pe_tup (pa_cons pe_str (pa_cons pe_int pa_nil))) pa_nil)) (pa_cons (pe_lst (pa_cons (pe_tup (pa_cons pe_str (pa_cons pe_int pa_nil))) pa_nil)) (pa_cons (pe_lst (pa_cons (pe_tup (pa_cons pe_str (pa_cons pe_int pa_nil))) pa_nil)) (pa_cons (pe_lst (pa_cons (pe_tup (pa_cons pe_str (pa_cons pe_int pa_nil))) pa_nil)) pa_nil))))))))
 (pss_cons (ps_set (i := 5) nd__law_types rfl (Or.inl rfl) (pe_op op_cat (pe_op op_cat (pe_op op_cat (pv 5) (pe_lc (own := [("_law_some", 6)]) rfl nd__law_types (pi_listK (K := K) rfl (pv 3)) (blkOk_by (by kernel_rfl)) (fun _ _ _ _ _ => (pg_name (i := 6) nd__law_types rfl (Or.inl rfl))) (fun _ _ _ _ _ => pts_nil) (fun _ _ _ _ _ => (pe_op op_cat (pv 6) (pv 4))))) (pe_lc (own := [("_law_some", 6)]) rfl nd__law_types (pi_listK (K := K) rfl (pv 2)) (blkOk_by (by kernel_rfl)) (fun _ _ _ _ _ => (pg_name (i := 6) nd__law_types rfl (Or.inl rfl))) (fun _ _ _ _ _ => pts_nil) (fun _ _ _ _ _ => (pe_op op_cat (pe_op op_cat (pv 6) (pv 4)) (pv 4))))) (pe_lst (pa_cons (pe_op op_rep (pv 4) pe_int) pa_nil))))
 (pss_cons (ps_for PassesOwn.never rfl (pi_range1 (by rfl) B.range (pa_cons pe_int pa_nil)) (pg_name (i := 7) nd__law_types rfl (Or.inr rfl)) (pss_one (ps_set (i := 5) nd__law_types rfl (Or.inl rfl) (pe_op op_cat (pv 5) (pe_lc (own := [("_law_some", 6)]) rfl nd__law_types (pi_listK (K := K) rfl (pe_slice (r := rSlL K) sl_list (pv 2) po_none (po_some (pe_op op_add (pv 7) pe_int)))) (blkOk_by (by kernel_rfl)) (fun _ _ _ _ _ => (pg_name (i := 6) nd__law_types rfl (Or.inl rfl))) (fun _ _ _ _ _ => pts_nil) (fun _ _ _ _ _ => (pe_op op_cat (pe_ix (r := rIxL K) ix_list (pv 2) (pv 7) (fun _ _ => rfl)) (pv 6))))))))
 (pss_cons (ps_set (i := 8) nd__law_types rfl (Or.inl rfl) (pe_lst (pa_cons (pe_lst (pa_cons (pv 4) pa_nil)) (pa_cons (pe_op op_cat (pv 2) (pe_lst (pa_cons (pe_op op_cat (pv 4) (pv 4)) pa_nil))) (pa_cons (pe_op op_cat (pe_op op_cat (pe_op op_cat (pv 3) (pv 3)) (pe_lc (own := [("_law_some", 6)]) rfl nd__law_types (pi_listK (K := K) rfl (pv 2)) (blkOk_by (by kernel_rfl)) (fun _ _ _ _ _ => (pg_name (i := 6) nd__law_types rfl (Or.inl rfl))) (fun _ _ _ _ _ => pts_nil) (fun _ _ _ _ _ => (pe_op op_cat (pv 6) (pv 4))))) (pe_lst (pa_cons (pe_op op_rep (pv 4) pe_int) pa_nil))) (pa_cons (pv 5) pa_nil))))))
 (pss_one (ps_ret (pe_ix (r := rIxL K) ix_list (pe_ix (r := rIxL K) ix_list (pv 8) (pe_op op_sub (pv 1) pe_int) (fun _ _ => rfl)) (pe_cg c__law_draw hgu hr (by decide) (by rfl) (pa_cons (pv 0) (pa_cons (pe_callB (r := rLen K) c_len (by rfl) B.len bt_len (pa_cons (pe_ix (r := rIxL K) ix_list (pv 8) (pe_op op_sub (pv 1) pe_int) (fun _ _ => rfl)) pa_nil)) pa_nil))) (fun _ _ => rfl)))))))))), ?_⟩
  · obtain ⟨l, n, c, G, rfl, _⟩ := h
    rfl
  · obtain ⟨l, n, c, G, rfl, gh, dk, hc, h1, h4, q⟩ := h
    refine q_asgP (d := kLL tyTwo) (e := kLL tyThree) (Cn.nil gh) (e_tup (a_cons (e_kk (L := tyTwo) (a_kk (e_k1 e_kd) (a_kk (e_k1 e_kd) (a_kk (e_k1 e_kd) a_nil))) (by decide)) (a_cons (e_kk (L := tyThree) (a_kk (e_k1 e_kd) (a_kk (e_k1 e_kd) (a_kk (e_k1 e_kd) a_nil))) (by decide)) a_nil)) (slack (by simp))) fun v2 v3 G1 H1 s1 d2 d3 => ?_
    refine q_asg (d := kL tyLone) (Cn.nil s1.i) (e_k1 e_kd) fun vl G2 H2 s2 dl => ?_
    refine q_asg (d := kLL tyFour0) (Cn.nil s2.i) (e_kk (L := tyFour0) (a_kk (e_k1 e_kd) (a_kk (e_k1 e_kd) (a_kk (e_k1 e_kd) (a_kk (e_k1 e_kd) (a_kk (e_k1 e_kd) (a_kk (e_k1 e_kd) a_nil)))))) (by decide)) fun v4 G3 H3 s3 d4 => ?_
    have d2' := s3.da (s2.da d2)
    have d3' := s3.da (s2.da d3)
    have dl' := s3.da dl
    have len1 : ∀ s ∈ tyThree ++ tyTwo, s.length ≤ 1 := by decide +kernel
    refine q_asg (d := kLL tyFour1) (Cn.nil s3.i) (l_kkcat (s := (tyFour0 ++ tyThree.map fun s => s ++ tyLone) ++ tyTwo.map fun s => s ++ tyLone ++ tyLone) (s' := [(List.replicate 4 tyLone).flatten]) (l_kkcat (s := tyFour0 ++ tyThree.map fun s => s ++ tyLone) (s' := tyTwo.map fun s => s ++ tyLone ++ tyLone) (l_kkcat (s := tyFour0) (s' := tyThree.map fun s => s ++ tyLone) (e_var rfl d4) (e_klc (L := tyThree) (fun s => s ++ tyLone) (i_list (e_var rfl d3')) (by decide) (fun _ => rfl) fun s G5 x hs e5 dx => l_kcat (e_var rfl dx) (e_var rfl (dl'.mono e5)) (by have := len1 s (List.mem_append_left _ hs); show s.length + 1 ≤ 1000; omega)) (by decide)) (e_klc (L := tyTwo) (fun s => s ++ tyLone ++ tyLone) (i_list (e_var rfl d2')) (by decide) (fun _ => rfl) fun s G5 x hs e5 dx => l_kcat (l_kcat (e_var rfl dx) (e_var rfl (dl'.mono e5)) (by have := len1 s (List.mem_append_right _ hs); show s.length + 1 ≤ 1000; omega)) (e_var rfl (dl'.mono e5)) (by have := len1 s (List.mem_append_right _ hs); show (s ++ tyLone).length + 1 ≤ 1000; rw [List.length_append]; show s.length + 1 + 1 ≤ 1000; omega)) (by decide)) (e_kk (L := [(List.replicate 4 tyLone).flatten]) (a_kk (e_krep (n := 4) (e_var rfl dl') (by decide) (by decide)) a_nil) (by decide)) (by decide)) fun v5 G4 H4 s4 d5 => ?_
    have e2 := s4.da d2'
    have e3 := s4.da d3'
    have el := s4.da dl'
    refine q_for (List.range 3) natD (Cn.nil s4.i) (i_rng (a_cons e_int a_nil) (by decide)) (fun G5 _ i σ' G' H' => Same G5 G' ∧ ∃ (v5 : V) (y6 y7 y8 : Option V), σ' = [some (.ref l), some (vN n), some v2, some v3, some vl, some v5, y6, y7, y8] ∧ Stp [] G4 H4 G' H' ∧ Da G' v5 (kLL (tyFour i)))
      (fun G5 H5 s5 => ⟨Same.refl _, v5, _, _, _, rfl, s5, s5.da d5⟩) (fun _ _ _ _ _ _ ⟨h, _, _, _, _, _, s, _⟩ => ⟨h, s.i⟩) (fun G5 H5 i a σ' G' H' x G6 H6 s5 eo ⟨sg, v5, y6, y7, y8, hσ, st, d5⟩ s6 dx => ?_) (fun G5 H5 σ' G' H' s5 ⟨sg, v5, y6, y7, y8, hσ, st, d5⟩ => ?_)
    · subst hσ
      cases dx.inv_int
      have hi3 : i < 3 := by
        have := (List.getElem?_eq_some_iff.mp eo).1
        rwa [List.length_range] at this
      have hai : a = i := by
        rw [List.getElem?_range hi3] at eo
        exact (Option.some.inj eo).symm
      subst hai
      have e26 := s6.da (st.da e2)
      have hget : tyTwo[a]? = some (tyTwo.getD a []) := by
        obtain ⟨y, ey⟩ := get_of (l := tyTwo) (i := a) (by show a < 3; exact hi3)
        rw [ey, getD_of ey]
      have hlen : ∀ i, i < 4 → (tyFour i).length ≤ 100 := by decide +kernel
      have hl2 : ∀ a, a < 3 → (tyTwo.getD a []).length ≤ 1 := by decide +kernel
      refine s_asg (d := kLL (tyFour (a + 1))) (Cn.nil s6.i) (l_kkcat (s := tyFour a) (s' := (tyTwo.take (a + 1)).map fun s => tyTwo.getD a [] ++ s) (e_var rfl (s6.da d5)) (e_klc (L := tyTwo.take (a + 1)) (fun s => tyTwo.getD a [] ++ s) (i_list (((l_slL (n := a + 1) (e_var rfl e26) (o_some ((e_I0 (f := fun i j => i + j) (e_var rfl (.int _)) e_int).eq rfl))).toD).eq (by rw [List.map_take]))) (by rw [List.length_take]; omega) (fun _ => rfl) fun s G7 y hs e7 dy => l_kcat (e_ixL (e_var rfl (e26.mono e7)) (e_var rfl (.int _)) (by rw [List.getElem?_map, hget]; rfl)) (e_var rfl dy) (by have := hl2 a hi3; have := len1 s (List.mem_append_right _ (List.mem_of_mem_take hs)); omega)) (by have := hlen a (by omega); rw [List.length_map, List.length_take]; omega)) fun v G7 H7 s7 dv => ⟨G7, sg.trans (s6.g.trans s7.g), v, _, _, _, rfl, st.trans (s6.trans s7), dv⟩
    · subst hσ
      have d5 : Da G' v5 (kLL (tyFour 3)) := d5
      have f2 := st.da e2
      have f3 := st.da e3
      have fl := st.da el
      refine q_asg (d := .list (tyMore.map kLL)) (Cn.nil st.i) ((l_lst (a_cons (e_kk (L := [tyLone]) (a_kk (e_var rfl fl) a_nil) (by decide)) (a_cons (l_kkcat (s := tyTwo) (s' := [tyLone ++ tyLone]) (e_var rfl f2) (e_kk (L := [tyLone ++ tyLone]) (a_kk (l_kcat (e_var rfl fl) (e_var rfl fl) (by decide)) a_nil) (by decide)) (by decide)) (a_cons (l_kkcat (s := (tyThree ++ tyThree) ++ tyTwo.map fun s => s ++ tyLone) (s' := [(List.replicate 3 tyLone).flatten]) (l_kkcat (s := tyThree ++ tyThree) (s' := tyTwo.map fun s => s ++ tyLone) (l_kkcat (e_var rfl f3) (e_var rfl f3) (by decide)) (e_klc (L := tyTwo) (fun s => s ++ tyLone) (i_list (e_var rfl f2)) (by decide) (fun _ => rfl) fun s G5 x hs e5 dx => l_kcat (e_var rfl dx) (e_var rfl (fl.mono e5)) (by have := len1 s (List.mem_append_right _ hs); show s.length + 1 ≤ 1000; omega)) (by decide)) (e_kk (L := [(List.replicate 3 tyLone).flatten]) (a_kk (e_krep (n := 3) (e_var rfl fl) (by decide) (by decide)) a_nil) (by decide)) (by decide)) (a_cons (e_var rfl d5) a_nil)))) (slack (by simp))).toD) fun vm G6 H6 s6 dm => ?_
      have tm : tyMore[n - 1]? = some (tyMore.getD (n - 1) []) := by
        obtain ⟨y, ey⟩ := get_of (l := tyMore) (i := n - 1) (by show n - 1 < 4; omega)
        rw [ey, getD_of ey]
      obtain ⟨t1, t2, _⟩ := tyMore_ok (n - 1) (by omega)
      have dk6 : Dk G6 H6 l c := (((((dk.up s1).up s2).up s3).up s4).up st).up s6
      have ixE : ∀ {Γ : List (Addr × HO)} {σ : L2.St} {Gx : Hp} (h8 : σ[8]? = some (some vm)) (h9 : σ[1]? = some (some (vN n))) (hG : Same G6 Gx), EvD Γ (tOp (rIxL K) (tVar 8) (tOp (rI0 fun i j => .int (i - j)) (tVar 1) (tC (.int 1)))) σ Gx (kLL (tyMore.getD (n - 1) [])) := fun h8 h9 hG => e_ixL (j := n - 1) (e_var h8 (dm.mono hG)) ((e_I0 (f := fun i j => i - j) (e_var h9 (.int _)) e_int).eq (subD1 h1)) (by rw [List.getElem?_map, tm]; rfl)
      refine ixE rfl rfl (Same.refl _) G6 H6 (Same.refl _) (Cn.nil s6.i) _ fun v G7 H7 s7 dv => ?_
      refine r_draw (Cn.nil s7.i) rfl (dk6.up s7) (by omega) (e_lenL (n := (tyMore.getD (n - 1) []).length) (ixE rfl rfl s7.g) (by rw [List.length_map])) t2 (by omega) fun r c' G8 H8 hr a1 a2 s8 d8 => ?_
      obtain ⟨p, xs, rfl, hp, hs⟩ := (dv.mono s8.g).inv_lst
      have hsr : (tyMore.getD (n - 1) [])[r]? = some (tyMore.getD (n - 1) [])[r] := List.getElem?_eq_getElem hr
      obtain ⟨w, hw, dw⟩ := hs.get (i := r) (d := kL (tyMore.getD (n - 1) [])[r]) (by rw [List.getElem?_map, hsr]; rfl)
      refine ⟨p, xs, (r : Int), w, rfl, rfl, SqL.of (s8.i _ _ hp), atI_nat hw, ?_⟩
      exact q w _ c' G8 H8 (List.getElem_mem hr) a1 a2 (((((((s1.trans s2).trans s3).trans s4).trans st).trans s6).trans s7).of0.trans s8) dw d8
end N41
/-! W18: tables drawn with weights. -/
namespace N41
open PySem PySem.Spec PyProof.Rows L2
theorem rep_int : ∀ n : Nat, (List.replicate n [PyData.int 0]).flatten = (List.replicate n (0 : Int)).map PyData.int
  | 0 => rfl
  | n + 1 => by
    rw [List.replicate_succ, List.replicate_succ, List.flatten_cons, rep_int n]
    rfl
section
variable {K : PySem.W.Frag} {Γ : List (Addr × HO)} {σ : L2.St} {G H : Hp} {ta tb te ti : TE} {D : Ends} {tz : TS} {p r : Addr} {rs : List Addr} {M : Tab}
/-- [[0] * n for _ in range(n)] -/
theorem r_rows {wi : TI} {j n : Nat} {ws : List Nat} (cn : Cn Γ G H) (h4 : n ≤ 4) (hi : EvI Γ wi σ G ((List.range n).map natD)) (hw : ∀ x, wipe ((wipe σ ws).set j (some x)) ws = wipe σ ws)
    (hte : ∀ G1 x, Same G G1 → EvD [] tb ((wipe σ ws).set j (some x)) G1 (intD n)) (Q : VK) (q : ∀ p rs G2 H2, Stp [] G H G2 H2 → (∀ c ∈ p :: rs, H c = none) → Mat G2 H2 p rs (zeros n) → Q (.ref p) H2) :
    tLc wi (gName j) tYes (tOp rRep (tLst (tCons (tC (.int 0)) tNil)) tb) ws σ H Q := by
  refine r_lcG (List.range n) natD [] (fun C ys G' H' => ∃ rs : List Addr, ys = rs.map V.ref ∧ (C :: rs).Nodup ∧ (∀ r ∈ rs, H r = none ∧ Own G' H' r (.lst ((List.replicate n (0 : Int)).map V.int)))) cn (fun _ z => by cases z) hi (small (by rw [List.length_range]; omega)) hw
    (fun C G1 H1 s hC => ⟨[], rfl, by simp, fun _ z => by cases z⟩) (fun C ys G1 H1 G2 H2 ⟨rs, e, nd, h⟩ s => ⟨rs, e, nd, fun r hr => ⟨(h r hr).1, s.own (h r hr).2⟩⟩) (fun C ys G1 H1 o o' ow ⟨rs, e, nd, h⟩ => ⟨rs, e, nd, fun r hr => ⟨(h r hr).1, (h r hr).2.putN fun z => (List.nodup_cons.mp nd).1 (by rw [← z]; exact hr)⟩⟩) ?_ Q ?_
  · intro C i a G' H' ys x e hC hC2 st hl ⟨rs, ey, nd, hr⟩ dx Q' hQ
    have sg : Same G G' := st.g
    refine l_rep (n := n) (ds := [.int 0]) (l_lst (Γ := []) (a_cons e_int a_nil) (slack (by simp))).toD (hte G' x sg) (by simp; omega) (by omega) G' H' (Same.refl _) (Cn.nil st.i) _ fun p xs G2 H2 s2 hp op dxs => ?_
    have dxs : Das G2 xs ((List.replicate n (0 : Int)).map PyData.int) := by
      rw [← rep_int n]
      exact dxs
    have ex := dxs.inv_ints
    subst ex
    refine hQ (.ref p) G2 H2 s2 ⟨rs ++ [p], by rw [ey, List.map_append]; rfl, ?_, fun r hr' => ?_⟩
    · rw [← List.cons_append, List.nodup_append]
      refine ⟨nd, by simp, fun a ha b hb z => ?_⟩
      have : b = p := by simpa using hb
      rw [z, this] at ha
      rcases List.mem_cons.mp ha with h | h
      · exact hC2 (by rw [← h]; exact hp)
      · have := (hr p h).2.2
        rw [hp] at this
        cases this
    · rcases List.mem_append.mp hr' with h | h
      · exact ⟨(hr r h).1, s2.own (hr r h).2⟩
      · have : r = p := by simpa using h
        rw [this]
        refine ⟨?_, op⟩
        cases hh : H p with
        | none => rfl
        | some u => exact absurd hp (st.t p (by rw [hh]; exact fun z => nomatch z))
  · intro p xs G2 H2 s2 hp op hl ⟨rs, ey, nd, hr⟩
    subst ey
    rw [List.length_map, List.length_range] at hl
    refine q p rs G2 H2 s2 (fun c hc => ?_) ⟨op, by rw [(zeros_sq n).len]; exact hl, fun i r row e1 e2 => ?_, nd⟩
    · rcases List.mem_cons.mp hc with h | h
      · rw [h]; exact hp
      · exact (hr c h).1
    · have e3 : row = List.replicate n 0 := List.eq_of_mem_replicate (List.mem_of_getElem? e2)
      rw [e3]
      exact (hr r (List.mem_of_getElem? e1)).2
/-- rows[i] -/
theorem r_ixR {i a : Nat} {Q : VK} (cn : Cn Γ G H) (hi : σ[i]? = some (some (.ref p))) (m : Mat G H p rs M) (hb : EvD Γ tb σ G (.int (a : Int))) (er : rs[a]? = some r) (k : ∀ G2 H2, Stp [] G H G2 H2 → Q (.ref r) H2) : tOp (rIxL K) (tVar i) tb σ H Q :=
  ⟨_, hi, hb G H (Same.refl _) cn _ fun y G2 H2 s dy => ⟨p, rs.map V.ref, (a : Int), .ref r, rfl, dy.inv_int, SqL.of (s.own m.own).2, atI_nat (by rw [List.getElem?_map, er]; rfl), k G2 H2 s⟩⟩
/-- row[j] = e -/
theorem s_putR {i a j : Nat} {x : Int} (hi : σ[i]? = some (some (.ref r))) (m : Mat G H p rs M) (gh : Same G H) (er : rs[a]? = some r) (em : M[a]? = some (rowM M a)) (hj : j < (rowM M a).length) (h : EvD [] te σ G (.int x)) (ht : EvD [] ti σ G (.int (j : Int)))
    (k : ∀ G2 H2, Stp [r] G H G2 H2 → Mat G2 H2 p rs (M.set a ((rowM M a).set j x)) → D.nx σ H2) : tAsg te (gSub (tVar i) ti rSetL) D σ H :=
  h G H (Same.refl _) (Cn.nil gh) _ fun v G2 H2 s dv => ⟨_, hi, ht G2 H2 s.g (Cn.nil s.i) _ fun w G3 H3 s3 dw => by
    cases dv.inv_int
    have m3 := (m.up s).up s3
    refine ⟨r, (rowM M a).map V.int, (j : Int), j, rfl, dw.inv_int, (m3.row a r _ er em).2, ixN_nat (by rw [List.length_map]; exact hj), ?_⟩
    have e : ((rowM M a).map V.int).set j (.int x) = ((rowM M a).set j x).map V.int := by rw [List.map_set]
    rw [e]
    exact k G3 _ ((s.trans s3).of0.trans (Stp.put s3.i (m3.row a r _ er em) (by simp))) (m3.put er em)⟩
theorem q_putR {i a j : Nat} {x : Int} (hi : σ[i]? = some (some (.ref r))) (m : Mat G H p rs M) (gh : Same G H) (er : rs[a]? = some r) (em : M[a]? = some (rowM M a)) (hj : j < (rowM M a).length) (h : EvD [] te σ G (.int x)) (ht : EvD [] ti σ G (.int (j : Int)))
    (k : ∀ G2 H2, Stp [r] G H G2 H2 → Mat G2 H2 p rs (M.set a ((rowM M a).set j x)) → tz D σ H2) : tSeq (tAsg te (gSub (tVar i) ti rSetL)) tz D σ H := s_putR (D := { D with nx := tz D }) hi m gh er em hj h ht k
/-- return tuple([tuple(line) for line in rows]) -/
theorem s_retRows {G0 H0 : Hp} {m : List Addr} {i j : Nat} {ws : List Nat} (hi : σ[i]? = some (some (.ref p))) (mt : Mat G H p rs M) (s : Stp m G0 H0 G H) (hn : ∀ c ∈ p :: rs, H0 c = none) (hz : M.length ≤ 900) (hw : ∀ x, wipe ((wipe σ ws).set j (some x)) ws = wipe σ ws) (hjx : ∀ x, ((wipe σ ws).set j (some x))[j]? = some (some x))
    (k : ∀ v G2 H2, Stp m G0 H0 G2 H2 → (∀ l c, Dk G H l c → H0 l ≠ none → Dk G2 H2 l c) → Da G2 v (tD M) → D.rt v H2) : tRet (tCB (rTup K) (tCons (tLc (iList K (tVar i)) (gName j) tYes (tCB (rTup K) (tCons (tVar j) tNil)) ws) tNil)) D σ H := by
  obtain ⟨G2, s2, e2, d2, oth⟩ := mt.know s hn
  have d2 : Da G2 (.ref p) (.list (M.map fun row => .list (row.map PyData.int))) := d2
  refine s_ret (G := G2) (Cn.nil s2.i) ((e_tupleL ((l_lcM M (fun row => PyData.list (row.map PyData.int)) rD (i_list (e_var hi d2)) (small (by omega)) hw fun row G3 x hr e3 dx => (e_tupleL (e_var (hjx x) dx)).eq rfl)).toD).eq rfl) fun v G3 H3 s3 dv => k v G3 H3 (s2.up s3) (fun l c ⟨a, b, ow, rr⟩ hl => Dk.up (c := c) ⟨a, b, ⟨by rw [oth l fun z => hl (hn l z)]; exact ow.1, ow.2⟩, rr⟩ s3) dv
end
end N41
/-! W19: _law_wild. -/
namespace N41
open PySem PySem.Spec PyProof.Rows L2
section
variable {K : PySem.W.Frag} {Γ : List (Addr × HO)} {σ : L2.St} {G H : Hp} {ta tb te ti : TE} {D : Ends} {tu tz : TS} {l p : Addr} {c : Nat} {o : HO}
theorem Dk.know (h : Dk G H l c) (n : l ≠ p) : Dk (upd G p o) H l c := by
  obtain ⟨a, b, ow, r⟩ := h
  exact ⟨a, b, ⟨by rw [upd_ne n]; exact ow.1, ow.2⟩, r⟩
theorem r_join (J : L2.St → Hp → Hp → Prop) (h : ∀ N : L2.St → Hp → Prop, (∀ σ' G' H', J σ' G' H' → N σ' H') → tu { D with nx := N } σ H) (k : ∀ σ' G' H', J σ' G' H' → tz D σ' H') : tSeq tu tz D σ H := h (tz D) k
theorem r_asg {i : Nat} (h : te σ H fun x H1 => tz D (σ.set i (some x)) H1) : tSeq (tAsg te (gName i)) tz D σ H := h
theorem r_par {i j : Nat} (h : ta σ H fun x H1 => tb σ H1 fun y H2 => ∃ v w, [x, y] = [v, w] ∧ tz D ((σ.set i (some v)).set j (some w)) H2) : tSeq (tPar i j (tCons ta (tCons tb tNil))) tz D σ H := h
theorem get_range' {n i : Nat} {d : PyData} (h : ((List.range n).map fun k => natD (k + 1))[i]? = some d) : i < n ∧ d = natD (i + 1) := by
  rw [List.getElem?_map] at h
  by_cases hi : i < n
  · rw [List.getElem?_range hi] at h
    exact ⟨hi, (Option.some.inj h).symm⟩
  · rw [List.getElem?_eq_none (by rw [List.length_range]; omega)] at h
    cases h
/-- range(1, n + 1) -/
theorem i_rng19 : EvI Γ (iRng2 (tCons (tC (.int 1)) (tCons (tC (.int 10)) tNil))) σ G ((List.range 9).map fun k => natD (k + 1)) := fun G1 H1 a b R q => by
  refine ⟨1, 10, rfl, ⟨by decide, by decide, by decide, by decide⟩, q _ G1 H1 (Stp.refl b.i) ⟨fun G' H' e1 e2 => ?_, fun i d G' H' he e1 e2 => ?_⟩⟩
  · show ((10 : Int) - 1).toNat ≤ ((List.range 9).map fun k => natD (k + 1)).length
    decide
  · obtain ⟨hi, rfl⟩ := get_range' he
    refine ⟨by show i < ((10 : Int) - 1).toNat; omega, fun x H'' y => ?_⟩
    obtain ⟨rfl, rfl⟩ := y
    refine ⟨G', Stp.refl e2, ?_⟩
    rw [Int.add_comm]
    exact .int _
end
theorem last_filter {p : Nat → Bool} (h0 : p 0 = true) : ∃ k, ((List.range 9).filter p)[((List.range 9).filter p).length - 1]? = some k ∧ k < 9 ∧ p k = true := by
  have hm : 0 ∈ (List.range 9).filter p := List.mem_filter.mpr ⟨by decide, h0⟩
  have hl : ((List.range 9).filter p).length - 1 < ((List.range 9).filter p).length := by
    have := List.length_pos_of_mem hm
    omega
  obtain ⟨k, ek⟩ := get_of hl
  obtain ⟨h1, h2⟩ := List.mem_filter.mp (List.mem_of_getElem? ek)
  exact ⟨k, ek, List.mem_range.mp h1, h2⟩
def smallT (ws : List Nat) : Prop := ∀ x ∈ ws, 1 ≤ x ∧ x ≤ 9
theorem wild_small {t0 h b mx : Nat} (hm : mx = max h b) (h0 : t0 = 2 / mx) (hb : 1 ≤ b) : t0 ≤ 2 ∧ t0 * h ≤ 2 ∧ t0 * b ≤ 2 := by
  have h1 : t0 * mx ≤ 2 := by rw [h0]; exact Nat.div_mul_le_self 2 mx
  have h2 : t0 * h ≤ t0 * mx := Nat.mul_le_mul_left _ (by omega)
  have h3 : t0 * b ≤ t0 * mx := Nat.mul_le_mul_left _ (by omega)
  have h4 : t0 ≤ 2 := by rw [h0]; exact Nat.div_le_self _ _
  exact ⟨h4, by omega, by omega⟩
theorem wild_le {t : Int} {t0 h : Nat} (ht : t.natAbs ≤ t0) (hh : t0 * h ≤ 2) : (t * (h : Int)).natAbs ≤ 2 := by
  rw [Int.natAbs_mul, Int.natAbs_natCast]
  exact Nat.le_trans (Nat.mul_le_mul_right _ ht) hh
/-- what the walk of a pair gives -/
theorem wild_skw {wa wb g : Nat} {t : Int} (ha : g ∣ wa) (hb : g ∣ wb) (hg : 0 < g) : ((wa : Nat) : Int) * (t * ((wb / g : Nat) : Int)) = -((wb : Nat) : Int) * (-t * ((wa / g : Nat) : Int)) := by
  obtain ⟨a, rfl⟩ := ha
  obtain ⟨b, rfl⟩ := hb
  rw [Nat.mul_div_cancel_left _ hg, Nat.mul_div_cancel_left _ hg, Int.natCast_mul, Int.natCast_mul, Int.neg_mul, Int.neg_mul, Int.mul_neg, Int.neg_neg]
  ac_rfl
abbrev sp__law_wild : Sp := fun vs H Q _ => ∃ (l : Addr) (n c : Nat) (G : Hp), vs = [.ref l, vN n, vN 2] ∧ Same G H ∧ Dk G H l c ∧ c ≤ 900000 ∧ 1 ≤ n ∧ n ≤ 4 ∧
  ∀ (v : V) (T : Tab) (c' : Nat) G2 H2, Sq n T → Skw n T → LeE 2 T → c ≤ c' → c' ≤ c + 100 → Stp [l] G H G2 H2 → Da G2 v (tD T) → Dk G2 H2 l c' → Q v H2
theorem cal__law_wild {P : Program} {w : World} {K : PySem.W.Frag} {mg : Str → Option Value} {base : Heap} (B : Blt mg) (D : FD K mg "_law_wild" st__law_wild) (c__law_draw : CalG P w K mg base 1 "_law_draw" sp__law_draw) :
    CalG P w K mg base 2 "_law_wild" sp__law_wild := by
  obtain ⟨f, fd, F, hdf⟩ := D.ex
  refine calG0 (N := N__law_wild) F (F.fn.binds hdf fun _ _ _ _ _ _ us hl => match us, hl with | [_, _, _], _ => rfl) sc__law_wild (fun vs H Q E h => ?_) fun cdv A outer s H vs Q E hgu hr h => ⟨_, (pss_cons (ps_set (i := 3) nd__law_wild rfl (Or.inr rfl) (pe_lc (own := [("_law_at", 4)]) rfl nd__law_wild (pi_range1 (by rfl) B.range (pa_cons (pv 1) pa_nil)) (blkOk_by (by kernel_rfl)) (fun _ _ _ _ _ => (pg_name (i := 4) nd__law_wild rfl (Or.inl rfl))) (fun _ _ _ _ _ => pts_nil) (fun _ _ _ _ _ => (pe_ix (r := rIxL K) ix_list (pe_lst (pa_cons pe_int (pa_cons pe_int (pa_cons pe_int (pa_cons pe_int (pa_cons pe_int (pa_cons pe_int (pa_cons pe_int (pa_cons pe_int (pa_cons pe_int (pa_cons pe_int pa_nil))))))))))) (pe_cg c__law_draw hgu hr (by decide) (by rfl) (pa_cons (pv 0) (pa_cons pe_int pa_nil))) (fun _ _ => rfl)))))
 (pss_cons (ps_setLc (i := 5) (own := [("_law_at", 4)]) rfl nd__law_wild rfl rfl (sw_true rfl rfl rfl (by kernel_rfl)) (pi_range1 (by rfl) B.range (pa_cons (pv 1) pa_nil)) (blkOk_by (by kernel_rfl)) (fun _ _ _ _ _ => (pg_name (i := 4) nd__law_wild rfl (Or.inl rfl))) (fun _ _ _ _ _ => pts_nil) (fun _ _ _ _ _ => (pe_op op_rep (pe_lst (pa_cons pe_int pa_nil)) (pv 1))))
 (pss_cons (ps_for PassesOwn.never rfl (pi_range1 (by rfl) B.range (pa_cons (pv 1) pa_nil)) (pg_name (i := 4) nd__law_wild rfl (Or.inr rfl)) (pss_one (ps_for PassesOwn.never rfl (pi_range1 (by rfl) B.range (pa_cons (pv 4) pa_nil)) (pg_name (i := 6) nd__law_wild rfl (Or.inr rfl)) (pss_cons (ps_setLc (i := 7) (own := [("_law_part", 8)]) rfl nd__law_wild rfl rfl (sw_true rfl rfl rfl (by kernel_rfl)) (pi_range2 (by rfl) B.range (pa_cons pe_int (pa_cons pe_int pa_nil))) (blkOk_by (by kernel_rfl)) (fun _ _ _ _ _ => (pg_name (i := 8) nd__law_wild rfl (Or.inl rfl))) (fun _ _ _ _ _ => (pts_one (PW.pt (pw_and (pt_cmpR op_eq (pe_op op_mod (pe_callTy (r := rInt1) c_int (by rfl) B.int bt_int (pa_cons (pe_ix (r := rIxL K) ix_list (pv 3) (pv 4) (fun _ _ => rfl)) pa_nil)) (pv 8)) pe_int (nomark _)) (pw_and1 (pt_cmpR op_eq (pe_op op_mod (pe_callTy (r := rInt1) c_int (by rfl) B.int bt_int (pa_cons (pe_ix (r := rIxL K) ix_list (pv 3) (pv 6) (fun _ _ => rfl)) pa_nil)) (pv 8)) pe_int (nomark _))))))) (fun _ _ _ _ _ => (pv 8)))
 (pss_cons (ps_par (i := 9) (j := 10) rfl nd__law_wild rfl rfl (by decide) rfl rfl (pa_cons (pe_op op_fdivW (pe_ix (r := rIxL K) ix_list (pv 3) (pv 6) (fun _ _ => rfl)) (pe_ix (r := rIxL K) ix_list (pv 7) (pe_un un_neg pe_int) (fun _ _ => rfl))) (pa_cons (pe_op op_fdivW (pe_ix (r := rIxL K) ix_list (pv 3) (pv 4) (fun _ _ => rfl)) (pe_ix (r := rIxL K) ix_list (pv 7) (pe_un un_neg pe_int) (fun _ _ => rfl))) pa_nil)) (by rfl))
 (pss_cons (ps_set (i := 11) nd__law_wild rfl (Or.inl rfl) (pe_op op_fdivW (pv 2) (pe_callB (c_max2 rfl) (by rfl) B.max bt_max (pa_cons (pv 9) (pa_cons (pv 10) pa_nil)))))
 (pss_cons (ps_if (PW.pt (pw_and (pt_cmpR op_gt (pv 11) pe_int (nomark _)) (pw_and1 (pt_cmpR op_gt (pe_cg c__law_draw hgu hr (by decide) (by rfl) (pa_cons (pv 0) (pa_cons pe_int pa_nil))) pe_int (nomark _))))) (pss_cons (ps_set (i := 12) nd__law_wild rfl (Or.inl rfl) (pe_ix (r := rIxL K) ix_list (pe_lst (pa_cons pe_int (pa_cons (pe_un un_neg pe_int) pa_nil))) (pe_cg c__law_draw hgu hr (by decide) (by rfl) (pa_cons (pv 0) (pa_cons pe_int pa_nil))) (fun _ _ => rfl)))
 (pss_one (ps_set (i := 11) nd__law_wild rfl (Or.inl rfl) (pe_ifExp (pt_cmpR op_eq (pe_cg c__law_draw hgu hr (by decide) (by rfl) (pa_cons (pv 0) (pa_cons pe_int pa_nil))) pe_int (nomark _)) (pv 12) (pe_op op_sub (pe_cg c__law_draw hgu hr (by decide) (by rfl) (pa_cons (pv 0) (pa_cons (pe_op op_add (pe_op op_mulW pe_int (pv 11)) pe_int) pa_nil))) (pv 11)))))) (pss_one (ps_set (i := 11) nd__law_wild rfl (Or.inl rfl) pe_int)))
 (pss_cons (ps_par (i := 13) (j := 14) rfl nd__law_wild rfl rfl (by decide) rfl rfl (pa_cons (pe_ix (r := rIxL K) ix_list (pv 5) (pv 4) (fun _ _ => rfl)) (pa_cons (pe_ix (r := rIxL K) ix_list (pv 5) (pv 6) (fun _ _ => rfl)) pa_nil)) (by rfl))
 (pss_cons (ps_asg (pe_op op_mulW (pv 11) (pv 9)) (pg_sub (pv 13) (pv 6) set_list))
 (pss_one (ps_asg (pe_op op_mulW (pe_un un_neg (pv 11)) (pv 10)) (pg_sub (pv 14) (pv 4) set_list))))))))))))
 (pss_one (ps_ret (pe_callTy (r := rTup K) c_tup (by rfl) B.tuple bt_tuple (pa_cons (pe_lc (own := [("_law_line", 15)]) rfl nd__law_wild (pi_listK (K := K) rfl (pv 5)) (blkOk_by (by kernel_rfl)) (fun _ _ _ _ _ => (pg_name (i := 15) nd__law_wild rfl (Or.inl rfl))) (fun _ _ _ _ _ => pts_nil) (fun _ _ _ _ _ => (pe_callTy (r := rTup K) c_tup (by rfl) B.tuple bt_tuple (pa_cons (pv 15) pa_nil)))) pa_nil))))))), ?_⟩
  · obtain ⟨l, n, c, G, rfl, _⟩ := h
    rfl
  · obtain ⟨l, n, c, G, rfl, gh, dk, hc, h1, h4, q⟩ := h
    -- the weights
    refine r_asg ?_
    refine r_lcG (List.range n) natD [l] (fun C ys Ga Ha => ∃ (cc : Nat) (ws : List Nat), ys = ws.map vN ∧ smallT ws ∧ c ≤ cc ∧ cc ≤ c + ys.length ∧ Dk Ga Ha l cc ∧ l ≠ C) (Cn.nil gh) (fun x hx => by
      have : x = l := by simpa using hx
      rw [this]; exact dk.in) (i_rng (a_cons (e_var rfl (.int _)) a_nil) (by omega)) (small (by rw [List.length_range]; omega)) (fun _ => rfl)
      (fun C Ga Ha sa hC => ⟨c, [], rfl, (fun _ z => by cases z), Nat.le_refl _, by simp, (dk.up sa).putN (dk.ne (sa.free hC)), dk.ne (sa.free hC)⟩) (fun C ys Ga Ha Gb Hb ⟨cc, ws, e1, e0, e2, e3, d, ne⟩ s => ⟨cc, ws, e1, e0, e2, e3, d.up s, ne⟩) (fun C ys Ga Ha o o' ow ⟨cc, ws, e1, e0, e2, e3, d, ne⟩ => ⟨cc, ws, e1, e0, e2, e3, d.putN ne, ne⟩)
      (fun C k b Ga Ha ys z eb hC hC2 sa hyl ⟨cc, ws, ey, ew, e2, e3, d, ne⟩ dz Q' hQ => ?_) _ fun pw ys G1 H1 s1 hpw opw hyl ⟨c1, ws, ey, ew, e2, e3, d1, ne⟩ => ?_
    rotate_left
    · have hkn : k < n := by
        have := (List.getElem?_eq_some_iff.mp eb).1
        rwa [List.length_range] at this
      refine l_lst (Γ := []) (a_cons e_int (a_cons e_int (a_cons e_int (a_cons e_int (a_cons e_int (a_cons e_int (a_cons e_int (a_cons e_int (a_cons e_int (a_cons e_int a_nil)))))))))) (slack (by simp)) Ga Ha (Same.refl _) (Cn.nil sa.i) _ fun p6 xs6 Gb Hb sb hp6 op6 dx6 => ?_
      have dx6 : Das Gb xs6 (([1, 1, 1, 1, 2, 2, 3, 4, 6, 9] : List Nat).map natD) := dx6
      have ex6 := Das.inv_nats dx6
      subst ex6
      refine r_draw (Cn.one sb.i op6) rfl (d.up sb) (by rw [hyl] at e3; omega) e_int (by decide) (by decide) fun r2 c3 Gc Hc hr2 f1 f2 sc dc => ?_
      have np : l ≠ p6 := d.ne hp6
      have op6c := sc.ownM (by simp; exact np.symm) op6
      have hat : ∃ y : Nat, (([1, 1, 1, 1, 2, 2, 3, 4, 6, 9] : List Nat).map vN)[r2]? = some (vN y) ∧ 1 ≤ y ∧ y ≤ 9 := by
        have hr6 : r2 < 10 := hr2
        have : r2 = 0 ∨ r2 = 1 ∨ r2 = 2 ∨ r2 = 3 ∨ r2 = 4 ∨ r2 = 5 ∨ r2 = 6 ∨ r2 = 7 ∨ r2 = 8 ∨ r2 = 9 := by omega
        rcases this with rfl | rfl | rfl | rfl | rfl | rfl | rfl | rfl | rfl | rfl <;> exact ⟨_, rfl, by decide, by decide⟩
      obtain ⟨y, hy, hy1, hy9⟩ := hat
      refine ⟨p6, _, (r2 : Int), vN y, rfl, rfl, SqL.of op6c.2, atI_nat hy, hQ _ Gc Hc (sb.of0.trans sc) ⟨c3, ws ++ [y], by rw [ey, List.map_append]; rfl, ?_, by omega, by rw [List.length_append]; simp; omega, dc, ne⟩⟩
      intro x hx
      rcases List.mem_append.mp hx with h | h
      · exact ew x h
      · have : x = y := by simpa using h
        rw [this]; exact ⟨hy1, hy9⟩
    · subst ey
      rw [List.length_map, List.length_range] at hyl
      rw [List.length_map] at e3
      have kn := Own.know s1.i opw
      have sK := s1.know opw hpw
      have dkK : Dk (upd G1 pw (.lst (ws.map vN))) H1 l c1 := d1.know ne
      have dW : Da (upd G1 pw (.lst (ws.map vN))) (.ref pw) (.list (ws.map natD)) := .lst upd_same (das_nats _ ws)
      generalize upd G1 pw (.lst (ws.map vN)) = Gk at kn sK dkK dW
      -- the rows
      refine r_asg ?_
      refine r_rows (n := n) (Cn.nil sK.i) h4 (i_rng (a_cons (e_var rfl (.int _)) a_nil) (by omega)) (fun _ => rfl) (fun Ga x ea => e_var rfl (.int _)) _ fun p rs G2 H2 s2 hn mt => ?_
      have hn0 : ∀ x ∈ p :: rs, H x = none := fun x hx => sK.free (hn x hx)
      have lnot : l ∉ p :: rs := fun z => dkK.in (hn l z)
      have dW2 := s2.da dW
      have dk2 := dkK.up s2
      have rl : rs.length = n := by rw [mt.len]; exact (zeros_sq n).len
      have hww : ∀ i, i < n → ws[i]? = some (fa ws i) ∧ 1 ≤ fa ws i ∧ fa ws i ≤ 9 := fun i hi => by
        obtain ⟨x, ex⟩ := get_of (l := ws) (i := i) (by omega)
        have e : fa ws i = x := getD_of ex
        rw [e]
        exact ⟨ex, ew x (List.mem_of_getElem? ex)⟩
      refine q_for (List.range n) natD (Cn.nil s2.i) (i_rng (a_cons (e_var rfl (.int _)) a_nil) (by omega)) (fun G5 _ i σ' G' H' => Same G5 G' ∧ ∃ (M : Tab) (c' : Nat) (y4 y6 y7 y8 y9 y10 y11 y12 y13 y14 y15 : Option V), σ' = [some (.ref l), some (vN n), some (vN 2), some (.ref pw), y4, some (.ref p), y6, y7, y8, y9, y10, y11, y12, y13, y14, y15] ∧ Stp (l :: p :: rs) G2 H2 G' H' ∧ Mat G' H' p rs M ∧ Sq n M ∧ SkW n (fa ws) M ∧ LeC 2 n M ∧ c1 ≤ c' ∧ c' ≤ c1 + 16 * i ∧ Dk G' H' l c')
        (fun G5 H5 s5 => ⟨Same.refl _, zeros n, c1, _, _, _, _, _, _, _, _, _, _, _, rfl, s5.of0, mt.up s5, zeros_sq n, zeros_sk n _, zeros_le n 2, Nat.le_refl _, by omega, dk2.up s5⟩) (fun _ _ _ _ _ _ ⟨h, _, _, _, _, _, _, _, _, _, _, _, _, _, _, s, _⟩ => ⟨h, s.i⟩) (fun G5 H5 i at_ σ' G' H' x G6 H6 s5 eo ⟨sg, M, c', y4, y6, y7, y8, y9, y10, y11, y12, y13, y14, y15, hσ, st, mt', sqM, skM, leM, hc1, hc2, dk'⟩ s6 dx => ?_) (fun G5 H5 σ' G' H' s5 ⟨sg, M, c', y4, y6, y7, y8, y9, y10, y11, y12, y13, y14, y15, hσ, st, mt', sqM, skM, leM, hc1, hc2, dk'⟩ => ?_)
      · subst hσ
        cases dx.inv_int
        have hin : i < n := by
          have := (List.getElem?_eq_some_iff.mp eo).1
          rwa [List.length_range] at this
        have hai : at_ = i := by
          rw [List.getElem?_range hin] at eo
          exact (Option.some.inj eo).symm
        subst hai
        refine s_forN (List.range at_) natD (Cn.nil s6.i) (i_rng (a_cons (e_var rfl (.int _)) a_nil) (by omega)) (fun G5 _ j σ' G'' H'' => Same G5 G'' ∧ ∃ (M : Tab) (c'' : Nat) (y6 y7 y8 y9 y10 y11 y12 y13 y14 y15 : Option V), σ' = [some (.ref l), some (vN n), some (vN 2), some (.ref pw), some (vN at_), some (.ref p), y6, y7, y8, y9, y10, y11, y12, y13, y14, y15] ∧ Stp (l :: p :: rs) G2 H2 G'' H'' ∧ Mat G'' H'' p rs M ∧ Sq n M ∧ SkW n (fa ws) M ∧ LeC 2 n M ∧ c' ≤ c'' ∧ c'' ≤ c' + 4 * j ∧ Dk G'' H'' l c'')
          (fun G7 H7 s7 => ⟨Same.refl _, M, c', _, _, _, _, _, _, _, _, _, _, rfl, (st.up s6).up s7, (mt'.up s6).up s7, sqM, skM, leM, Nat.le_refl _, by omega, (dk'.up s6).up s7⟩) (fun _ _ _ _ _ _ ⟨h, _, _, _, _, _, _, _, _, _, _, _, _, _, s, _⟩ => ⟨h, s.i⟩) (fun G7 H7 j to σ' G8 H8 x2 G9 H9 s7 ej ⟨sg8, M, c2, y6, y7, y8, y9, y10, y11, y12, y13, y14, y15, hσ, st8, mt8, sqM, skM, leM, hd1, hd2, dk8⟩ s9 dx2 => ?_) (fun G7 H7 σ' G8 H8 s7 ⟨sg8, M, c2, y6, y7, y8, y9, y10, y11, y12, y13, y14, y15, hσ, st8, mt8, sqM, skM, leM, hd1, hd2, dk8⟩ => ?_)
        · subst hσ
          cases dx2.inv_int
          have hjn : j < at_ := by
            have := (List.getElem?_eq_some_iff.mp ej).1
            rwa [List.length_range] at this
          have hja : to = j := by
            rw [List.getElem?_range hjn] at ej
            exact (Option.some.inj ej).symm
          subst hja
          have hto : to < n := by omega
          obtain ⟨wa1, wa2, wa3⟩ := hww at_ hin
          obtain ⟨wb1, wb2, wb3⟩ := hww to hto
          generalize hwa : fa ws at_ = wa at wa1 wa2 wa3
          generalize hwb : fa ws to = wb at wb1 wb2 wb3
          have dW9 : Da G9 (.ref pw) (.list (ws.map natD)) := dW2.mono (st8.g.trans s9.g)
          have mt9 := mt8.up s9
          have dk9 := dk8.up s9
          have st9 := st8.up s9
          have modE : ∀ (a b : Nat), decide (((a : Nat) : Int) % ((b : Nat) : Int) = 0) = decide (a % b = 0) := fun a b => by
            rw [← Int.natCast_emod]
            by_cases z : a % b = 0
            · rw [z]; rfl
            · rw [decide_eq_false z, decide_eq_false (by omega)]
          refine q_asgL (Cn.nil s9.i) (l_lcN (j := 8) (List.range 9) (fun k => natD (k + 1)) (fun k => decide (wa % (k + 1) = 0) && decide (wb % (k + 1) = 0)) (fun k => natD (k + 1)) i_rng19 (small (by decide)) (fun _ => rfl) fun k Ga y hk ea dy => ?_) fun lp xp GA HA sA hlp op dxp => ?_
          · cases dy.inv_int
            exact ⟨b_and ((b_test (e_eqI (e_I (f := fun i j => i % j) (e_toInt (e_ixL (j := at_) (e_var rfl (dW9.mono ea)) (e_var rfl (.int _)) (nat_get wa1))) (e_var rfl (.int _)) (by omega)) e_int)).eq (modE wa (k + 1))) fun _ => (b_test (e_eqI (e_I (f := fun i j => i % j) (e_toInt (e_ixL (j := to) (e_var rfl (dW9.mono ea)) (e_var rfl (.int _)) (nat_get wb1))) (e_var rfl (.int _)) (by omega)) e_int)).eq (modE wb (k + 1)), fun _ => e_var rfl (.int _)⟩
          · obtain ⟨k, ek, hk9, hpk⟩ := last_filter (p := fun k => decide (wa % (k + 1) = 0) && decide (wb % (k + 1) = 0)) (by simp [Nat.mod_one])
            obtain ⟨hpa, hpb⟩ := Bool.and_eq_true_iff.mp hpk
            have ga : (k + 1) ∣ wa := Nat.dvd_of_mod_eq_zero (of_decide_eq_true hpa)
            have gb : (k + 1) ∣ wb := Nat.dvd_of_mod_eq_zero (of_decide_eq_true hpb)
            generalize hpl : ((List.range 9).filter fun k => decide (wa % (k + 1) = 0) && decide (wb % (k + 1) = 0)) = pl at dxp ek
            have sA' := sA.know op hlp
            have knp := Own.know sA.i op
            have dP : Da (upd GA lp (.lst xp)) (.ref lp) (.list (pl.map fun k => natD (k + 1))) := .lst upd_same (dxp.mono knp.2)
            generalize upd GA lp (.lst xp) = GB at sA' knp dP
            have mtB := mt9.up sA'
            have dkB := dk9.up sA'
            have stB := st9.up sA'
            have dWB := sA'.da dW9
            have hlast : (pl.map fun k => natD (k + 1))[(pl.map fun k => natD (k + 1)).length - 1]? = some (natD (k + 1)) := by
              rw [List.length_map, List.getElem?_map, ek]
              rfl
            have lastE : ∀ {Γ : List (Addr × HO)} {σ : L2.St} {Gx : Hp} (h7 : σ[7]? = some (some (.ref lp))) (hG : Same GB Gx), EvD Γ (tOp (rIxL K) (tVar 7) (tUn (rU fun i => .int (-i)) (tC (.int 1)))) σ Gx (natD (k + 1)) := fun h7 hG => e_ixLast (e_var h7 (dP.mono hG)) (e_neg e_int) hlast
            have cdv : ∀ m : Nat, 1 ≤ m → m ≤ 100 → ∀ i : Int, CDivW i ((m : Nat) : Int) := fun m h1 h2 i => ⟨by omega, by rw [Int.natAbs_natCast]; exact Nat.lt_of_le_of_lt (Nat.log2_le_self _) (by omega)⟩
            have hb1 : 1 ≤ wa / (k + 1) := Nat.div_pos (Nat.le_of_dvd (by omega) ga) (by omega)
            have hb9 : wa / (k + 1) ≤ 9 := Nat.le_trans (Nat.div_le_self _ _) wa3
            have hh9 : wb / (k + 1) ≤ 9 := Nat.le_trans (Nat.div_le_self _ _) wb3
            have skw := fun t : Int => wild_skw (t := t) ga gb (Nat.succ_pos k)
            refine q_par (d := .int ((wb / (k + 1) : Nat) : Int)) (e := .int ((wa / (k + 1) : Nat) : Int)) (Cn.nil sA'.i) (a_cons ((e_I (f := fun i j => i / j) (e_ixL (j := to) (e_var rfl dWB) (e_var rfl (.int _)) (nat_get wb1)) (lastE rfl (Same.refl _)) (cdv (k + 1) (by omega) (by omega) _)).eq (by rw [Int.natCast_ediv])) (a_cons ((e_I (f := fun i j => i / j) (e_ixL (j := at_) (e_var rfl dWB) (e_var rfl (.int _)) (nat_get wa1)) (lastE rfl (Same.refl _)) (cdv (k + 1) (by omega) (by omega) _)).eq (by rw [Int.natCast_ediv])) a_nil)) fun v9 v10 GC HC sC d9 d10 => ?_
            cases d9.inv_int
            cases d10.inv_int
            generalize hhn : wb / (k + 1) = hn at skw hh9 ⊢
            generalize hbk : wa / (k + 1) = bk at skw hb1 hb9 ⊢
            obtain ⟨mx, hmx⟩ : ∃ mx : Nat, mx = max hn bk := ⟨_, rfl⟩
            have hmxI : max ((hn : Nat) : Int) ((bk : Nat) : Int) = ((mx : Nat) : Int) := by omega
            refine q_asgI (n := ((2 / mx : Nat) : Int)) (Cn.nil sC.i) ((e_I (f := fun i j => i / j) (e_var rfl (.int ((2 : Nat) : Int))) (e_max2 (e_var rfl (.int _)) (e_var rfl (.int _))) (by rw [hmxI]; exact cdv mx (by omega) (by omega) _)).eq (by rw [hmxI, Int.natCast_ediv])) fun GD HD sD => ?_
            generalize ht0 : 2 / mx = t0
            obtain ⟨t2, th, tb⟩ := wild_small hmx ht0.symm hb1
            have dkD := (dkB.up sC).up sD
            refine r_join (fun σ' G' H' => ∃ (t : Int) (c3 : Nat) (y12 : Option V), σ' = [some (.ref l), some (vN n), some (vN 2), some (.ref pw), some (vN at_), some (.ref p), some (vN to), some (.ref lp), y8, some (vN hn), some (vN bk), some (.int t), y12, y13, y14, y15] ∧ t.natAbs ≤ t0 ∧ Stp [l] GD HD G' H' ∧ c2 ≤ c3 ∧ c3 ≤ c2 + 4 ∧ Dk G' H' l c3) (fun N hN => ?_) fun σ' GE HE ⟨t, c3, y12, hσ, ht, sE, hc3, hc4, dkE⟩ => ?_
            · refine b_test (Γ := []) (e_B0 (f := fun i j => decide (j < i)) (e_var rfl (.int _)) e_int) GD HD (Same.refl _) (Cn.nil sD.i) _ fun GE HE sE => ?_
              by_cases hpos : 0 < t0
              · have e1 : decide ((0 : Int) < ((t0 : Nat) : Int)) = true := decide_eq_true (by omega)
                rw [e1]
                refine iteT ?_
                refine r_draw (Cn.nil sE.i) rfl (dkD.up sE) (by omega) e_int (by decide) (by decide) fun r1 c3 GF HF hr1 f1 f2 sF dF => ?_
                refine ⟨_, _, rfl, rfl, _, rfl, ?_⟩
                by_cases hr0 : 0 < r1
                · have e2 : decide ((0 : Int) < ((r1 : Nat) : Int)) = true := decide_eq_true (by omega)
                  rw [e2]
                  refine iteT ?_
                  refine r_asg ?_
                  refine l_lst (Γ := []) (a_cons e_int (a_cons (e_neg e_int) a_nil)) (slack (by simp)) GF HF (Same.refl _) (Cn.nil sF.i) _ fun p6 xs6 Gg Hg sb hp6 op6 dx6 => ?_
                  have dx6 : Das Gg xs6 (([1, -1] : List Int).map PyData.int) := dx6
                  have ex6 := dx6.inv_ints
                  subst ex6
                  have np : l ≠ p6 := dF.ne hp6
                  refine r_draw (Cn.one sb.i op6) rfl (dF.up sb) (by omega) e_int (by decide) (by decide) fun r2 c4 Gh Hh hr2 f3 f4 sh dh => ?_
                  have op6h := sh.ownM (by simp; exact np.symm) op6
                  have hat : ∃ y : Int, (([1, -1] : List Int).map V.int)[r2]? = some (.int y) ∧ y.natAbs = 1 := by
                    have hr6 : r2 < 2 := hr2
                    have : r2 = 0 ∨ r2 = 1 := by omega
                    rcases this with rfl | rfl <;> exact ⟨_, rfl, rfl⟩
                  obtain ⟨y, hy, hy1⟩ := hat
                  refine ⟨p6, _, (r2 : Int), .int y, rfl, rfl, SqL.of op6h.2, atI_nat hy, ?_⟩
                  have sAll : Stp [l] GD HD Gh Hh := (sE.of0.trans sF).trans (sb.of0.trans sh)
                  refine r_draw (Cn.nil sh.i) rfl dh (by omega) e_int (by decide) (by decide) fun r3 c5 Gi Hi hr3 f5 f6 si di => ?_
                  refine ⟨rfl, _, rfl, ?_⟩
                  by_cases h3 : r3 = 0
                  · subst h3
                    refine iteT ?_
                    exact ⟨_, rfl, hN _ Gi Hi ⟨y, c5, _, rfl, by omega, sAll.trans si, by omega, by omega, di⟩⟩
                  · have e4 : decide (V.int ((r3 : Nat) : Int) = V.int 0) = false := decide_eq_false fun z => h3 (by injection z with z; omega)
                    show (if decide (V.int ((r3 : Nat) : Int) = V.int 0) = true then _ else _)
                    rw [e4]
                    refine iteF ?_
                    refine r_draw (m := 2 * t0 + 1) (Cn.nil si.i) rfl di (by omega) ((e_I0 (f := fun i j => i + j) (e_I (f := fun i j => i * j) e_int (e_var rfl (.int _)) (mulN rfl (Int.natAbs_natCast _) (by decide) (by omega))) e_int).eq ?_) (by omega) (by omega) fun r4 c6 Gj Hj hr4 f7 f8 sj dj => ?_
                    · show PyData.int _ = PyData.int _
                      congr 1
                    · exact ⟨_, rfl, _, _, rfl, rfl, hN _ Gj Hj ⟨(r4 : Int) - (t0 : Int), c6, _, rfl, by omega, (sAll.trans si).trans sj, by omega, by omega, dj⟩⟩
                · have e2 : decide ((0 : Int) < ((r1 : Nat) : Int)) = false := decide_eq_false (by omega)
                  rw [e2]
                  refine iteF ?_
                  exact s_asgI (Cn.nil sF.i) e_int fun Gg Hg sg => hN _ Gg Hg ⟨0, c3, _, rfl, by simp, (sE.of0.trans sF).up sg, by omega, by omega, dF.up sg⟩
              · have e1 : decide ((0 : Int) < ((t0 : Nat) : Int)) = false := decide_eq_false (by omega)
                rw [e1]
                refine iteF ?_
                refine iteF ?_
                exact s_asgI (Cn.nil sE.i) e_int fun GF HF sF => hN _ GF HF ⟨0, c2, _, rfl, by simp, (sE.trans sF).of0, Nat.le_refl _, by omega, (dkD.up sE).up sF⟩
            · subst hσ
              have eat : ∃ ra, rs[at_]? = some ra := get_of (by omega)
              have eto : ∃ rt, rs[to]? = some rt := get_of (by omega)
              obtain ⟨ra, era⟩ := eat
              obtain ⟨rt, ert⟩ := eto
              have hm : ∀ x ∈ [l], x ∉ p :: rs := fun x hx => by
                have : x = l := by simpa using hx
                rw [this]; exact lnot
              have mtE := ((mtB.up sC).up sD).step sE hm
              refine r_par ?_
              refine r_ixR (Cn.nil sE.i) rfl mtE (e_var rfl (.int _)) era fun GF HF sF => ?_
              refine r_ixR (Cn.nil sF.i) rfl (mtE.up sF) (e_var rfl (.int _)) ert fun GG HG sG => ⟨_, _, rfl, ?_⟩
              have mtG := (mtE.up sF).up sG
              obtain ⟨em, lm⟩ := rowM_get sqM hin
              have tl : t.natAbs < 2 ^ 30 := by omega
              refine q_putR (r := ra) (a := at_) (j := to) (x := t * ((hn : Nat) : Int)) rfl mtG sG.i era em (by omega) (e_I (f := fun i j => i * j) (e_var rfl (.int t)) (e_var rfl (.int _)) (mulN rfl (Int.natAbs_natCast _) tl (by omega))) (e_var rfl (.int _)) fun GI HI sI mtI => ?_
              have sq1 : Sq n (M.set at_ ((rowM M at_).set to (t * ((hn : Nat) : Int)))) := sq_set sqM (by rw [List.length_set]; exact lm)
              obtain ⟨em2, lm2⟩ := rowM_get sq1 hto
              refine s_putR (r := rt) (a := to) (j := at_) (x := -t * ((bk : Nat) : Int)) rfl mtI sI.i ert em2 (by omega) (e_I (f := fun i j => i * j) (e_neg (e_var rfl (.int t))) (e_var rfl (.int _)) (mulN (Int.natAbs_neg t) (Int.natAbs_natCast _) tl (by omega))) (e_var rfl (.int _)) fun GJ HJ sJ mtJ => ?_
              have mem_ra : ra ∈ p :: rs := List.mem_cons_of_mem _ (List.mem_of_getElem? era)
              have mem_rt : rt ∈ p :: rs := List.mem_cons_of_mem _ (List.mem_of_getElem? ert)
              have sI2 : Stp (l :: p :: rs) GG HG GI HI := sI.weak fun x hx => by
                have : x = ra := by simpa using hx
                rw [this]
                exact List.mem_cons_of_mem _ mem_ra
              have sJ2 : Stp (l :: p :: rs) GI HI GJ HJ := sJ.weak fun x hx => by
                have : x = rt := by simpa using hx
                rw [this]
                exact List.mem_cons_of_mem _ mem_rt
              have sE2 : Stp (l :: p :: rs) GD HD GE HE := sE.weak fun x hx => by
                have : x = l := by simpa using hx
                rw [this]
                exact List.mem_cons_self ..
              have stJ : Stp (l :: p :: rs) G2 H2 GJ HJ := (((((stB.up sC).up sD).trans sE2).up (sF.trans sG)).trans sI2).trans sJ2
              refine ⟨GJ, sg8.trans (s9.g.trans (sA'.g.trans (sC.g.trans (sD.g.trans (sE.g.trans (sF.g.trans (sG.g.trans (sI.g.trans sJ.g)))))))), put2 M at_ to (t * ((hn : Nat) : Int)) (-t * ((bk : Nat) : Int)), c3, _, _, _, _, _, _, _, _, _, _, rfl, stJ, mtJ, put2_sq sqM hin hto _ _, put2_sk sqM hin hto (by omega) (by rw [hwa, hwb]; exact skw t) skM, put2_le sqM hin hto (wild_le ht th) (wild_le (by rw [Int.natAbs_neg]; exact ht) tb) leM, by omega, by omega, ?_⟩
              exact (((dkE.up sF).up sG).step sI (by simp; exact fun z => lnot (by rw [z]; exact mem_ra))).step sJ (by simp; exact fun z => lnot (by rw [z]; exact mem_rt))
        · subst hσ
          rw [List.length_range] at hd2
          exact ⟨G8, sg.trans (s6.g.trans (s7.g.trans sg8)), M, c2, _, _, _, _, _, _, _, _, _, _, _, rfl, st8, mt8, sqM, skM, leM, by omega, by omega, dk8⟩
      · subst hσ
        rw [List.length_range] at hc2
        have sF : Stp [l] G H G' H' := (sK.up s2).comp st fun x hx => by
          rcases List.mem_cons.mp hx with z | z
          · exact .inl (by simp [z])
          · exact .inr (hn0 x z)
        refine s_retRows (i := 5) (j := 15) rfl mt' sF hn0 (by rw [sqM.len]; omega) (fun _ => rfl) (fun _ => rfl) fun v G7 H7 s7 h7 dv => ?_
        obtain ⟨a, b, ow, rr⟩ := dk'
        have hlH : H l ≠ none := dk.in
        exact q v M c' G7 H7 sqM (skM.skw fun i hi => by have := (hww i hi).2; omega) (leE_of sqM leM) (by omega) (by omega) s7 dv (h7 l c' ⟨a, b, ow, rr⟩ hlH)
end N41
/-! W20: _law_table. -/
namespace N41
open PySem PySem.Spec PyProof.Rows L2
def bsum (s : List Kd) (i : Nat) : Nat := ((s.take i).map (·.2)).sum
theorem bsum_step {s : List Kd} {i : Nat} {q : Kd} (e : s[i]? = some q) : bsum s (i + 1) = bsum s i + q.2 := by
  unfold bsum
  rw [List.take_add_one, e, List.map_append, List.sum_append]
  simp
theorem bsum_le (s : List Kd) (i : Nat) : bsum s i ≤ (s.map (·.2)).sum := by
  unfold bsum
  conv => rhs; rw [← List.take_append_drop i s]
  rw [List.map_append, List.sum_append]
  omega
theorem wl_len : ∀ s : List Kd, (∀ q ∈ s, q ∈ kinds) → (s.flatMap wts).length = (s.map (·.2)).sum
  | [], _ => rfl
  | q :: s, h => by
    rw [List.flatMap_cons, List.length_append, wl_len s (fun x hx => h x (by simp [hx])), (kinds_ok q (h q (by simp))).2.2.2.2.1]
    simp
theorem wl_get {s : List Kd} (hs : ∀ q ∈ s, q ∈ kinds) {i j : Nat} {q : Kd} (e : s[i]? = some q) (hj : j < q.2) : (s.flatMap wts).getD (bsum s i + j) 1 = (wts q).getD j 1 := by
  have hi : i < s.length := (List.getElem?_eq_some_iff.mp e).1
  have hd : s.drop i = q :: s.drop (i + 1) := by
    rw [List.drop_eq_getElem_cons hi]
    congr 1
    exact (List.getElem?_eq_some_iff.mp e).2
  have hl : ((s.take i).flatMap wts).length = bsum s i := wl_len _ fun x hx => hs x (List.mem_of_mem_take hx)
  have hq := (kinds_ok q (hs q (List.mem_of_getElem? e))).2.2.2.2.1
  have e1 : s.flatMap wts = (s.take i).flatMap wts ++ (wts q ++ (s.drop (i + 1)).flatMap wts) := by
    conv => lhs; rw [← List.take_append_drop i s, hd]
    rw [List.flatMap_append, List.flatMap_cons]
  rw [e1, List.getD_eq_getElem?_getD, List.getElem?_append_right (by omega), hl, Nat.add_sub_cancel_left, List.getElem?_append_left (by omega), ← List.getD_eq_getElem?_getD]
theorem idx_get : ∀ {o : List Nat}, o.Nodup → ∀ {i p : Nat}, o[i]? = some p → o.idxOf p = i
  | [], _, i, p, e => by simp at e
  | x :: o, nd, 0, p, e => by
    have : x = p := by simpa using e
    rw [this, List.idxOf_cons_self]
  | x :: o, nd, i + 1, p, e => by
    obtain ⟨n1, n2⟩ := List.nodup_cons.mp nd
    have e : o[i]? = some p := by simpa using e
    have hne : ¬ x = p := fun z => n1 (by rw [z]; exact List.mem_of_getElem? e)
    rw [List.idxOf_cons, show (x == p) = false from beq_eq_false_iff_ne.mpr hne]
    show (o.idxOf p) + 1 = i + 1
    rw [idx_get n2 e]
def wfn (s : List Kd) (o : List Nat) (p : Nat) : Nat := (s.flatMap wts).getD (o.idxOf p) 1
theorem wfn_pos {s : List Kd} (hs : ∀ q ∈ s, q ∈ kinds) (o : List Nat) (p : Nat) : 0 < wfn s o p := by
  unfold wfn
  by_cases h : o.idxOf p < (s.flatMap wts).length
  · obtain ⟨x, ex⟩ := get_of h
    rw [getD_of ex]
    obtain ⟨q, hq, hx⟩ := List.mem_flatMap.mp (List.mem_of_getElem? ex)
    exact (kinds_ok q (hs q hq)).2.2.2.2.2.1 x hx
  · rw [List.getD_eq_getElem?_getD, List.getElem?_eq_none (by omega)]
    exact Nat.one_pos
theorem sum_cast : ∀ s : List Kd, (s.map fun q => ((q.2 : Nat) : Int)).sum = (((s.map (·.2)).sum : Nat) : Int)
  | [] => rfl
  | q :: s => by
    rw [List.map_cons, List.sum_cons, sum_cast s, List.map_cons, List.sum_cons, Int.natCast_add]
section
variable {K : PySem.W.Frag} {Γ : List (Addr × HO)} {σ : L2.St} {G H : Hp} {ta tb tc te tm : TE} {D : Ends} {tz : TS} {l : Addr} {c n : Nat}
theorem r_sign {i : Nat} (cn : Cn Γ G H) (hi : σ[0]? = some (some (.ref l))) (dk : Dk G H l c) (hc : c ≤ 1000000) (k : ∀ (sgn : Int) (c' : Nat) G2 H2, sgn.natAbs ≤ 1 → c ≤ c' → c' ≤ c + 1 → Stp [l] G H G2 H2 → Dk G2 H2 l c' → tz D (σ.set i (some (.int sgn))) H2) :
    tSeq (tAsg (tOp (rI0 fun i j => .int (i - j)) (tC (.int 1)) (tOp (rI CMulW fun i j => .int (i * j)) (tC (.int 2)) (tCallG sp__law_draw (tCons (tVar 0) (tCons (tC (.int 2)) tNil))))) (gName i)) tz D σ H := by
  refine r_asg ?_
  refine r_draw (m := 2) cn hi dk hc e_int (by decide) (by decide) fun r c3 GA HA hr g1 g2 sA dA => ?_
  refine ⟨_, _, rfl, rfl, mulN rfl (Int.natAbs_natCast r) (by decide) (by omega), _, _, rfl, rfl, ?_⟩
  exact k (1 - 2 * (r : Int)) c3 GA HA (by omega) g1 g2 sA dA
theorem r_par3 {i j k : Nat} (h : ta σ H fun x H1 => tb σ H1 fun y H2 => tc σ H2 fun z H3 => ∃ u v w, [x, y, z] = [u, v, w] ∧ tz D (((σ.set i (some u)).set j (some v)).set k (some w)) H3) : tSeq (tPar3 i j k (tCons ta (tCons tb (tCons tc tNil)))) tz D σ H := h
theorem r_order {i : Nat} (cn : Cn Γ G H) (hi : σ[i]? = some (some (.ref l))) (dk : Dk G H l c) (hc : c ≤ 900000) (hm : EvD Γ tm σ G (intD n)) (h4 : n ≤ 4) {Q : VK} (k : ∀ (p : Addr) (o : List Nat) (c' : Nat) G2 H2, o.Perm (List.range n) → c ≤ c' → c' ≤ c + n → Stp [l] G H G2 H2 → H p = none → Own G2 H2 p (.lst (o.map vN)) → Dk G2 H2 l c' → Q (.ref p) H2) : tCallG sp__law_order (tCons (tVar i) (tCons tm tNil)) σ H Q :=
  ⟨_, hi, hm G H (Same.refl _) cn _ fun v G1 H1 s dv => by
    cases dv.inv_int
    exact ⟨l, n, c, G1, rfl, s.i, dk.up s, hc, h4, fun p o c' G2 H2 a1 a2 a3 st hp ow d => k p o c' G2 H2 a1 a2 a3 (s.of0.trans st) (s.free hp) ow d⟩⟩
end
abbrev sp__law_table : Sp := fun vs H Q _ => ∃ (l : Addr) (vS : V) (s : List Kd) (n c : Nat) (G : Hp), vs = [.ref l, vS] ∧ Same G H ∧ Dk G H l c ∧ c ≤ 900000 ∧ 1 ≤ n ∧ n ≤ 4 ∧ Da G vS (kL s) ∧ (∀ q ∈ s, q ∈ kinds) ∧ (s.map (·.2)).sum = n ∧ s.length ≤ 4 ∧
  ∀ (v : V) (T : Tab) (c' : Nat) G2 H2, Sq n T → Skw n T → LeE 3 T → c ≤ c' → c' ≤ c + 100 → Stp [l] G H G2 H2 → Da G2 v (tD T) → Dk G2 H2 l c' → Q v H2
theorem cal__law_table {P : Program} {w : World} {K : PySem.W.Frag} {mg : Str → Option Value} {base : Heap} (B : Blt mg) (D : FD K mg "_law_table" st__law_table) (c__law_order : CalG P w K mg base 2 "_law_order" sp__law_order) (c__law_edges : CalG P w K mg base 1 "_law_edges" sp__law_edges) (c__law_draw : CalG P w K mg base 1 "_law_draw" sp__law_draw) :
    CalG P w K mg base 3 "_law_table" sp__law_table := by
  obtain ⟨f, fd, F, hdf⟩ := D.ex
  refine calG0 (N := N__law_table) F (F.fn.binds hdf fun _ _ _ _ _ _ us hl => match us, hl with | [_, _], _ => rfl) sc__law_table (fun vs H Q E h => ?_) fun cdv A outer s H vs Q E hgu hr h => ⟨_, (pss_cons (ps_set (i := 2) nd__law_table rfl (Or.inr rfl) (pe_callB (r := rSum K) (cr_sum rfl) (by rfl) B.sum bt_sum (pa_cons (pe_lc (own := [("_law_kind", 3), ("_law_many", 4)]) rfl nd__law_table (pi_listK (K := K) rfl (pv 1)) (blkOk_by (by kernel_rfl)) (fun _ _ _ _ _ => (pg_tupK (K := K) (n := 2) rfl rfl (pgs_cons (pg_name (i := 3) nd__law_table rfl (Or.inl rfl)) (pgs_cons (pg_name (i := 4) nd__law_table rfl (Or.inl rfl)) pgs_nil)))) (fun _ _ _ _ _ => pts_nil) (fun _ _ _ _ _ => (pv 4))) pa_nil)))
 (pss_cons (ps_par3 (i := 5) (j := 6) (l := 7) rfl nd__law_table rfl rfl rfl (by decide) (by decide) (by decide) rfl rfl rfl (pa_cons (pe_lc (own := [("_law_at", 8)]) rfl nd__law_table (pi_range1 (by rfl) B.range (pa_cons (pv 2) pa_nil)) (blkOk_by (by kernel_rfl)) (fun _ _ _ _ _ => (pg_name (i := 8) nd__law_table rfl (Or.inl rfl))) (fun _ _ _ _ _ => pts_nil) (fun _ _ _ _ _ => (pe_op op_rep (pe_lst (pa_cons pe_int pa_nil)) (pv 2)))) (pa_cons pe_int (pa_cons (pe_cg c__law_order hgu hr (by decide) (by rfl) (pa_cons (pv 0) (pa_cons (pv 2) pa_nil))) pa_nil))) (by rfl))
 (pss_cons (ps_for PassesOwn.never rfl (pi_listK (K := K) rfl (pv 1)) (pg_tupK (K := K) (n := 2) rfl rfl (pgs_cons (pg_name (i := 3) nd__law_table rfl (Or.inl rfl)) (pgs_cons (pg_name (i := 4) nd__law_table rfl (Or.inl rfl)) pgs_nil))) (pss_cons (ps_for PassesOwn.never rfl (pi_listK (K := K) rfl (pe_cg c__law_edges hgu hr (by decide) (by rfl) (pa_cons (pv 3) (pa_cons (pv 4) pa_nil)))) (pg_tupK (K := K) (n := 4) rfl rfl (pgs_cons (pg_name (i := 8) nd__law_table rfl (Or.inl rfl)) (pgs_cons (pg_name (i := 9) nd__law_table rfl (Or.inl rfl)) (pgs_cons (pg_name (i := 10) nd__law_table rfl (Or.inl rfl)) (pgs_cons (pg_name (i := 11) nd__law_table rfl (Or.inl rfl)) pgs_nil))))) (pss_cons (ps_set (i := 12) nd__law_table rfl (Or.inl rfl) (pe_op op_sub pe_int (pe_op op_mulW pe_int (pe_cg c__law_draw hgu hr (by decide) (by rfl) (pa_cons (pv 0) (pa_cons pe_int pa_nil))))))
 (pss_cons (ps_par (i := 13) (j := 14) rfl nd__law_table rfl rfl (by decide) rfl rfl (pa_cons (pe_ix (r := rIxL K) ix_list (pv 5) (pe_ix (r := rIxL K) ix_list (pv 7) (pe_op op_add (pv 6) (pv 8)) (fun _ _ => rfl)) (fun _ _ => rfl)) (pa_cons (pe_ix (r := rIxL K) ix_list (pv 5) (pe_ix (r := rIxL K) ix_list (pv 7) (pe_op op_add (pv 6) (pv 9)) (fun _ _ => rfl)) (fun _ _ => rfl)) pa_nil)) (by rfl))
 (pss_cons (ps_asg (pe_op op_mulW (pv 12) (pv 10)) (pg_sub (pv 13) (pe_ix (r := rIxL K) ix_list (pv 7) (pe_op op_add (pv 6) (pv 9)) (fun _ _ => rfl)) set_list))
 (pss_one (ps_asg (pe_op op_mulW (pe_un un_neg (pv 12)) (pv 11)) (pg_sub (pv 14) (pe_ix (r := rIxL K) ix_list (pv 7) (pe_op op_add (pv 6) (pv 8)) (fun _ _ => rfl)) set_list)))))))
 (pss_one (ps_set (i := 6) nd__law_table rfl (Or.inl rfl) (pe_op op_add (pv 6) (pv 4))))))
 (pss_one (ps_ret (pe_callTy (r := rTup K) c_tup (by rfl) B.tuple bt_tuple (pa_cons (pe_lc (own := [("_law_line", 15)]) rfl nd__law_table (pi_listK (K := K) rfl (pv 5)) (blkOk_by (by kernel_rfl)) (fun _ _ _ _ _ => (pg_name (i := 15) nd__law_table rfl (Or.inl rfl))) (fun _ _ _ _ _ => pts_nil) (fun _ _ _ _ _ => (pe_callTy (r := rTup K) c_tup (by rfl) B.tuple bt_tuple (pa_cons (pv 15) pa_nil)))) pa_nil))))))), ?_⟩
  · obtain ⟨l, vS, s, n, c, G, rfl, _⟩ := h
    rfl
  · obtain ⟨l, vS, ss, n, c, G, rfl, gh, dk, hc, h1, h4, dS, hk, hsum, hsl, q⟩ := h
    refine q_asgI (n := (n : Int)) (Cn.nil gh) ((e_sum (ns := ss.map fun q => ((q.2 : Nat) : Int)) (((l_lcP (i := 3) (j := 4) (tt := tYes) ss (fun q => .str q.1) (fun q => intD q.2) (fun _ => true) (fun q => .int ((q.2 : Nat) : Int)) (i_list (e_var rfl dS)) (small (by omega)) (fun _ _ => rfl) fun q Ga x y hq ea dx dy => ?_).toD).eq (by rw [List.filter_eq_self.mpr (fun _ _ => rfl), List.map_map]; rfl))).eq (by rw [sum_cast, hsum])) fun G1 H1 s1 => ?_
    · cases dy.inv_int
      exact ⟨b_yes, fun _ => e_var rfl (.int _)⟩
    · refine r_par3 ?_
      refine r_rows (n := n) (Cn.nil s1.i) h4 (i_rng (a_cons (e_var rfl (.int _)) a_nil) (by omega)) (fun _ => rfl) (fun Ga x ea => e_var rfl (.int _)) _ fun p rs G2 H2 s2 hn mt => ?_
      have hn0 : ∀ x ∈ p :: rs, H x = none := fun x hx => s1.free (hn x hx)
      have dk2 := (dk.up s1).up s2
      have lnot : l ∉ p :: rs := fun z => dk.in (hn0 l z)
      refine r_order (c := c) (Cn.nil s2.i) rfl dk2 hc (e_var rfl (.int _)) h4 fun po o c1 G3 H3 ho hc1 hc2 s3 hpo opo dk3 => ?_
      refine ⟨_, _, _, rfl, ?_⟩
      have hm1 : ∀ x ∈ [l], x ∉ p :: rs := fun x hx => by
        have : x = l := by simpa using hx
        rw [this]; exact lnot
      have mt3 := mt.step s3 hm1
      have pon : po ∉ p :: rs := fun z => by
        rcases List.mem_cons.mp z with z | z
        · rw [z] at hpo
          have := mt.own.2
          rw [hpo] at this
          cases this
        · obtain ⟨k, ek⟩ := List.mem_iff_getElem?.mp z
          obtain ⟨row, erow⟩ := get_of (l := zeros n) (i := k) (by rw [← mt.len]; exact (List.getElem?_eq_some_iff.mp ek).1)
          have := (mt.row k po row ek erow).2
          rw [hpo] at this
          cases this
      have lpo : l ≠ po := dk2.ne hpo
      have s03 : Stp [l] G H G3 H3 := (s1.trans s2).of0.trans s3
      have hpo0 : H po = none := (s1.trans s2).free hpo
      have kn := Own.know s3.i opo
      have sK := s03.know opo hpo0
      have dkK : Dk (upd G3 po (.lst (o.map vN))) H3 l c1 := dk3.know lpo
      have dO : Da (upd G3 po (.lst (o.map vN))) (.ref po) (.list (o.map natD)) := .lst upd_same (das_nats _ o)
      have mtK : Mat (upd G3 po (.lst (o.map vN))) H3 p rs (zeros n) := ⟨⟨by rw [upd_ne (fun z => pon (by rw [← z]; simp))]; exact mt3.own.1, mt3.own.2⟩, mt3.len, fun i r row e1 e2 => ⟨by rw [upd_ne (fun z => pon (by rw [← z]; exact List.mem_cons_of_mem _ (List.mem_of_getElem? e1)))]; exact (mt3.row i r row e1 e2).1, (mt3.row i r row e1 e2).2⟩, mt3.nd⟩
      have dS3 : Da (upd G3 po (.lst (o.map vN))) vS (kL ss) := dS.mono sK.g
      generalize upd G3 po (.lst (o.map vN)) = Gk at kn sK dkK dO mtK dS3
      have rl : rs.length = n := by rw [mt.len]; exact (zeros_sq n).len
      have onl : o.length = n := by have := ho.length_eq; rwa [List.length_range] at this
      have ond : o.Nodup := ho.nodup_iff.mpr List.nodup_range
      have olt : ∀ {i x : Nat}, o[i]? = some x → x < n := fun e => List.mem_range.mp (ho.mem_iff.mp (List.mem_of_getElem? e))
      refine q_for ss kdD (Cn.nil sK.i) (i_list (e_var rfl dS3)) (fun G5 _ i σ' G' H' => Same G5 G' ∧ ∃ (M : Tab) (c' : Nat) (y3 y4 y8 y9 y10 y11 y12 y13 y14 y15 : Option V), σ' = [some (.ref l), some vS, some (vN n), y3, y4, some (.ref p), some (vN (bsum ss i)), some (.ref po), y8, y9, y10, y11, y12, y13, y14, y15] ∧ Stp (l :: p :: rs) Gk H3 G' H' ∧ Mat G' H' p rs M ∧ Sq n M ∧ SkW n (wfn ss o) M ∧ LeC 3 n M ∧ c1 ≤ c' ∧ c' ≤ c1 + 4 * i ∧ Dk G' H' l c')
        (fun G5 H5 s5 => ⟨Same.refl _, zeros n, c1, _, _, _, _, _, _, _, _, _, _, rfl, s5.of0, mtK.up s5, zeros_sq n, zeros_sk n _, zeros_le n 3, Nat.le_refl _, by omega, dkK.up s5⟩) (fun _ _ _ _ _ _ ⟨h, _, _, _, _, _, _, _, _, _, _, _, _, _, s, _⟩ => ⟨h, s.i⟩) (fun G5 H5 i kd σ' G' H' x G6 H6 s5 eo ⟨sg, M, c', y3, y4, y8, y9, y10, y11, y12, y13, y14, y15, hσ, st, mt', sqM, skM, leM, hd1, hd2, dk'⟩ s6 dx => ?_) (fun G5 H5 σ' G' H' s5 ⟨sg, M, c', y3, y4, y8, y9, y10, y11, y12, y13, y14, y15, hσ, st, mt', sqM, skM, leM, hd1, hd2, dk'⟩ => ?_)
      · subst hσ
        refine g_pair s6.i dx fun xk xm dxk dxm => ?_
        cases dxk.inv_str
        cases dxm.inv_int
        have hkd : kd ∈ kinds := hk kd (List.mem_of_getElem? eo)
        obtain ⟨kk1, kk4, _, kel, kwl, kwp, kee⟩ := kinds_ok kd hkd
        have il : i < ss.length := (List.getElem?_eq_some_iff.mp eo).1
        have hb1 : bsum ss i + kd.2 ≤ n := by
          have := bsum_le ss (i + 1)
          rw [bsum_step eo, hsum] at this
          exact this
        refine q_for (edges kd) edD (Cn.nil s6.i) (i_list (e_cg (ι := Kd) (args := fun q : Kd => [.str q.1, intD q.2]) (pre := fun q => q ∈ kinds) (res := fun q => .list ((edges q).map edD)) kd (a_cons (e_var rfl (.str _)) (a_cons (e_var rfl (.int _)) a_nil)) hkd)) (fun G5 _ j σ' G'' H'' => Same G5 G'' ∧ ∃ (M : Tab) (c'' : Nat) (y8 y9 y10 y11 y12 y13 y14 y15 : Option V), σ' = [some (.ref l), some vS, some (vN n), some (.str kd.1), some (vN kd.2), some (.ref p), some (vN (bsum ss i)), some (.ref po), y8, y9, y10, y11, y12, y13, y14, y15] ∧ Stp (l :: p :: rs) Gk H3 G'' H'' ∧ Mat G'' H'' p rs M ∧ Sq n M ∧ SkW n (wfn ss o) M ∧ LeC 3 n M ∧ c' ≤ c'' ∧ c'' ≤ c' + j ∧ Dk G'' H'' l c'')
          (fun G7 H7 s7 => ⟨Same.refl _, M, c', _, _, _, _, _, _, _, _, rfl, (st.up s6).up s7, (mt'.up s6).up s7, sqM, skM, leM, Nat.le_refl _, by omega, (dk'.up s6).up s7⟩) (fun _ _ _ _ _ _ ⟨h, _, _, _, _, _, _, _, _, _, _, _, s, _⟩ => ⟨h, s.i⟩) (fun G7 H7 j ed σ' G8 H8 x2 G9 H9 s7 ej ⟨sg8, M, c2, y8, y9, y10, y11, y12, y13, y14, y15, hσ, st8, mt8, sqM, skM, leM, he1, he2, dk8⟩ s9 dx2 => ?_) (fun G7 H7 σ' G8 H8 s7 ⟨sg8, M, c2, y8, y9, y10, y11, y12, y13, y14, y15, hσ, st8, mt8, sqM, skM, leM, he1, he2, dk8⟩ => ?_)
        · subst hσ
          obtain ⟨a0, b0, hn_, bk_⟩ := ed
          have jl : j < (edges kd).length := (List.getElem?_eq_some_iff.mp ej).1
          obtain ⟨f1, f2, f3, f4, f5, f6, f7, f8⟩ := kee _ (List.mem_of_getElem? ej)
          have f1 : a0 < kd.2 := f1
          have f2 : b0 < kd.2 := f2
          have f3 : a0 ≠ b0 := f3
          have f5 : hn_ ≤ 3 := f5
          have f7 : bk_ ≤ 3 := f7
          have f8 : (wts kd).getD a0 1 * hn_ = (wts kd).getD b0 1 * bk_ := f8
          refine g_four s9.i dx2 fun w1 w2 w3 w4 e1 e2 e3 e4 => ?_
          cases e1.inv_int
          cases e2.inv_int
          cases e3.inv_int
          cases e4.inv_int
          obtain ⟨xa, exa⟩ := get_of (l := o) (i := bsum ss i + a0) (by omega)
          obtain ⟨xb, exb⟩ := get_of (l := o) (i := bsum ss i + b0) (by omega)
          have hxa := olt exa
          have hxb := olt exb
          have hab : xa ≠ xb := fun z => by
            subst z
            have h1 : bsum ss i + a0 < o.length := by omega
            have := (List.getElem?_inj h1 ond).mp (exa.trans exb.symm)
            omega
          have wA : wfn ss o xa = (wts kd).getD a0 1 := by
            unfold wfn
            rw [idx_get ond exa, wl_get hk eo f1]
          have wB : wfn ss o xb = (wts kd).getD b0 1 := by
            unfold wfn
            rw [idx_get ond exb, wl_get hk eo f2]
          have dO9 : Da G9 (.ref po) (.list (o.map natD)) := dO.mono (st8.g.trans s9.g)
          refine r_sign (Cn.nil s9.i) rfl (dk8.up s9) (by omega) fun sgn c3 GA HA hsb g1 g2 sA dA => ?_
          have dOA : Da GA (.ref po) (.list (o.map natD)) := dO9.mono sA.g
          have mtA := (mt8.up s9).step sA hm1
          have ixE : ∀ {Γ : List (Addr × HO)} {σ : L2.St} {Gx : Hp} {tb : TE} {k x : Nat} (h7 : σ[7]? = some (some (.ref po))) (h6 : σ[6]? = some (some (vN (bsum ss i)))) (hG : Same GA Gx) (hb : EvD Γ tb σ Gx (intD k)) (e : o[bsum ss i + k]? = some x), EvD Γ (tOp (rIxL K) (tVar 7) (tOp (rI0 fun i j => .int (i + j)) (tVar 6) tb)) σ Gx (natD x) := fun h7 h6 hG hb e => e_ixL (e_var h7 (dOA.mono hG)) ((e_I0 (f := fun i j => i + j) (e_var h6 (.int _)) hb).eq (by rw [← Int.natCast_add])) (nat_get e)
          obtain ⟨ra, era⟩ := get_of (l := rs) (i := xa) (by omega)
          obtain ⟨rt, ert⟩ := get_of (l := rs) (i := xb) (by omega)
          refine r_par ?_
          refine r_ixR (Cn.nil sA.i) rfl mtA (ixE rfl rfl (Same.refl _) (e_var rfl (.int _)) exa) era fun GF HF sF => ?_
          refine r_ixR (Cn.nil sF.i) rfl (mtA.up sF) (ixE rfl rfl sF.g (e_var rfl (.int _)) exb) ert fun GG HG sG => ⟨_, _, rfl, ?_⟩
          have mtG := (mtA.up sF).up sG
          obtain ⟨em, lm⟩ := rowM_get sqM hxa
          have tl : sgn.natAbs < 2 ^ 30 := by omega
          refine q_putR (r := ra) (a := xa) (j := xb) (x := sgn * ((hn_ : Nat) : Int)) rfl mtG sG.i era em (by omega) (e_I (f := fun i j => i * j) (e_var rfl (.int sgn)) (e_var rfl (.int _)) (mulN rfl (Int.natAbs_natCast _) tl (by omega))) (ixE rfl rfl (sF.g.trans sG.g) (e_var rfl (.int _)) exb) fun GI HI sI mtI => ?_
          have sq1 : Sq n (M.set xa ((rowM M xa).set xb (sgn * ((hn_ : Nat) : Int)))) := sq_set sqM (by rw [List.length_set]; exact lm)
          obtain ⟨em2, lm2⟩ := rowM_get sq1 hxb
          refine s_putR (r := rt) (a := xb) (j := xa) (x := -sgn * ((bk_ : Nat) : Int)) rfl mtI sI.i ert em2 (by omega) (e_I (f := fun i j => i * j) (e_neg (e_var rfl (.int sgn))) (e_var rfl (.int _)) (mulN (Int.natAbs_neg sgn) (Int.natAbs_natCast _) tl (by omega))) (ixE rfl rfl ((sF.g.trans sG.g).trans sI.g) (e_var rfl (.int _)) exa) fun GJ HJ sJ mtJ => ?_
          have mem_ra : ra ∈ p :: rs := List.mem_cons_of_mem _ (List.mem_of_getElem? era)
          have mem_rt : rt ∈ p :: rs := List.mem_cons_of_mem _ (List.mem_of_getElem? ert)
          have sI2 : Stp (l :: p :: rs) GG HG GI HI := sI.weak fun x hx => by
            have : x = ra := by simpa using hx
            rw [this]
            exact List.mem_cons_of_mem _ mem_ra
          have sJ2 : Stp (l :: p :: rs) GI HI GJ HJ := sJ.weak fun x hx => by
            have : x = rt := by simpa using hx
            rw [this]
            exact List.mem_cons_of_mem _ mem_rt
          have sA2 : Stp (l :: p :: rs) G9 H9 GA HA := sA.weak fun x hx => by
            have : x = l := by simpa using hx
            rw [this]
            exact List.mem_cons_self ..
          have stJ : Stp (l :: p :: rs) Gk H3 GJ HJ := ((((st8.up s9).trans sA2).up (sF.trans sG)).trans sI2).trans sJ2
          have hskw : ((wfn ss o xa : Nat) : Int) * (sgn * ((hn_ : Nat) : Int)) = -((wfn ss o xb : Nat) : Int) * (-sgn * ((bk_ : Nat) : Int)) := by
            rw [wA, wB]
            have f9 : (((wts kd).getD a0 1 : Nat) : Int) * ((hn_ : Nat) : Int) = (((wts kd).getD b0 1 : Nat) : Int) * ((bk_ : Nat) : Int) := by
              rw [← Int.natCast_mul, ← Int.natCast_mul, f8]
            rw [Int.neg_mul, Int.neg_mul, Int.mul_neg, Int.neg_neg]
            calc (((wts kd).getD a0 1 : Nat) : Int) * (sgn * ((hn_ : Nat) : Int)) = sgn * ((((wts kd).getD a0 1 : Nat) : Int) * ((hn_ : Nat) : Int)) := by ac_rfl
              _ = sgn * ((((wts kd).getD b0 1 : Nat) : Int) * ((bk_ : Nat) : Int)) := by rw [f9]
              _ = (((wts kd).getD b0 1 : Nat) : Int) * (sgn * ((bk_ : Nat) : Int)) := by ac_rfl
          have hle : ∀ (t : Int) (k : Nat), t.natAbs ≤ 1 → k ≤ 3 → (t * ((k : Nat) : Int)).natAbs ≤ 3 := fun t k h1 h2 => by
            rw [Int.natAbs_mul, Int.natAbs_natCast]
            exact Nat.le_trans (Nat.mul_le_mul h1 h2) (by decide)
          refine ⟨GJ, sg8.trans (s9.g.trans (sA.g.trans (sF.g.trans (sG.g.trans (sI.g.trans sJ.g))))), put2 M xa xb (sgn * ((hn_ : Nat) : Int)) (-sgn * ((bk_ : Nat) : Int)), c3, _, _, _, _, _, _, _, _, rfl, stJ, mtJ, put2_sq sqM hxa hxb _ _, put2_sk sqM hxa hxb hab hskw skM, put2_le sqM hxa hxb (hle _ _ hsb f5) (hle _ _ (by rw [Int.natAbs_neg]; exact hsb) f7) leM, by omega, by omega, ?_⟩
          exact (((dA.up sF).up sG).step sI (by simp; exact fun z => lnot (by rw [z]; exact mem_ra))).step sJ (by simp; exact fun z => lnot (by rw [z]; exact mem_rt))
        · subst hσ
          refine s_asgI (n := ((bsum ss (i + 1) : Nat) : Int)) (Cn.nil st8.i) ((e_I0 (f := fun i j => i + j) (e_var rfl (.int _)) (e_var rfl (.int _))).eq (by rw [bsum_step eo, Int.natCast_add])) fun GA HA sA => ⟨GA, sg.trans (s6.g.trans (s7.g.trans (sg8.trans sA.g))), M, c2, _, _, _, _, _, _, _, _, _, _, rfl, st8.up sA, mt8.up sA, sqM, skM, leM, by omega, by omega, dk8.up sA⟩
      · subst hσ
        have sF : Stp [l] G H G' H' := sK.comp st fun x hx => by
          rcases List.mem_cons.mp hx with z | z
          · exact .inl (by simp [z])
          · exact .inr (hn0 x z)
        refine s_retRows (i := 5) (j := 15) rfl mt' sF hn0 (by rw [sqM.len]; omega) (fun _ => rfl) (fun _ => rfl) fun v G7 H7 s7 h7 dv => ?_
        exact q v M c' G7 H7 sqM (skM.skw fun i hi => wfn_pos hk o i) (leE_of sqM leM) (by omega) (by omega) s7 dv (h7 l c' dk' dk.in)
end N41
/-! W21: tables from the deck. -/
namespace N41
open PySem PySem.Spec PyProof.Rows L2
theorem cell_ren {T : Tab} {o : List Nat} {i j x y : Nat} (ei : o[i]? = some x) (ej : o[j]? = some y) : cell (renM T o) i j = cell T x y := by
  have e1 : (renM T o)[i]? = some (o.map fun j => cell T x j) := by unfold renM; rw [List.getElem?_map, ei]; rfl
  have e2 : (o.map fun j => cell T x j)[j]? = some (cell T x y) := by rw [List.getElem?_map, ej]; rfl
  exact cell_get e1 e2
theorem ren_ok {n : Nat} {T : Tab} {o : List Nat} (ho : o.Perm (List.range n)) (sq : Sq n T) (sk : Skw n T) (le : LeE 2 T) : Sq n (renM T o) ∧ Skw n (renM T o) ∧ LeE 2 (renM T o) := by
  have hl : o.length = n := by have := ho.length_eq; rwa [List.length_range] at this
  have olt : ∀ {i x : Nat}, o[i]? = some x → x < n := fun e => List.mem_range.mp (ho.mem_iff.mp (List.mem_of_getElem? e))
  refine ⟨renM_sq T hl, ?_, ?_⟩
  · obtain ⟨w, wp, ws⟩ := sk
    refine ⟨fun i => w (o.getD i 0), fun i hi => ?_, fun i j hi hj => ?_⟩
    · obtain ⟨x, ex⟩ := get_of (l := o) (i := i) (by omega)
      show 0 < w (o.getD i 0)
      rw [getD_of ex]
      exact wp x (olt ex)
    · obtain ⟨x, ex⟩ := get_of (l := o) (i := i) (by omega)
      obtain ⟨y, ey⟩ := get_of (l := o) (i := j) (by omega)
      show ((w (o.getD i 0) : Nat) : Int) * _ = -((w (o.getD j 0) : Nat) : Int) * _
      rw [cell_ren ex ey, cell_ren ey ex, getD_of ex, getD_of ey]
      exact ws x y (olt ex) (olt ey)
  · intro r hr x hx
    obtain ⟨i, hi, rfl⟩ := List.mem_map.mp hr
    obtain ⟨j, hj, rfl⟩ := List.mem_map.mp hx
    have hc := leC_of (n := n) le
    exact hc i j (List.mem_range.mp (ho.mem_iff.mp hi)) (List.mem_range.mp (ho.mem_iff.mp hj))
section
variable {K : PySem.W.Frag} {Γ : List (Addr × HO)} {σ : L2.St} {G H : Hp} {ta tb tc te tm : TE} {D : Ends} {tu tz : TS} {l : Addr} {c m : Nat}
theorem r_ifdraw (cn : Cn Γ G H) (hi : σ[0]? = some (some (.ref l))) (dk : Dk G H l c) (hc : c ≤ 1000000) (hm : EvD Γ tm σ G (intD m)) (h1 : 1 ≤ m) (h2 : m ≤ 1000000)
    (k1 : ∀ (c' : Nat) G2 H2, c ≤ c' → c' ≤ c + 1 → Stp [l] G H G2 H2 → Dk G2 H2 l c' → tu { D with nx := tz D } σ H2) (k2 : ∀ (c' : Nat) G2 H2, c ≤ c' → c' ≤ c + 1 → Stp [l] G H G2 H2 → Dk G2 H2 l c' → tz D σ H2) :
    tSeq (tIfS (tTest (tOp rEq (tCallG sp__law_draw (tCons (tVar 0) (tCons tm tNil))) (tC (.int 0)))) tu tNext) tz D σ H := by
  refine r_draw cn hi dk hc hm h1 h2 fun r c' G2 H2 hr a1 a2 s d => ?_
  refine ⟨rfl, _, rfl, ?_⟩
  by_cases h : r = 0
  · subst h
    exact iteT (k1 c' G2 H2 a1 a2 s d)
  · have e : decide (V.int ((r : Nat) : Int) = V.int 0) = false := decide_eq_false fun z => h (by injection z with z; omega)
    show (if decide (V.int ((r : Nat) : Int) = V.int 0) = true then _ else _)
    rw [e]
    exact iteF (k2 c' G2 H2 a1 a2 s d)
theorem r_many {i : Nat} (cn : Cn Γ G H) (hi : σ[0]? = some (some (.ref l))) (dk : Dk G H l c) (hc : c ≤ 1000000) (k : ∀ (n c' : Nat) G2 H2, 1 ≤ n → n ≤ 4 → c ≤ c' → c' ≤ c + 1 → Stp [l] G H G2 H2 → Dk G2 H2 l c' → tz D (σ.set i (some (vN n))) H2) :
    tSeq (tAsg (tOp (rI0 fun i j => .int (i + j)) (tC (.int 1)) (tCallG sp__law_draw (tCons (tVar 0) (tCons (tC (.int 4)) tNil)))) (gName i)) tz D σ H := by
  refine r_asg ?_
  refine r_draw (m := 4) cn hi dk hc e_int (by decide) (by decide) fun r c3 GA HA hr g1 g2 sA dA => ?_
  refine ⟨_, _, rfl, rfl, ?_⟩
  have e : V.int ((1 : Int) + (r : Int)) = vN (r + 1) := by
    show V.int _ = V.int _
    congr 1
    omega
  show tz D (σ.set i (some (V.int ((1 : Int) + (r : Int))))) HA
  rw [e]
  exact k (r + 1) c3 GA HA (by omega) (by omega) g1 g2 sA dA
end
abbrev sp__law_finite : Sp := fun vs H Q _ => ∃ (l : Addr) (n c : Nat) (G : Hp), vs = [.ref l, vN n] ∧ Same G H ∧ Dk G H l c ∧ c ≤ 800000 ∧ 1 ≤ n ∧ n ≤ 4 ∧
  ∀ (v : V) (s : List Kd) (T : Tab) (c' : Nat) G2 H2, Sq n T → Skw n T → c ≤ c' → c' ≤ c + 200 → Stp [l] G H G2 H2 → Da G2 v (.tuple [kL s, tD T]) → Dk G2 H2 l c' → Q v H2
theorem cal__law_finite {P : Program} {w : World} {K : PySem.W.Frag} {mg : Str → Option Value} {base : Heap} (B : Blt mg) (D : FD K mg "_law_finite" st__law_finite) (c__law_types : CalG P w K mg base 2 "_law_types" sp__law_types) (c__law_table : CalG P w K mg base 3 "_law_table" sp__law_table) (c__law_draw : CalG P w K mg base 1 "_law_draw" sp__law_draw) (c__law_swap : CalG P w K mg base 1 "_law_swap" sp__law_swap) :
    CalG P w K mg base 4 "_law_finite" sp__law_finite := by
  obtain ⟨f, fd, F, hdf⟩ := D.ex
  refine calG0 (N := N__law_finite) F (F.fn.binds hdf fun _ _ _ _ _ _ us hl => match us, hl with | [_, _], _ => rfl) sc__law_finite (fun vs H Q E h => ?_) fun cdv A outer s H vs Q E hgu hr h => ⟨_, (pss_cons (ps_set (i := 2) nd__law_finite rfl (Or.inl rfl) (pe_cg c__law_types hgu hr (by decide) (by rfl) (pa_cons (pv 0) (pa_cons (pv 1) pa_nil))))
 (pss_cons (ps_set (i := 3) nd__law_finite rfl (Or.inl rfl) (pe_cg c__law_table hgu hr (by decide) (by rfl) (pa_cons (pv 0) (pa_cons (pv 2) pa_nil))))
 (pss_cons (ps_for PassesOwn.never rfl (pi_range1 (by rfl) B.range (pa_cons (pe_cg c__law_draw hgu hr (by decide) (by rfl) (pa_cons (pv 0) (pa_cons pe_int pa_nil))) pa_nil)) (pg_name (i := 4) nd__law_finite rfl (Or.inl rfl)) (pss_one (ps_set (i := 3) nd__law_finite rfl (Or.inl rfl) (pe_cg c__law_swap hgu hr (by decide) (by rfl) (pa_cons (pv 3) (pa_cons (pe_cg c__law_draw hgu hr (by decide) (by rfl) (pa_cons (pv 0) (pa_cons (pv 1) pa_nil))) pa_nil))))))
 (pss_one (ps_ret (pe_tup (pa_cons (pv 2) (pa_cons (pv 3) pa_nil)))))))), ?_⟩
  · obtain ⟨l, n, c, G, rfl, _⟩ := h
    rfl
  · obtain ⟨l, n, c, G, rfl, gh, dk, hc, h1, h4, q⟩ := h
    refine r_asg ?_
    refine ⟨_, rfl, _, rfl, l, n, c, G, rfl, gh, dk, by omega, h1, h4, fun vS ss c1 G1 H1 hs a1 a2 s1 dS dk1 => ?_⟩
    obtain ⟨_, _, hok⟩ := tyMore_ok (n - 1) (by omega)
    obtain ⟨hsl, hsk, hsum⟩ := hok ss hs
    refine r_asg ?_
    refine ⟨_, rfl, _, rfl, l, vS, ss, n, c1, G1, rfl, s1.i, dk1, by omega, h1, h4, dS, hsk, by omega, hsl, fun vT T c2 G2 H2 sq sk le b1 b2 s2 dT dk2 => ?_⟩
    have dS2 := dS.mono s2.g
    refine r_draw (m := 5) (Cn.nil s2.i) rfl dk2 (by omega) e_int (by decide) (by decide) fun r c3 G3 H3 hr f1 f2 s3 dk3 => ?_
    show tSeq (tFor (iRng1 (tCons (tC (vN r)) tNil)) _ _) _ _ _ _
    refine q_for (List.range r) natD (Cn.nil s3.i) (i_rng (a_cons e_int a_nil) (by omega)) (fun G5 _ i σ' G' H' => Same G5 G' ∧ ∃ (T : Tab) (vT : V) (c' : Nat) (y4 : Option V), σ' = [some (.ref l), some (vN n), some vS, some vT, y4] ∧ Stp [l] G3 H3 G' H' ∧ Da G' vT (tD T) ∧ Sq n T ∧ Skw n T ∧ Lt2 (gk i) T ∧ c3 ≤ c' ∧ c' ≤ c3 + i ∧ Dk G' H' l c')
      (fun G5 H5 s5 => ⟨Same.refl _, T, vT, c3, _, rfl, s5.of0, (dT.mono s3.g).mono s5.g, sq, sk, le.lt2 (by show 3 < 2 ^ 2; decide), Nat.le_refl _, by omega, dk3.up s5⟩) (fun _ _ _ _ _ _ ⟨h, _, _, _, _, _, s, _⟩ => ⟨h, s.i⟩) (fun G5 H5 i a σ' G' H' x G6 H6 s5 eo ⟨sg, T, vT, c', y4, hσ, st, dT, sq, sk, lt, e1, e2, dk'⟩ s6 dx => ?_) (fun G5 H5 σ' G' H' s5 ⟨sg, T, vT, c', y4, hσ, st, dT, sq, sk, lt, e1, e2, dk'⟩ => ?_)
    · subst hσ
      have hin : i < r := by
        have := (List.getElem?_eq_some_iff.mp eo).1
        rwa [List.length_range] at this
      refine ⟨_, rfl, ?_⟩
      refine r_draw (Cn.nil s6.i) rfl (dk'.up s6) (by omega) (e_var rfl (.int _)) h1 (by omega) fun r2 c4 G7 H7 hr2 f3 f4 s7 dk7 => ?_
      have dT7 : Da G7 vT (tD T) := (dT.mono s6.g).mono s7.g
      refine ⟨⟨T, r2, n, gk i⟩, G7, s7.i, .cons dT7 (.cons (.int _) .nil), ⟨sq.bd h1 h4, hr2, lt, Nat.le_trans (gk_le5 i (by omega)) (by decide)⟩, fun v G8 H8 s8 dv => ?_⟩
      exact ⟨G8, sg.trans (s6.g.trans (s7.g.trans s8.g)), sw T r2, v, c4, _, rfl, (st.up s6).trans (s7.up s8), dv, sw_sq sq r2, sw_skw sq.rows (Nat.le_of_eq sq.len.symm) hr2 sk, sw_lt2 lt, by omega, by omega, dk7.up s8⟩
    · subst hσ
      rw [List.length_range] at e2
      exact s_ret (Cn.nil st.i) (e_tup (a_cons (e_var rfl (dS2.mono (s3.g.trans st.g))) (a_cons (e_var rfl dT) a_nil)) (slack (by simp))) fun v G7 H7 s7 dv => q v ss T c' G7 H7 sq sk (by omega) (by omega) ((((s1.trans s2).trans s3).trans st).up s7) dv (dk'.up s7)
abbrev sp__law_plain : Sp := fun vs H Q _ => ∃ (l : Addr) (c : Nat) (G : Hp), vs = [.ref l] ∧ Same G H ∧ Dk G H l c ∧ c ≤ 700000 ∧
  ∀ (v : V) (T : Tab) (n c' : Nat) G2 H2, 1 ≤ n → n ≤ 4 → Sq n T → Skw n T → LeE 2 T → c ≤ c' → c' ≤ c + 500 → Stp [l] G H G2 H2 → Da G2 v (tD T) → Dk G2 H2 l c' → Q v H2
theorem cal__law_plain {P : Program} {w : World} {K : PySem.W.Frag} {mg : Str → Option Value} {base : Heap} (B : Blt mg) (D : FD K mg "_law_plain" st__law_plain) (c__law_draw : CalG P w K mg base 1 "_law_draw" sp__law_draw) (c__law_finite : CalG P w K mg base 4 "_law_finite" sp__law_finite) (c__law_greatest : CalG P w K mg base 1 "_law_greatest" sp__law_greatest) (c__law_wild : CalG P w K mg base 2 "_law_wild" sp__law_wild) :
    CalG P w K mg base 5 "_law_plain" sp__law_plain := by
  obtain ⟨f, fd, F, hdf⟩ := D.ex
  refine calG0 (N := N__law_plain) F (F.fn.binds hdf fun _ _ _ _ _ _ us hl => match us, hl with | [_], _ => rfl) sc__law_plain (fun vs H Q E h => ?_) fun cdv A outer s H vs Q E hgu hr h => ⟨_, (pss_cons (ps_set (i := 1) nd__law_plain rfl (Or.inl rfl) (pe_op op_add pe_int (pe_cg c__law_draw hgu hr (by decide) (by rfl) (pa_cons (pv 0) (pa_cons pe_int pa_nil)))))
 (pss_cons (ps_if (pt_cmpR op_eq (pe_cg c__law_draw hgu hr (by decide) (by rfl) (pa_cons (pv 0) (pa_cons pe_int pa_nil))) pe_int (nomark _)) (pss_cons (ps_set (i := 2) nd__law_plain rfl (Or.inl rfl) (pe_ix (r := rIxT K) ix_tup (pe_cg c__law_finite hgu hr (by decide) (by rfl) (pa_cons (pv 0) (pa_cons (pv 1) pa_nil))) pe_int (fun _ _ => rfl)))
 (pss_one (ps_if (pt_cmpR op_lt (pe_cg c__law_greatest hgu hr (by decide) (by rfl) (pa_cons (pv 2) pa_nil)) pe_int (nomark _)) (pss_one (ps_ret (pv 2))) pss_nil))) pss_nil)
 (pss_one (ps_ret (pe_cg c__law_wild hgu hr (by decide) (by rfl) (pa_cons (pv 0) (pa_cons (pv 1) (pa_cons pe_int pa_nil)))))))), ?_⟩
  · obtain ⟨l, c, G, rfl, _⟩ := h
    rfl
  · obtain ⟨l, c, G, rfl, gh, dk, hc, q⟩ := h
    refine r_many (Cn.nil gh) rfl dk (by omega) fun n c1 G1 H1 h1 h4 a1 a2 s1 dk1 => ?_
    have wild : ∀ {y2 : Option V} {c2 : Nat} {G2 H2 : Hp}, c ≤ c2 → c2 ≤ c + 300 → Stp [l] G H G2 H2 → Dk G2 H2 l c2 → tRet (tCallG sp__law_wild (tCons (tVar 0) (tCons (tVar 1) (tCons (tC (.int 2)) tNil)))) { nx := fun x H' => Q V.non H', rt := Q } [some (.ref l), some (vN n), y2] H2 := fun {y2 c2 G2 H2} e1 e2 s2 dk2 =>
      ⟨_, rfl, _, rfl, l, n, c2, G2, rfl, s2.i, dk2, by omega, h1, h4, fun v T c3 G3 H3 sq sk le f1 f2 s3 dv dk3 => q v T n c3 G3 H3 h1 h4 sq sk le (by omega) (by omega) (s2.trans s3) dv dk3⟩
    refine r_ifdraw (m := 2) (Cn.nil s1.i) rfl dk1 (by omega) e_int (by decide) (by decide) (fun c2 G2 H2 b1 b2 s2 dk2 => ?_) fun c2 G2 H2 b1 b2 s2 dk2 => wild (by omega) (by omega) (s1.trans s2) dk2
    refine r_asg ?_
    refine ⟨_, rfl, _, rfl, l, n, c2, G2, rfl, s2.i, dk2, by omega, h1, h4, fun v ss T c3 G3 H3 sq sk f1 f2 s3 dv dk3 => ?_⟩
    obtain ⟨p, xs, rfl, hp, hs⟩ := dv.inv_tup
    obtain ⟨w1, w2, rfl, d1, d2⟩ := hs.inv2
    refine ⟨p, _, 1, w2, rfl, rfl, SqT.of (s3.i _ _ hp), rfl, ?_⟩
    refine s_when (b := decide (gr T < 3)) (Cn.nil s3.i) (b_test (e_B0 (f := fun i j => decide (i < j)) (e_cg (args := fun a : AT => [tD a.T]) (pre := fun a => Sq a.n a.T ∧ 1 ≤ a.n ∧ a.n ≤ 4) (res := fun a => .int (gr a.T)) (⟨T, n⟩ : AT) (a_cons (e_var rfl d2) a_nil) ⟨sq, h1, h4⟩) e_int)) (fun hh G4 H4 s4 => ?_) (fun hh G4 H4 s4 => wild (by omega) (by omega) (((s1.trans s2).trans s3).up s4) (dk3.up s4))
    have hle : LeE 2 T := gr_le.mp (by have : gr T < 3 := by simpa using hh
                                       omega)
    exact s_ret (Cn.nil s4.i) (e_var rfl (s4.da d2)) fun v G5 H5 s5 dv => q v T n c3 G5 H5 h1 h4 sq sk hle (by omega) (by omega) (((s1.trans s2).trans s3).up (s4.trans s5)) dv ((dk3.up s4).up s5)
end N41
/-! W22: the second table. -/
namespace N41
open PySem PySem.Spec PyProof.Rows L2
theorem r_lcDraw {Γ : List (Addr × HO)} {σ : L2.St} {G H : Hp} {tm te : TE} {l : Addr} {c m i : Nat} {g : TG} {tt : TT} {ws : List Nat} {Q : VK} (cn : Cn Γ G H) (hi : σ[i]? = some (some (.ref l))) (dk : Dk G H l c) (hc : c ≤ 1000000) (hm : EvD Γ tm σ G (intD m)) (h1 : 1 ≤ m) (h2 : m ≤ 1000000)
    (k : ∀ (r c' : Nat) G2 H2, r < m → c ≤ c' → c' ≤ c + 1 → Stp [l] G H G2 H2 → Dk G2 H2 l c' → tLc (iRng1 (tCons (tC (vN r)) tNil)) g tt te ws σ H2 Q) : tLc (iRng1 (tCons (tCallG sp__law_draw (tCons (tVar i) (tCons tm tNil))) tNil)) g tt te ws σ H Q := by
  refine r_draw cn hi dk hc hm h1 h2 fun r c' G2 H2 a1 a2 a3 s d => ?_
  exact k r c' G2 H2 a1 a2 a3 s d
abbrev sp__law_second : Sp := fun vs H Q _ => ∃ (l : Addr) (vL : V) (L : Tab) (m c : Nat) (G : Hp), vs = [.ref l, vL] ∧ Same G H ∧ Dk G H l c ∧ c ≤ 600000 ∧ Da G vL (tD L) ∧ 1 ≤ m ∧ m ≤ 4 ∧ Sq m L ∧ Skw m L ∧ LeE 2 L ∧
  ∀ (v : V) (T : Tab) (n c' : Nat) G2 H2, 1 ≤ n → n ≤ 4 → Sq n T → Skw n T → LeE 2 T → c ≤ c' → c' ≤ c + 600 → Stp [l] G H G2 H2 → Da G2 v (tD T) → Dk G2 H2 l c' → Q v H2
theorem cal__law_second {P : Program} {w : World} {K : PySem.W.Frag} {mg : Str → Option Value} {base : Heap} (B : Blt mg) (D : FD K mg "_law_second" st__law_second) (c__law_draw : CalG P w K mg base 1 "_law_draw" sp__law_draw) (c__law_plain : CalG P w K mg base 5 "_law_plain" sp__law_plain) (c__law_order : CalG P w K mg base 2 "_law_order" sp__law_order) (c__law_swap_by : CalG P w K mg base 2 "_law_swap_by" sp__law_swap_by) (c__law_greatest : CalG P w K mg base 1 "_law_greatest" sp__law_greatest) :
    CalG P w K mg base 6 "_law_second" sp__law_second := by
  obtain ⟨f, fd, F, hdf⟩ := D.ex
  refine calG0 (N := N__law_second) F (F.fn.binds hdf fun _ _ _ _ _ _ us hl => match us, hl with | [_, _], _ => rfl) sc__law_second (fun vs H Q E h => ?_) fun cdv A outer s H vs Q E hgu hr h => ⟨_, (pss_cons (ps_set (i := 2) nd__law_second rfl (Or.inr rfl) (pe_callB (r := rLen K) c_len (by rfl) B.len bt_len (pa_cons (pv 1) pa_nil)))
 (pss_cons (ps_if (pt_cmpR op_eq (pe_cg c__law_draw hgu hr (by decide) (by rfl) (pa_cons (pv 0) (pa_cons pe_int pa_nil))) pe_int (nomark _)) (pss_one (ps_ret (pe_cg c__law_plain hgu hr (by decide) (by rfl) (pa_cons (pv 0) pa_nil)))) pss_nil)
 (pss_cons (ps_set (i := 3) nd__law_second rfl (Or.inr rfl) (pe_cg c__law_order hgu hr (by decide) (by rfl) (pa_cons (pv 0) (pa_cons (pv 2) pa_nil))))
 (pss_cons (ps_set (i := 4) nd__law_second rfl (Or.inr rfl) (pe_cg c__law_swap_by hgu hr (by decide) (by rfl) (pa_cons (pv 1) (pa_cons (pe_lc (own := [("_law_turn", 5)]) rfl nd__law_second (pi_range1 (by rfl) B.range (pa_cons (pe_cg c__law_draw hgu hr (by decide) (by rfl) (pa_cons (pv 0) (pa_cons pe_int pa_nil))) pa_nil)) (blkOk_by (by kernel_rfl)) (fun _ _ _ _ _ => (pg_name (i := 5) nd__law_second rfl (Or.inl rfl))) (fun _ _ _ _ _ => pts_nil) (fun _ _ _ _ _ => (pe_cg c__law_draw hgu hr (by decide) (by rfl) (pa_cons (pv 0) (pa_cons (pv 2) pa_nil))))) pa_nil))))
 (pss_cons (ps_if (pt_cmpR op_gt (pe_cg c__law_greatest hgu hr (by decide) (by rfl) (pa_cons (pv 4) pa_nil)) pe_int (nomark _)) (pss_one (ps_set (i := 4) nd__law_second rfl (Or.inr rfl) (pv 1))) pss_nil)
 (pss_one (ps_ret (pe_callTy (r := rTup K) c_tup (by rfl) B.tuple bt_tuple (pa_cons (pe_lc (own := [("_law_at", 7)]) rfl nd__law_second (pi_listK (K := K) rfl (pv 3)) (blkOk_by (by kernel_rfl)) (fun _ _ _ _ _ => (pg_name (i := 7) nd__law_second rfl (Or.inr rfl))) (fun _ _ _ _ _ => pts_nil) (fun _ _ _ _ _ => (pe_callTy (r := rTup K) c_tup (by rfl) B.tuple bt_tuple (pa_cons (pe_lc (own := [("_law_to", 6)]) rfl nd__law_second (pi_listK (K := K) rfl (pv 3)) (blkOk_by (by kernel_rfl)) (fun _ _ _ _ _ => (pg_name (i := 6) nd__law_second rfl (Or.inl rfl))) (fun _ _ _ _ _ => pts_nil) (fun _ _ _ _ _ => (pe_ix (r := rIxT K) ix_tup (pe_ix (r := rIxT K) ix_tup (pv 4) (pv 7) (fun _ _ => rfl)) (pv 6) (fun _ _ => rfl)))) pa_nil)))) pa_nil))))))))), ?_⟩
  · obtain ⟨l, vL, L, m, c, G, rfl, _⟩ := h
    rfl
  · obtain ⟨l, vL, L, m, c, G, rfl, gh, dk, hc, dL, h1, h4, sq, sk, le, q⟩ := h
    have hlL : (L.map rD).length = m := by rw [List.length_map, sq.len]
    refine q_asgI (Cn.nil gh) (e_lenT (e_var rfl dL) hlL) fun G1 H1 s1 => ?_
    have dL1 := s1.da dL
    refine r_ifdraw (m := 4) (Cn.nil s1.i) rfl (dk.up s1) (by omega) e_int (by decide) (by decide) (fun c2 G2 H2 b1 b2 s2 dk2 => ?_) fun c2 G2 H2 b1 b2 s2 dk2 => ?_
    · exact ⟨_, rfl, l, c2, G2, rfl, s2.i, dk2, by omega, fun v T n c3 G3 H3 e1 e2 e3 e4 e5 f1 f2 s3 dv dk3 => q v T n c3 G3 H3 e1 e2 e3 e4 e5 (by omega) (by omega) ((s1.of0.trans s2).trans s3) dv dk3⟩
    · have dL2 := dL1.mono s2.g
      refine r_asg ?_
      refine r_order (Cn.nil s2.i) rfl dk2 (by omega) (e_var rfl (.int _)) h4 fun po o c3 G3 H3 ho f1 f2 s3 hpo opo dk3 => ?_
      have s03 : Stp [l] G H G3 H3 := (s1.of0.trans s2).trans s3
      have hpo0 : H po = none := s1.free (s2.free hpo)
      have lpo : l ≠ po := dk2.ne hpo
      have kn := Own.know s3.i opo
      have sK := s03.know opo hpo0
      have dkK : Dk (upd G3 po (.lst (o.map vN))) H3 l c3 := dk3.know lpo
      have dO : Da (upd G3 po (.lst (o.map vN))) (.ref po) (.list (o.map natD)) := .lst upd_same (das_nats _ o)
      have dLk : Da (upd G3 po (.lst (o.map vN))) vL (tD L) := dL.mono sK.g
      generalize upd G3 po (.lst (o.map vN)) = Gk at kn sK dkK dO dLk
      have onl : o.length = m := by have := ho.length_eq; rwa [List.length_range] at this
      have olt : ∀ x ∈ o, x < m := fun x hx => List.mem_range.mp (ho.mem_iff.mp hx)
      refine r_asg ?_
      refine ⟨_, rfl, ?_⟩
      refine r_cons1 ?_
      refine r_lcDraw (m := 5) (Cn.nil sK.i) rfl dkK (by omega) e_int (by decide) (by decide) fun r c4 G4 H4 hr g1 g2 s4 dk4 => ?_
      refine r_lcG (List.range r) natD [l] (fun C ys Ga Ha => ∃ (cc : Nat) (row : List Nat), ys = row.map vN ∧ (∀ x ∈ row, x < m) ∧ c4 ≤ cc ∧ cc ≤ c4 + ys.length ∧ Dk Ga Ha l cc ∧ l ≠ C) (Cn.nil s4.i) (fun x hx => by
        have : x = l := by simpa using hx
        rw [this]; exact dk4.in) (i_rng (a_cons e_int a_nil) (by omega)) (small (by rw [List.length_range]; omega)) (fun _ => rfl)
        (fun C Ga Ha sa hC => ⟨c4, [], rfl, (fun _ z => by cases z), Nat.le_refl _, by simp, (dk4.up sa).putN (dk4.ne (sa.free hC)), dk4.ne (sa.free hC)⟩) (fun C ys Ga Ha Gb Hb ⟨cc, row, e1, e0, e2, e3, d, ne⟩ s => ⟨cc, row, e1, e0, e2, e3, d.up s, ne⟩) (fun C ys Ga Ha o o' ow ⟨cc, row, e1, e0, e2, e3, d, ne⟩ => ⟨cc, row, e1, e0, e2, e3, d.putN ne, ne⟩)
        (fun C k b Ga Ha ys z eb hC hC2 sa hyl ⟨cc, row, ey, er, e2, e3, d, ne⟩ dz Q' hQ => ?_) _ fun pr ys G5 H5 s5 hpr opr hyl ⟨c5, row, ey, er, e2, e3, dk5, ne⟩ => ?_
      rotate_left
      · have hkn : k < r := by
          have := (List.getElem?_eq_some_iff.mp eb).1
          rwa [List.length_range] at this
        refine r_draw (Cn.nil sa.i) rfl d (by rw [hyl] at e3; omega) (e_var rfl (.int _)) h1 (by omega) fun r2 c6 Gc Hc hr2 f3 f4 sc dc => hQ _ Gc Hc sc ⟨c6, row ++ [r2], by rw [ey, List.map_append]; rfl, fun x hx => ?_, by omega, by rw [List.length_append]; simp; omega, dc, ne⟩
        rcases List.mem_append.mp hx with h | h
        · exact er x h
        · have : x = r2 := by simpa using h
          rw [this]; exact hr2
      · subst ey
        rw [List.length_map, List.length_range] at hyl
        rw [List.length_map] at e3
        have s05 : Stp [l] G H G5 H5 := (sK.trans s4).trans s5
        have hpr0 : H pr = none := sK.free (s4.free hpr)
        have kn5 := Own.know s5.i opr
        have sK5 := s05.know opr hpr0
        have dkK5 : Dk (upd G5 pr (.lst (row.map vN))) H5 l c5 := dk5.know ne
        have dR : Da (upd G5 pr (.lst (row.map vN))) (.ref pr) (.list (row.map natD)) := .lst upd_same (das_nats _ row)
        have sGk : Same Gk (upd G5 pr (.lst (row.map vN))) := (s4.g.trans s5.g).trans kn5.2
        generalize upd G5 pr (.lst (row.map vN)) = Gp at kn5 sK5 dkK5 dR sGk
        obtain ⟨t1, t2⟩ := fold_sw row L 0 er sq (le.lt2 (by show 2 < 2 ^ 2; decide))
        have t3 := fold_skw row L er sq sk
        refine ⟨⟨L, m, row⟩, Gp, sK5.i, .cons (dLk.mono sGk) (.cons dR .nil), ⟨sq, h1, h4, le.lt2 (by show 2 < 2 ^ 2; decide), er, (by omega : row.length ≤ 5)⟩, fun vt G6 H6 s6 dt => ?_⟩
        have dt : Da G6 vt (tD (row.foldl sw L)) := dt
        have dk6 := dkK5.up s6
        have s06 := sK5.up s6
        have dL6 : Da G6 vL (tD L) := (dLk.mono sGk).mono s6.g
        have dO6 : Da G6 (.ref po) (.list (o.map natD)) := (dO.mono sGk).mono s6.g
        generalize hU : row.foldl sw L = U at t1 t2 t3 dt
        refine q_whenJ (fun σ' G' H' => ∃ (T : Tab) (vT : V) (y5 y6 y7 : Option V), σ' = [some (.ref l), some vL, some (vN m), some (.ref po), some vT, y5, y6, y7] ∧ Stp [] G6 H6 G' H' ∧ Da G' vT (tD T) ∧ Sq m T ∧ Skw m T ∧ LeE 2 T) (Cn.nil s6.i) (b := decide (2 < gr U)) (b_test (e_B0 (f := fun i j => decide (j < i)) (e_cg (args := fun a : AT => [tD a.T]) (pre := fun a => Sq a.n a.T ∧ 1 ≤ a.n ∧ a.n ≤ 4) (res := fun a => .int (gr a.T)) (⟨U, m⟩ : AT) (a_cons (e_var rfl dt) a_nil) ⟨t1, h1, h4⟩) e_int)) (fun hh G7 H7 N s7 hN => ?_) (fun hh G7 H7 s7 => ?_) fun σ' G7 H7 ⟨T, vT, y5, y6, y7, hσ, s7, dT, sqT, skT, leT⟩ => ?_
        · exact s_asg (Cn.nil s7.i) (e_var rfl (s7.da dL6)) fun v G8 H8 s8 dv => hN _ G8 H8 ⟨L, v, _, _, _, rfl, s7.trans s8, dv, sq, sk, le⟩
        · have hle : LeE 2 U := gr_le.mp (by have : ¬ 2 < gr U := by simpa using hh
                                             omega)
          exact ⟨U, vt, _, _, _, rfl, s7, s7.da dt, t1, t3, hle⟩
        · subst hσ
          obtain ⟨r1, r2, r3⟩ := ren_ok ho sqT skT leT
          have dO7 := s7.da dO6
          refine s_ret (Cn.nil s7.i) ((e_tupleL (l_lcM (j := 7) o natD (fun i => rD (o.map fun j => cell T i j)) (i_list (e_var rfl dO7)) (small (by omega)) (fun _ => rfl) fun i Ga y him ea dy => ?_).toD).eq (d' := tD (renM T o)) (by unfold tD renM; rw [List.map_map]; rfl)) fun v G8 H8 s8 dv => q v (renM T o) m c5 G8 H8 h1 h4 r1 r2 r3 (by omega) (by omega) (s06.up (s7.trans s8)) dv ((dk6.up s7).up s8)
          cases dy.inv_int
          refine (e_tupleL (l_lcM (j := 6) o natD (fun j => .int (cell T i j)) (i_list (e_var rfl (dO7.mono ea))) (small (by omega)) (fun _ => rfl) fun j Gb z hjm eb dz => ?_).toD).eq (d' := rD (o.map fun j => cell T i j)) (by unfold rD; rw [List.map_map]; rfl)
          cases dz.inv_int
          exact e_cell sqT.rows (by rw [sqT.len]; exact olt i him) (olt j hjm) (e_var rfl ((dT.mono ea).mono eb)) (e_var rfl (.int _)) (e_var rfl (.int _))
end N41
/-! W23: what looks right. -/
namespace N41
open PySem PySem.Spec PyProof.Rows L2
abbrev gV_sources : List V → List V := fun zs => zs
abbrev gV_is_tree : List V → List V := fun zs => zs
abbrev gV_directed_round : List V → List V := fun zs => zs
section
variable {K : PySem.W.Frag} {Γ : List (Addr × HO)} {σ : L2.St} {G : Hp} {ta tb : TE} {t : TT} {l : Addr} {xs : List V} {ds : List PyData}
theorem l_if {b : Bool} (h : EvB Γ t σ G b) (h1 : b = true → EvL Γ ta σ G ds) (h2 : b = false → EvL Γ tb σ G ds) : EvL Γ (tIf t ta tb) σ G ds := fun G1 H1 a c Q q => h G1 H1 a c _ fun G2 H2 s => by
  cases b with
  | true => exact iteT (h1 rfl G2 H2 (a.trans s.g) (c.up s) _ fun p xs G3 H3 s3 hp o dx => q p xs G3 H3 (s.trans s3) (s.free hp) o dx)
  | false => exact iteF (h2 rfl G2 H2 (a.trans s.g) (c.up s) _ fun p xs G3 H3 s3 hp o dx => q p xs G3 H3 (s.trans s3) (s.free hp) o dx)
theorem e_reprO {i : Nat} (hm : (l, HO.lst xs) ∈ Γ) (hi : σ[i]? = some (some (.ref l))) (hx : Das G xs ds) (hs : (PyData.list ds).showable = true) (hn : (PyData.list ds).hasDict = false) (hdp : (PyData.list ds).depth ≤ 64) (hz : (PyData.list ds).shown.length ≤ sizeLine) : EvD Γ (tCB (rRepr K) (tCons (tVar i) tNil)) σ G (.str (PyData.list ds).shown) := fun G1 H1 a b Q q => by
  have kn := Own.know b.i (b.o _ hm)
  have d : Da H1 (.ref l) (.list ds) := (Da.lst upd_same ((hx.mono a).mono kn.2) : Da (upd G1 l (.lst xs)) (.ref l) (.list ds)).mono kn.1
  exact ⟨_, hi, .ref l, .list ds, rfl, d.dp K, hs, hn, hdp, hz, .inl ⟨l, rfl⟩, q _ G1 H1 (Stp.refl b.i) (.str _)⟩
theorem e_reprB {b : Bool} (h : EvD Γ ta σ G (.bool b)) : EvD Γ (tCB (rRepr K) (tCons ta tNil)) σ G (.str (PyData.bool b).shown) := e_repr h rfl rfl (by cases b <;> decide) (by cases b <;> decide) (.inr (.inr ⟨b, rfl⟩))
end
theorem nats_show {L : List Nat} (h : ∀ x ∈ L, x < 4) (hl : L.length ≤ 4) : (PyData.list (L.map natD)).showable = true ∧ (PyData.list (L.map natD)).hasDict = false ∧ (PyData.list (L.map natD)).depth ≤ 64 ∧ (PyData.list (L.map natD)).shown.length ≤ sizeLine := by
  have k : PyData.showableAll (L.map natD) = true ∧ PyData.hasDictAll (L.map natD) = false ∧ PyData.depthAll (L.map natD) = 0 ∧ PyData.leavesShortAll 13 (L.map natD) = true ∧ PyData.weightAll (L.map natD) ≤ 3 * L.length := by
    clear hl
    induction L with
    | nil => exact ⟨rfl, rfl, rfl, rfl, by simp [PyData.weightAll]⟩
    | cons x L ih =>
      obtain ⟨i1, i2, i3, i4, i5⟩ := ih fun y hy => h y (by simp [hy])
      have hx : x < 4 := h x (by simp)
      have hx4 : x = 0 ∨ x = 1 ∨ x = 2 ∨ x = 3 := by omega
      have w : (natD x).weight ≤ 2 ∧ (natD x).showable = true ∧ (natD x).leavesShort 13 = true := by
        rcases hx4 with rfl | rfl | rfl | rfl <;> decide
      simp only [List.map_cons, PyData.showableAll, PyData.hasDictAll, PyData.depthAll, PyData.leavesShortAll, PyData.weightAll, List.length_cons, Bool.and_eq_true, i1, i2, i3, i4, w.2.1, w.2.2]
      refine ⟨⟨trivial, trivial⟩, rfl, rfl, ⟨trivial, trivial⟩, by omega⟩
  obtain ⟨k1, k2, k3, k4, k5⟩ := k
  refine ⟨by simp only [PyData.showable]; exact k1, by simp only [PyData.hasDict]; exact k2, by simp only [PyData.depth]; omega, ?_⟩
  have hb := PyData.shown_le 13 (by decide) (PyData.list (L.map natD)) (by simp only [PyData.leavesShort]; exact k4)
  have hw : (PyData.list (L.map natD)).weight ≤ 12 := by simp only [PyData.weight]; omega
  have : (13 + 2) * (PyData.list (L.map natD)).weight ≤ 15 * 12 := Nat.mul_le_mul (by decide) hw
  exact Nat.le_trans hb (Nat.le_trans (show _ ≤ 1000 by omega) (by decide))
theorem take_get {n : Nat} {B : Tab} {i : Nat} (hi : i < n) : (B.take n).getD i [] = B.getD i [] := by
  rw [List.getD_eq_getElem?_getD, List.getElem?_take_of_lt hi, ← List.getD_eq_getElem?_getD]
theorem Ok.top {n : Nat} {B : Tab} (h : Ok n B) : Ok n (B.take n) := by
  obtain ⟨w, wp, ws⟩ := h.sk
  refine ⟨h.bd.top.bd h.bd.pos h.bd.most, ⟨w, wp, fun i j hi hj => ?_⟩, fun i j hi hj => ?_⟩
  · rw [cell_top hi, cell_top hj]
    exact ws i j hi hj
  · rw [cell_top hi]
    exact h.sm i j hi hj
theorem dirIt_eq (B : Tab) (n : Nat) : ∀ i, drIt B n i = drI (posT B) n i
  | 0 => rfl
  | i + 1 => by
    show drStep B (drIt B n i) = drS (posT B) (drI (posT B) n i)
    rw [dirIt_eq B n i]
    rfl
theorem dirI_top {B : Tab} {n : Nat} : ∀ i, drI (posT B) n i = drI (posT (B.take n)) n i
  | 0 => rfl
  | i + 1 => by
    have ih := dirI_top (B := B) (n := n) i
    have hlt : ∀ p ∈ drI (posT (B.take n)) n i, p < n := by
      rw [← ih, ← dirIt_eq]
      exact drIt_sub B n i
    show drS (posT B) (drI (posT B) n i) = drS (posT (B.take n)) (drI (posT (B.take n)) n i)
    rw [ih]
    unfold drS
    apply List.filter_congr
    intro p hp
    congr 1
    apply List.map_congr_left
    intro o _
    unfold posT
    rw [cell_top (hlt p hp)]
theorem dir_top {n : Nat} {B : Tab} (h : Ok n B) : dirRound n B = goesR n (posT (B.take n)) := by
  have e : dirRound n B = dirR n (posT (B.take n)) := by
    unfold dirRound dirR
    rw [dirIt_eq, dirI_top]
  rw [e]
  exact round_tab h.bd.pos h.bd.most h.bd.top h.top.sk
def dueP (x : List Int × Nat) : Bool := (x.1.filter fun e => decide (e < 0)).isEmpty
theorem due_eq {n : Nat} {B : Tab} (h : Bd n B) : (((B.take n).zipIdx.filter dueP).map fun x => natD x.2) = (srcL n B).map natD := by
  have e1 : (B.take n).zipIdx = (List.range n).map fun i => (B.getD i [], i) := by
    apply List.ext_getElem?
    intro i
    rw [List.getElem?_zipIdx, List.getElem?_map]
    by_cases hi : i < n
    · obtain ⟨r, e, _⟩ := h.get hi
      rw [List.getElem?_take_of_lt hi, e, List.getElem?_range hi]
      show some (r, 0 + i) = some (B.getD i [], i)
      rw [getD_of e, Nat.zero_add]
    · rw [List.getElem?_eq_none (by rw [List.length_take]; omega), List.getElem?_eq_none (by rw [List.length_range]; omega)]
      rfl
  rw [e1, List.filter_map, List.map_map]
  unfold srcL
  have e2 : (fun p => ((B.getD p []).map fun x => decide (0 ≤ x)).all id) = (dueP ∘ fun i => (B.getD i [], i)) := by
    funext p
    show _ = (((B.getD p []).filter fun e => decide (e < 0)).isEmpty)
    generalize B.getD p [] = r
    induction r with
    | nil => rfl
    | cons x r ih =>
      by_cases hx : x < 0
      · have : ¬ 0 ≤ x := by omega
        simp [hx, this]
      · have h2 : 0 ≤ x := by omega
        rw [List.filter_cons_of_neg (by simpa using hx), ← ih]
        simp [h2]
  rw [e2]
  rfl
section
variable {K : PySem.W.Frag} {Γ : List (Addr × HO)} {σ : L2.St} {G : Hp} {l : Addr} {xs : List V}
theorem b_isL {i : Nat} (hm : (l, HO.lst xs) ∈ Γ) (hi : σ[i]? = some (some (.ref l))) : EvB Γ (tB (tCB (rIsi K) (tCons (tVar i) (tCons (tC (.ty "list")) tNil)))) σ G true := fun G1 H1 a b Q q =>
  ⟨_, hi, .ref l, .ty "list", .type "list", .type "list", true, rfl, .ty _, .base (.lst (b.o _ hm).2), kit_ty (by decide +kernel), true, rfl, q G1 H1 (Stp.refl b.i)⟩
end
abbrev sp__law_looks_right : Sp := SpF (fun a : AB => [tD a.B]) (fun a => Ok a.n a.B) (fun _ => .bool true)
theorem cal__law_looks_right {P : Program} {w : World} {K : PySem.W.Frag} {mg : Str → Option Value} {base : Heap} (B : Blt mg) (D : FD K mg "_law_looks_right" st__law_looks_right) (c_sources : CalG P w K mg base 5 "sources" sp_sources) (c_is_tree : CalG P w K mg base 5 "is_tree" sp_is_tree) (c__law_is_tree : CalG P w K mg base 1 "_law_is_tree" sp__law_is_tree) (c__law_goes_round : CalG P w K mg base 1 "_law_goes_round" sp__law_goes_round) (c_directed_round : CalG P w K mg base 5 "directed_round" sp_directed_round) (k_directed_round : CalK P w K mg base 5 "directed_round" ["board"] gV_directed_round sp_directed_round) (k_is_tree : CalK P w K mg base 5 "is_tree" ["board"] gV_is_tree sp_is_tree) (k_sources : CalK P w K mg base 5 "sources" ["board"] gV_sources sp_sources) :
    CalG P w K mg base 6 "_law_looks_right" sp__law_looks_right := by
  obtain ⟨f, fd, F, hdf⟩ := D.ex
  refine calG0 (N := N__law_looks_right) F (F.fn.binds hdf fun _ _ _ _ _ _ us hl => match us, hl with | [_], _ => rfl) sc__law_looks_right (fun vs H Q E h => ?_) fun cdv A outer s H vs Q E hgu hr h => ⟨_, (pss_cons (ps_set (i := 1) nd__law_looks_right rfl (Or.inl rfl) (pe_slice (r := rSlA K) sl_tupA (pv 0) po_none (po_some (pe_callB (r := rLen K) c_len (by rfl) B.len bt_len (pa_cons (pe_ix (r := rIxT K) ix_tup (pv 0) pe_int (fun _ _ => rfl)) pa_nil)))))
 (pss_cons (ps_for PassesOwn.never rfl (pi_range1 (by rfl) B.range (pa_cons pe_int pa_nil)) (pg_name (i := 2) nd__law_looks_right rfl (Or.inl rfl)) (pss_cons (ps_set (i := 3) nd__law_looks_right rfl (Or.inl rfl) (pe_ifExp (pt_cmpR op_eq (pv 2) pe_int (nomark _)) (pe_ck k_sources hgu hr (by decide) (by rfl) (pk_cons (pv 0) pk_nil)) (pe_cg c_sources hgu hr (by decide) (by rfl) (pa_cons (pv 0) pa_nil))))
 (pss_cons (ps_setLc (i := 4) (own := [("_law_at", 5), ("_law_line", 6)]) rfl nd__law_looks_right rfl rfl (sw_true rfl rfl rfl (by kernel_rfl)) (pi_enumTK (K := K) rfl (by rfl) B.enumerate (pa_cons (pv 1) pa_nil)) (blkOk_by (by kernel_rfl)) (fun _ _ _ _ _ => (pg_tupK (K := K) (n := 2) rfl rfl (pgs_cons (pg_name (i := 5) nd__law_looks_right rfl (Or.inl rfl)) (pgs_cons (pg_name (i := 6) nd__law_looks_right rfl (Or.inl rfl)) pgs_nil)))) (fun _ _ _ _ _ => (pts_one (pt_cmpR (r := rEqD K) (op_eqD hr.units) (pe_lc (own := [("_law_entry", 7)]) rfl nd__law_looks_right (pi_tupK (K := K) rfl (pv 6)) (blkOk_by (by kernel_rfl)) (fun _ _ _ _ _ => (pg_name (i := 7) nd__law_looks_right rfl (Or.inl rfl))) (fun _ _ _ _ _ => (pts_one (pt_cmpR op_lt (pv 7) pe_int (nomark _)))) (fun _ _ _ _ _ => (pv 7))) (pe_lst pa_nil) (nomark _)))) (fun _ _ _ _ _ => (pv 5)))
 (pss_cons (ps_if (PW.pt (pw_or (pt_not (pt_val (pe_callB (r := rIsi K) call_isi (by rfl) B.isinstance bt_isinstance (pa_cons (pv 3) (pa_cons (pe_bltn (v := .ty "list") (by rfl) B.list bt_list rfl) pa_nil))))) (pw_or1 (pt_cmpR op_ne (pe_callB (r := rRepr K) (c_repr hgu hr.u200) (by rfl) B.repr bt_repr (pa_cons (pv 3) pa_nil)) (pe_callB (r := rRepr K) (c_repr hgu hr.u200) (by rfl) B.repr bt_repr (pa_cons (pv 4) pa_nil)) (nomark _))))) (pss_one (ps_ret pe_bl)) pss_nil)
 (pss_one (ps_expr (pe_bm PySem.F.plainAttrs_list PySem.F.slot_list_append PySem.F.type_list_append mt_append (pv 3) (pa_cons pe_str pa_nil))))))))
 (pss_cons (ps_if (PW.pt (pw_or (pt_cmpR op_ne (pe_callB (r := rRepr K) (c_repr hgu hr.u200) (by rfl) B.repr bt_repr (pa_cons (pe_ck k_is_tree hgu hr (by decide) (by rfl) (pk_cons (pv 0) pk_nil)) pa_nil)) (pe_callB (r := rRepr K) (c_repr hgu hr.u200) (by rfl) B.repr bt_repr (pa_cons (pe_cg c__law_is_tree hgu hr (by decide) (by rfl) (pa_cons (pv 1) pa_nil)) pa_nil)) (nomark _)) (pw_or1 (pt_cmpR op_ne (pe_callB (r := rRepr K) (c_repr hgu hr.u200) (by rfl) B.repr bt_repr (pa_cons (pe_cg c_is_tree hgu hr (by decide) (by rfl) (pa_cons (pv 0) pa_nil)) pa_nil)) (pe_callB (r := rRepr K) (c_repr hgu hr.u200) (by rfl) B.repr bt_repr (pa_cons (pe_cg c__law_is_tree hgu hr (by decide) (by rfl) (pa_cons (pv 1) pa_nil)) pa_nil)) (nomark _))))) (pss_one (ps_ret pe_bl)) pss_nil)
 (pss_cons (ps_set (i := 4) nd__law_looks_right rfl (Or.inl rfl) (pe_callB (r := rRepr K) (c_repr hgu hr.u200) (by rfl) B.repr bt_repr (pa_cons (pe_cg c__law_goes_round hgu hr (by decide) (by rfl) (pa_cons (pv 1) pa_nil)) pa_nil)))
 (pss_one (ps_ret (pe_and (pe_cmpR op_eq (pe_callB (r := rRepr K) (c_repr hgu hr.u200) (by rfl) B.repr bt_repr (pa_cons (pe_ck k_directed_round hgu hr (by decide) (by rfl) (pk_cons (pv 0) pk_nil)) pa_nil)) (pv 4) (nomark _)) (pe_one (pe_cmpR op_eq (pe_callB (r := rRepr K) (c_repr hgu hr.u200) (by rfl) B.repr bt_repr (pa_cons (pe_cg c_directed_round hgu hr (by decide) (by rfl) (pa_cons (pv 1) pa_nil)) pa_nil)) (pv 4) (nomark _)))))))))), ?_⟩
  · exact h.ln fun _ => rfl
  · obtain ⟨⟨B, n⟩, G, gh, dv, ok, q⟩ := h
    have ok : Ok n B := ok
    have hb := ok.bd
    have h1 := hb.pos
    have h4 := hb.most
    obtain ⟨vB, rfl, dB⟩ := (show Das G vs [tD B] from dv).inv1
    have okT := ok.top
    have sqT : Sq n (B.take n) := hb.top
    have tt : (B.take n).take n = B.take n := by rw [List.take_take, Nat.min_self]
    have sh := nats_show (L := srcL n B) (fun x hx => by have := List.mem_range.mp (List.mem_filter.mp hx).1; omega) (by
      have := List.length_filter_le (fun p => ((B.getD p []).map fun x => decide (0 ≤ x)).all id) (List.range n)
      rw [List.length_range] at this
      unfold srcL
      omega)
    obtain ⟨z1, z2, z3, z4⟩ := sh
    have eT : progTree n (adjT (B.take n)) = lawTree n (adjT (B.take n)) := tree_tab h1 h4 sqT okT.sk
    have eR1 : dirRound n B = goesR n (posT (B.take n)) := dir_top ok
    have eR2 : dirRound n (B.take n) = goesR n (posT (B.take n)) := by
      have z := dir_top okT
      rwa [tt] at z
    refine q_asg (Cn.nil gh) ((e_slT (n := n) (e_var rfl dB) (o_some (e_row0 hb (e_var rfl dB)))).eq (d' := tD (B.take n)) (by unfold tD; rw [List.map_take])) fun vL G1 H1 s1 dL => ?_
    have dB1 := s1.da dB
    refine q_for (List.range 2) natD (Cn.nil s1.i) (i_rng (a_cons e_int a_nil) (by decide)) (fun G5 _ i σ' G' H' => Same G5 G' ∧ ∃ (y2 y3 y4 y5 y6 y7 : Option V), σ' = [some vB, some vL, y2, y3, y4, y5, y6, y7] ∧ Stp [] G1 H1 G' H')
      (fun G5 H5 s5 => ⟨Same.refl _, _, _, _, _, _, _, rfl, s5⟩) (fun _ _ _ _ _ _ ⟨h, _, _, _, _, _, _, _, s⟩ => ⟨h, s.i⟩) (fun G5 H5 i a σ' G' H' x G6 H6 s5 eo ⟨sg, y2, y3, y4, y5, y6, y7, hσ, st⟩ s6 dx => ?_) (fun G5 H5 σ' G' H' s5 ⟨sg, y2, y3, y4, y5, y6, y7, hσ, st⟩ => ?_)
    · subst hσ
      cases dx.inv_int
      have dB6 : Da G6 vB (tD B) := (dB1.mono st.g).mono s6.g
      have dL6 : Da G6 vL (tD (B.take n)) := (dL.mono st.g).mono s6.g
      refine q_asgL (Cn.nil s6.i) (l_if (b := decide ((a : Int) = 0)) (b_test (e_eqI (e_var rfl (.int _)) e_int)) (fun _ => l_ck (⟨B, n⟩ : AB) (a_cons (e_var rfl dB6) a_nil) (fun _ _ h => h) ok) (fun _ => l_cg (⟨B, n⟩ : AB) (a_cons (e_var rfl dB6) a_nil) ok)) fun l xs G7 H7 s7 hl o7 dx7 => ?_
      have dx7 : Das G7 xs ((srcL n B).map natD) := dx7
      have dL7 := s7.da dL6
      refine q_asg (d := .list ((srcL n B).map natD)) (Cn.one s7.i o7) ((l_lcP (i := 5) (j := 6) ((B.take n).zipIdx) (fun x => natD x.2) (fun x => rD x.1) dueP (fun x => natD x.2) (i_enum (B.take n) rD (e_var rfl dL7)) (small (by rw [List.length_zipIdx, List.length_take]; omega)) (fun _ _ => rfl) fun x G3 u w hx e3 du dw => ?_).eq (due_eq hb)).toD fun vD G8 H8 s8 dD => ?_
      · refine ⟨b_test ((e_eqD ((l_lcN (j := 7) x.1 PyData.int (fun e => decide (e < 0)) PyData.int (i_tup (e_var rfl dw)) ?_ (fun _ => rfl) fun e G4 y he e4 dy => ?_).toD) ((l_lst a_nil (by decide)).toD) (shaped_ints (fun e => e) _) rfl).eq (by rw [eqv_nil_list, List.isEmpty_map]; rfl)), fun _ => e_var rfl du⟩
        · obtain ⟨k, ek⟩ := List.mem_iff_getElem?.mp (List.mem_of_getElem? (l := B.take n) (i := x.2) (by
            have z := List.mem_zipIdx hx
            simpa using (List.mem_zipIdx_iff_getElem?.mp hx)))
          exact small (by have := sqT.rows _ (List.mem_of_getElem? ek); omega)
        · cases dy.inv_int
          exact ⟨b_test (e_B0 (f := fun i j => decide (i < j)) (e_var rfl (.int _)) e_int), fun _ => e_var rfl (.int _)⟩
      · have o8 := s8.own o7
        have dx8 := dx7.mono s8.g
        refine q_when (b := false) (Cn.one s8.i o8) ((b_or (p := false) (k := false) ((b_not (b_isL (l := l) (xs := xs) (by simp) rfl)).eq rfl) fun _ => (b_test (e_neS (e_reprO (l := l) (xs := xs) (by simp) rfl dx8 z1 z2 z3 z4) (e_repr (e_var rfl dD) z1 z2 z3 z4 (.inl ⟨_, rfl⟩)))).eq (by simp)).eq rfl) (fun hh => by cases hh) fun _ G9 H9 s9 => ?_
        have o9 := s9.own o8
        refine s_app (Cn.one s9.i o9) rfl o9 e_str (small (by rw [dx7.length, List.length_map]; have := List.length_filter_le (fun p => ((B.getD p []).map fun x => decide (0 ≤ x)).all id) (List.range n); rw [List.length_range] at this; unfold srcL; omega)) fun v GA HA sA dv stA oA => ⟨GA, sg.trans (s6.g.trans (s7.g.trans (s8.g.trans (s9.g.trans sA.g)))), _, _, _, _, _, _, rfl, ?_⟩
        refine (st.trans (s6.trans (s7.trans (s8.trans s9)))).comp stA fun c hc => ?_
        have z : c = l := by simpa using hc
        rw [z]
        exact .inr ((st.trans s6).free hl)
    · subst hσ
      have dB2 : Da G' vB (tD B) := dB1.mono st.g
      have dL2 : Da G' vL (tD (B.take n)) := dL.mono st.g
      have lawT : ∀ {Γ : List (Addr × HO)} {σ : L2.St} {G0 : Hp}, σ[1]? = some (some vL) → Same G' G0 → EvD Γ (tCallG sp__law_is_tree (tCons (tVar 1) tNil)) σ G0 (.bool (lawTree n (adjT (B.take n)))) := fun hi e => e_cg (args := fun a : AT => [tD a.T]) (pre := fun a => Sq a.n a.T ∧ 1 ≤ a.n ∧ a.n ≤ 4) (res := fun a => .bool (lawTree a.n (adjT a.T))) (⟨B.take n, n⟩ : AT) (a_cons (e_var hi (dL2.mono e)) a_nil) ⟨sqT, h1, h4⟩
      refine q_when (b := false) (Cn.nil st.i) ((b_or (p := false) (k := false) ((b_test (e_neS (e_reprB ((e_ck (args := fun a : AB => [tD a.B]) (pre := fun a => Ok a.n a.B) (res := fun a => .bool (progTree a.n (adjT (a.B.take a.n)))) (⟨B, n⟩ : AB) (a_cons (e_var rfl dB2) a_nil) (fun _ _ h => h) ok).eq (congrArg PyData.bool eT))) (e_reprB (lawT rfl (Same.refl _))))).eq (by simp))
        fun _ => (b_test (e_neS (e_reprB ((e_cg (args := fun a : AB => [tD a.B]) (pre := fun a => Ok a.n a.B) (res := fun a => .bool (progTree a.n (adjT (a.B.take a.n)))) (⟨B, n⟩ : AB) (a_cons (e_var rfl dB2) a_nil) ok).eq (congrArg PyData.bool eT))) (e_reprB (lawT rfl (Same.refl _))))).eq (by simp)).eq rfl) (fun hh => by cases hh) fun _ G9 H9 s9 => ?_
      refine q_asg (Cn.nil s9.i) (e_reprB (e_cg (args := fun a : AT => [tD a.T]) (pre := fun a => Sq a.n a.T ∧ 1 ≤ a.n ∧ a.n ≤ 4) (res := fun a => .bool (goesR a.n (posT a.T))) (⟨B.take n, n⟩ : AT) (a_cons (e_var rfl (s9.da dL2)) a_nil) ⟨sqT, h1, h4⟩)) fun vR GA HA sA dR => ?_
      have dBA := sA.da (s9.da dB2)
      have dLA := sA.da (s9.da dL2)
      refine s_ret (Cn.nil sA.i) ((e_andV (p := true) (k := true) ((e_eqS (e_reprB ((e_ck (args := fun a : AB => [tD a.B]) (pre := fun a => Ok a.n a.B) (res := fun a => .bool (dirRound a.n a.B)) (⟨B, n⟩ : AB) (a_cons (e_var rfl dBA) a_nil) (fun _ _ h => h) ok).eq (congrArg PyData.bool eR1))) (e_var rfl dR)).eq (by simp))
        fun _ => (e_eqS (e_reprB ((e_cg (args := fun a : AB => [tD a.B]) (pre := fun a => Ok a.n a.B) (res := fun a => .bool (dirRound a.n a.B)) (⟨B.take n, n⟩ : AB) (a_cons (e_var rfl dLA) a_nil) okT).eq (congrArg PyData.bool eR2))) (e_var rfl dR)).eq (by simp)).eq rfl) fun v GB HB sB dv => q v GB HB (s1.trans (st.trans (s9.trans (sA.trans sB)))) dv
end N41
/-! W24: what is right. -/
namespace N41
open PySem PySem.Spec PyProof.Rows L2
abbrev gV_row_to_board : List V → List V := fun zs => match zs with
  | [m, o, a] => [a, o, m]
  | _ => []
abbrev gV_row_to_tree : List V → List V := fun zs => match zs with
  | [m, b] => [b, m]
  | _ => []
theorem nat_lay : ∀ r : List Nat, PyData.canLayAll0 (r.map natD) = true ∧ PyData.depthAll (r.map natD) = 0
  | [] => ⟨rfl, rfl⟩
  | x :: r => by
    obtain ⟨a, b⟩ := nat_lay r
    have e1 : (natD x).canLay0 = true := rfl
    have e2 : (natD x).depth = 0 := rfl
    simp [PyData.canLayAll0, PyData.depthAll, a, b, e1, e2]
theorem row_lay (r : List Nat) : (Prm.rowD r).canLay0 = true ∧ (Prm.rowD r).depth ≤ 1 := by
  obtain ⟨a, b⟩ := nat_lay r
  unfold Prm.rowD
  simp [PyData.canLay0, PyData.depth, a, b]
theorem rows_lay : ∀ L : List (List Nat × Tab), PyData.canLayAll0 (L.map fun x => Prm.rowD x.1) = true ∧ PyData.depthAll (L.map fun x => Prm.rowD x.1) ≤ 1
  | [] => ⟨rfl, Nat.zero_le _⟩
  | x :: L => by
    obtain ⟨a, b⟩ := rows_lay L
    obtain ⟨c, d⟩ := row_lay x.1
    refine ⟨?_, ?_⟩
    · simp [PyData.canLayAll0, a, c]
    · simp only [List.map_cons, PyData.depthAll]
      omega
theorem shaped_rows (L : List (List Nat × Tab)) : SeqAt.shaped (.list (L.map fun x => Prm.rowD x.1)) = true := by
  obtain ⟨a, b⟩ := rows_lay L
  unfold SeqAt.shaped
  rw [Bool.and_eq_true, decide_eq_true_eq]
  refine ⟨by simp only [PyData.canLay0]; exact a, by simp only [PyData.depth]; omega⟩
theorem shaped_opt (o : Option (List Nat × Tab)) : SeqAt.shaped (optRow o) = true := by
  cases o with
  | none => rfl
  | some x =>
    obtain ⟨c, d⟩ := row_lay x.1
    unfold SeqAt.shaped
    rw [Bool.and_eq_true, decide_eq_true_eq]
    exact ⟨c, Nat.le_trans d (by decide)⟩
theorem eqv_opt (o : Option (List Nat × Tab)) : PyData.eqv (optRow o) (optRow o) = true := PySem.SeqAt.eqv_refl _ (PySem.SeqAt.canLay_of_shaped (shaped_opt o))
theorem like_self {n : Nat} {T : Tab} (h1 : 1 ≤ n) (h4 : n ≤ 4) (r : List Nat) : likeF n (leastD n T) (r, T) = true := by
  obtain ⟨S, _, e⟩ := leastD_tab h1 h4 T
  show PyData.eqv (leastD n T) (leastD n T) = true
  rw [e]
  exact PySem.SeqAt.eqv_refl _ (PySem.SeqAt.canLay_of_shaped (shaped_tD S))
theorem ok_of {n : Nat} {T M : Tab} (h1 : 1 ≤ n) (h4 : n ≤ 4) (sq : Sq n T) (sk : Skw n T) (le : LeE 4 T) (hM : Rows n M) (hl : M.length ≤ 90) : Ok n (T ++ M) := by
  have tk : (T ++ M).take n = T := by rw [← sq.len, List.take_left]
  have ec : ∀ i j, i < n → cell (T ++ M) i j = cell T i j := fun i j hi => by rw [← cell_top hi, tk]
  refine ⟨⟨h1, h4, by rw [List.length_append, sq.len]; omega, by rw [List.length_append, sq.len]; omega, fun r hr => ?_⟩, ?_, fun i j hi hj => ?_⟩
  · rcases List.mem_append.mp hr with h | h
    · exact sq.rows r h
    · exact hM r h
  · obtain ⟨w, wp, ws⟩ := sk
    refine ⟨w, wp, fun i j hi hj => ?_⟩
    rw [ec i j hi, ec j i hj]
    exact ws i j hi hj
  · rw [ec i j hi]
    exact leC_of le i j hi hj
theorem take_app {n : Nat} {T M : Tab} (sq : Sq n T) : (T ++ M).take n = T := by rw [← sq.len, List.take_left]
theorem LeE.up {m k : Nat} {T : Tab} (h : LeE m T) (hk : m ≤ k) : LeE k T := fun r hr x hx => Nat.le_trans (h r hr x hx) hk
section
variable {K : PySem.W.Frag} {Γ : List (Addr × HO)} {σ : L2.St} {G H : Hp} {ta tb : TE} {t u : TT} {tu tz : TS} {l : Addr} {c : Nat} {D : Ends}
theorem b_isT {i : Nat} {v : V} {ds : List PyData} (hi : σ[i]? = some (some v)) (dv : Da G v (.tuple ds)) : EvB Γ (tB (tCB (rIsi K) (tCons (tVar i) (tCons (tC (.ty "tuple")) tNil)))) σ G true := fun G1 H1 a b Q q => by
  obtain ⟨p, xs, rfl, hp, _⟩ := (dv.mono a).inv_tup
  exact ⟨_, hi, .ref p, .ty "tuple", .type "tuple", .type "tuple", true, rfl, .ty _, .base (.tup (b.i _ _ hp)), kit_ty (by decide +kernel), true, rfl, q G1 H1 (Stp.refl b.i)⟩
theorem e_due {i : Nat} {v : V} {L : List (List Nat × Tab)} {p : List Nat × Tab → Bool} (hi : σ[i]? = some (some v)) (dv : Da G v (.list ((L.filter p).map fun x => Prm.rowD x.1))) :
    EvD Γ (tIf (tTest (tOp (rNeD K) (tVar i) (tLst tNil))) (tOp (rIxL K) (tVar i) (tC (.int 0))) (tC .non)) σ G (optRow (L.find? p)) := by
  refine e_if (b := !(L.filter p).isEmpty) ((b_test (e_neD (e_var hi dv) ((l_lst a_nil (by decide)).toD) (shaped_rows _) rfl)).eq (by rw [eqv_nil_list, List.isEmpty_map])) (fun hh => ?_) fun hh => ?_
  · rw [← List.head?_filter]
    cases hL : L.filter p with
    | nil => rw [hL] at hh; cases hh
    | cons x R =>
      rw [hL] at dv
      exact e_ixL (j := 0) (e_var hi dv) e_int rfl
  · rw [← List.head?_filter]
    have : L.filter p = [] := by simpa using hh
    rw [this]
    exact e_non
theorem b_told {i j : Nat} {v w : V} {L : List (List Nat × Tab)} {p : List Nat × Tab → Bool} (hi : σ[i]? = some (some v)) (dv : Da G v (.list ((L.filter p).map fun x => Prm.rowD x.1))) (hj : σ[j]? = some (some w)) (dw : Da G w (optRow (L.find? p))) :
    EvB Γ (tOr (tTest (tOp (rNeD K) (tVar j) (tIf (tTest (tOp (rNeD K) (tVar i) (tLst tNil))) (tOp (rIxL K) (tVar i) (tC (.int 0))) (tC .non)))) (tAnd (tTest (tOp rNotN (tVar j) (tC .non))) (tNot (tB (tCB (rIsi K) (tCons (tVar j) (tCons (tC (.ty "tuple")) tNil))))))) σ G false := by
  show EvB _ _ _ _ (false || false)
  refine b_or ?_ fun _ => ?_
  · exact (b_test (e_neD (e_var hj dw) (e_due hi dv) (shaped_opt _) (shaped_opt _))).eq (by rw [eqv_opt]; rfl)
  · cases hf : L.find? p with
    | none =>
      rw [hf] at dw
      show EvB _ _ _ _ (false && false)
      refine b_and ?_ (fun z => by cases z)
      exact (b_test (e_notN (e_var hj dw))).eq rfl
    | some x =>
      rw [hf] at dw
      show EvB _ _ _ _ (true && false)
      refine b_and ?_ fun _ => ?_
      · exact (b_test (e_notN (e_var hj dw))).eq rfl
      · exact (b_not (b_isT hj dw)).eq rfl
/-- a test whose answer nobody knows -/
def EvU (Γ : List (Addr × HO)) (t : TT) (σ : L2.St) (G : Hp) : Prop := ∀ G1 H1, Same G G1 → Cn Γ G1 H1 → ∀ Q : Bool → Hp → Prop, (∀ b G2 H2, Stp [] G1 H1 G2 H2 → Q b H2) → t σ H1 Q
theorem u_and {p : Bool} (h1 : EvB Γ t σ G p) (h2 : p = true → EvU Γ u σ G) : EvU Γ (tAnd t u) σ G := fun G1 H1 a c Q q => h1 G1 H1 a c _ fun G2 H2 s => by
  cases p with
  | true => exact iteT (h2 rfl G2 H2 (a.trans s.g) (c.up s) _ fun b G3 H3 s3 => q b G3 H3 (s.trans s3))
  | false => exact iteF (q false G2 H2 s)
theorem u_notN {p : PyData → Prop} (h : EvS Γ ta σ G p) : EvU Γ (tTest (tOp rNotN ta (tC .non))) σ G := fun G1 H1 a c Q q => h G1 H1 a c _ fun d v G2 H2 _ s dv => ⟨rfl, _, rfl, q _ G2 H2 s⟩
theorem q_whenU (J : L2.St → Hp → Hp → Prop) (c : Cn Γ G H) (h : EvU Γ t σ G) (h1 : ∀ G2 H2 (N : L2.St → Hp → Prop), Stp [] G H G2 H2 → (∀ σ' G' H', J σ' G' H' → N σ' H') → tu { D with nx := N } σ H2) (h2 : ∀ G2 H2, Stp [] G H G2 H2 → J σ G2 H2) (k : ∀ σ' G' H', J σ' G' H' → tz D σ' H') : tSeq (tIfS t tu tNext) tz D σ H := h G H (Same.refl _) c _ fun b G2 H2 s => by
  cases b with
  | true => exact iteT (h1 G2 H2 _ s k)
  | false => exact iteF (k _ _ _ (h2 G2 H2 s))
theorem pair_ok {i j : Nat} {x y : V} {Q : L2.St → Hp → Prop} (k : ∀ p, H p = none → Q ((σ.set i (some x)).set j (some y)) (upd H p (.tup [x, y]))) : [x, y].length ≤ sizeLine ∧ ∀ p, H p = none → gTup K 2 (gCons (gName i) (gCons (gName j) gNil)) (.ref p) σ (upd H p (.tup [x, y])) Q :=
  ⟨slack (by simp), fun p hp => ⟨p, [x, y], rfl, SqT.of upd_same, rfl, x, [y], rfl, y, [], rfl, rfl, k p hp⟩⟩
theorem r_nx (h : tz D σ H) : ({ D with nx := tz D } : Ends).nx σ H := h
theorem r_call {sp : Sp} {ar : TA} {Q : VK} (h : ar σ H fun vs H1 => sp vs H1 Q EN) : tCallG sp ar σ H Q := h
theorem r_cons {ar : TA} {Q : List V → Hp → Prop} (h : ta σ H fun x H1 => ar σ H1 fun xs H2 => Q (x :: xs) H2) : tCons ta ar σ H Q := h
/-- T + marks -/
theorem r_marks {i n lim : Nat} {vT : V} {T : Tab} {Q : VK} (cn : Cn Γ G H) (h0 : σ[0]? = some (some (.ref l))) (hi : σ[i]? = some (some vT)) (dT : Da G vT (tD T)) (sq : Sq n T) (h4 : n ≤ 4) (hlim : lim ≤ 10) (dk : Dk G H l c) (hc : c ≤ 900000)
    (k : ∀ (v : V) (M : Tab) (c' : Nat) G2 H2, Rows n M → M.length ≤ lim → c ≤ c' → c' ≤ c + 100 → Stp [l] G H G2 H2 → Da G2 v (tD (T ++ M)) → Dk G2 H2 l c' → Q v H2) :
    tOp (rCatA K) (tVar i) (tCallG sp__law_marks (tCons (tVar 0) (tCons (tCB (rLen K) (tCons (tVar i) tNil)) (tCons (tC (.int (lim : Int))) tNil)))) σ H Q := by
  have hlT : (T.map rD).length = n := by rw [List.length_map, sq.len]
  refine ⟨_, hi, _, h0, ?_⟩
  refine e_lenT (K := K) (e_var hi dT) hlT G H (Same.refl _) cn _ fun v1 G1 H1 s1 d1 => ?_
  cases d1.inv_int
  refine ⟨l, n, lim, c, G1, rfl, s1.i, dk.up s1, hc, h4, hlim, fun v M c' G2 H2 hM hMl a1 a2 s2 dM dk2 => ?_⟩
  have dT2 := (s1.da dT).mono s2.g
  obtain ⟨p, xs, rfl, hp, hs⟩ := dT2.inv_tup
  obtain ⟨p', ys, rfl, hp', hs'⟩ := dM.inv_tup
  have s12 : Stp [l] G H G2 H2 := s1.of0.trans s2
  have em : tD (T ++ M) = .tuple (T.map rD ++ M.map rD) := by unfold tD; rw [List.map_append]
  refine ⟨p, p', xs, ys, rfl, rfl, SqT.of (s2.i _ _ hp), SqT.of (s2.i _ _ hp'), slack (by rw [hs.length, hs'.length, hlT, List.length_map]; omega), fun z => ?_, fun _ z => ?_, fun _ _ q hq => ?_⟩
  · subst z
    have e0 : T.map rD = [] := by cases h : T.map rD with
      | nil => rfl
      | cons a b => rw [h] at hs; cases hs
    exact k _ M c' G2 H2 hM hMl a1 a2 s12 (by rw [em, e0]; exact .tup hp' hs') dk2
  · subst z
    have e0 : M.map rD = [] := by cases h : M.map rD with
      | nil => rfl
      | cons a b => rw [h] at hs'; cases hs'
    exact k _ M c' G2 H2 hM hMl a1 a2 s12 (by rw [em, e0, List.append_nil]; exact .tup hp hs) dk2
  · have s3 := Stp.new (m := []) (o := .tup (xs ++ ys)) s2.i hq
    exact k _ M c' _ _ hM hMl a1 a2 (s12.up s3) (by rw [em]; exact .tup upd_same ((hs.append hs').mono s3.g)) (dk2.up s3)
end
theorem rows_node {n most : Nat} {T : Tab} (sq : Sq n T) (sk : Skw n T) (le : LeE 2 T) : ∀ x ∈ rowsF n most T, NodeOk n most x := (bfs_ok (most := most) sq sk le 5461).node
theorem rows_len {n most : Nat} {T : Tab} (h4 : n ≤ 4) (h6 : most ≤ 6) (sq : Sq n T) (sk : Skw n T) (le : LeE 2 T) : (rowsF n most T).length ≤ 5461 := bfs_len h4 h6 sq sk le 5461
theorem rows_head {n most : Nat} {T : Tab} : (rowsF n most T)[0]? = some ([], T) := bfs_head 5461
def p5 (x : List Nat × Tab) : Bool := decide (gr x.2 < 5)
abbrev sp__law_right : Sp := fun vs H Q _ => ∃ (l : Addr) (c : Nat) (G : Hp), vs = [.ref l] ∧ Same G H ∧ Dk G H l c ∧ c ≤ 500000 ∧ ∀ G2 H2, Stp [l] G H G2 H2 → Q (.bl true) H2
theorem cal__law_right {P : Program} {w : World} {K : PySem.W.Frag} {mg : Str → Option Value} {base : Heap} (B : Blt mg) (D : FD K mg "_law_right" st__law_right) (c__law_plain : CalG P w K mg base 5 "_law_plain" sp__law_plain) (c_swapped_by : CalG P w K mg base 5 "swapped_by" sp_swapped_by) (c__law_marks : CalG P w K mg base 2 "_law_marks" sp__law_marks) (c__law_second : CalG P w K mg base 6 "_law_second" sp__law_second) (c__law_draw : CalG P w K mg base 1 "_law_draw" sp__law_draw) (c__law_far_row : CalG P w K mg base 2 "_law_far_row" sp__law_far_row) (c__law_rows : CalG P w K mg base 2 "_law_rows" sp__law_rows) (c__law_first : CalG P w K mg base 1 "_law_first" sp__law_first) (c__law_is_tree : CalG P w K mg base 1 "_law_is_tree" sp__law_is_tree) (c_row_to_board : CalG P w K mg base 5 "row_to_board" sp_row_to_board) (c_row_to_tree : CalG P w K mg base 5 "row_to_tree" sp_row_to_tree) (c__law_greatest : CalG P w K mg base 1 "_law_greatest" sp__law_greatest) (c__law_looks_right : CalG P w K mg base 6 "_law_looks_right" sp__law_looks_right) (k_row_to_board : CalK P w K mg base 5 "row_to_board" ["most", "other", "one"] gV_row_to_board sp_row_to_board) (k_row_to_tree : CalK P w K mg base 5 "row_to_tree" ["most", "board"] gV_row_to_tree sp_row_to_tree) :
    CalG P w K mg base 7 "_law_right" sp__law_right := by
  obtain ⟨f, fd, F, hdf⟩ := D.ex
  refine calG0 (N := N__law_right) F (F.fn.binds hdf fun _ _ _ _ _ _ us hl => match us, hl with | [_], _ => rfl) sc__law_right (fun vs H Q E h => ?_) fun cdv A outer s H vs Q E hgu hr h => ⟨_, (pss_cons (ps_set (i := 1) nd__law_right rfl (Or.inr rfl) (pe_cg c__law_plain hgu hr (by decide) (by rfl) (pa_cons (pv 0) pa_nil)))
 (pss_cons (ps_set (i := 2) nd__law_right rfl (Or.inl rfl) (pe_cg c_swapped_by hgu hr (by decide) (by rfl) (pa_cons (pe_op (r := rCatA K) op_catA (pv 1) (pe_cg c__law_marks hgu hr (by decide) (by rfl) (pa_cons (pv 0) (pa_cons (pe_callB (r := rLen K) c_len (by rfl) B.len bt_len (pa_cons (pv 1) pa_nil)) (pa_cons pe_int pa_nil))))) (pa_cons (pe_tup pa_nil) pa_nil))))
 (pss_cons (ps_asg (pe_tup (pa_cons (pe_cg c__law_second hgu hr (by decide) (by rfl) (pa_cons (pv 0) (pa_cons (pv 1) pa_nil))) (pa_cons (pe_cg c__law_draw hgu hr (by decide) (by rfl) (pa_cons (pv 0) (pa_cons pe_int pa_nil))) pa_nil))) (pg_tupK (K := K) (n := 2) rfl rfl (pgs_cons (pg_name (i := 3) nd__law_right rfl (Or.inr rfl)) (pgs_cons (pg_name (i := 4) nd__law_right rfl (Or.inl rfl)) pgs_nil))))
 (pss_cons (ps_set (i := 5) nd__law_right rfl (Or.inl rfl) (pe_op (r := rCatA K) op_catA (pv 3) (pe_cg c__law_marks hgu hr (by decide) (by rfl) (pa_cons (pv 0) (pa_cons (pe_callB (r := rLen K) c_len (by rfl) B.len bt_len (pa_cons (pv 3) pa_nil)) (pa_cons pe_int pa_nil))))))
 (pss_cons (ps_if (PW.pt (pw_and (pt_cmpR op_eq (pe_callB (r := rLen K) c_len (by rfl) B.len bt_len (pa_cons (pv 1) pa_nil)) pe_int (nomark _)) (pw_and (pt_cmpR op_gt (pv 4) pe_int (nomark _)) (pw_and1 (pt_cmpR o_notN (pe_cg c__law_far_row hgu hr (by decide) (by rfl) (pa_cons (pv 1) pa_nil)) pe_non (nomark _)))))) (pss_one (ps_set (i := 4) nd__law_right rfl (Or.inl rfl) pe_int)) pss_nil)
 (pss_cons (ps_asg (pe_tup (pa_cons (pe_cg c__law_rows hgu hr (by decide) (by rfl) (pa_cons (pv 1) (pa_cons (pv 4) pa_nil))) (pa_cons (pe_cg c__law_first hgu hr (by decide) (by rfl) (pa_cons (pv 3) pa_nil)) pa_nil))) (pg_tupK (K := K) (n := 2) rfl rfl (pgs_cons (pg_name (i := 6) nd__law_right rfl (Or.inl rfl)) (pgs_cons (pg_name (i := 7) nd__law_right rfl (Or.inr rfl)) pgs_nil))))
 (pss_cons (ps_setLc (i := 8) (own := [("_law_row", 9), ("_law_here", 10)]) rfl nd__law_right rfl rfl (sw_true rfl rfl rfl (by kernel_rfl)) (pi_listK (K := K) rfl (pv 6)) (blkOk_by (by kernel_rfl)) (fun _ _ _ _ _ => (pg_tupK (K := K) (n := 2) rfl rfl (pgs_cons (pg_name (i := 9) nd__law_right rfl (Or.inl rfl)) (pgs_cons (pg_name (i := 10) nd__law_right rfl (Or.inl rfl)) pgs_nil)))) (fun _ _ _ _ _ => (pts_one (PW.pt (pw_and (pt_cmpR op_eq (pe_callB (r := rLen K) c_len (by rfl) B.len bt_len (pa_cons (pv 3) pa_nil)) (pe_callB (r := rLen K) c_len (by rfl) B.len bt_len (pa_cons (pv 1) pa_nil)) (nomark _)) (pw_and1 (pt_cmpR (r := rEqD K) (op_eqD hr.units) (pe_cg c__law_first hgu hr (by decide) (by rfl) (pa_cons (pv 10) pa_nil)) (pv 7) (nomark _))))))) (fun _ _ _ _ _ => (pv 9)))
 (pss_cons (ps_setLc (i := 11) (own := [("_law_row", 9), ("_law_here", 10)]) rfl nd__law_right rfl rfl (sw_true rfl rfl rfl (by kernel_rfl)) (pi_listK (K := K) rfl (pv 6)) (blkOk_by (by kernel_rfl)) (fun _ _ _ _ _ => (pg_tupK (K := K) (n := 2) rfl rfl (pgs_cons (pg_name (i := 9) nd__law_right rfl (Or.inl rfl)) (pgs_cons (pg_name (i := 10) nd__law_right rfl (Or.inl rfl)) pgs_nil)))) (fun _ _ _ _ _ => (pts_one (pt_val (pe_cg c__law_is_tree hgu hr (by decide) (by rfl) (pa_cons (pv 10) pa_nil))))) (fun _ _ _ _ _ => (pv 9)))
 (pss_cons (ps_for PassesOwn.never rfl (pi_range1 (by rfl) B.range (pa_cons pe_int pa_nil)) (pg_name (i := 12) nd__law_right rfl (Or.inl rfl)) (pss_cons (ps_set (i := 13) nd__law_right rfl (Or.inl rfl) (pe_ifExp (pt_cmpR op_eq (pv 12) pe_int (nomark _)) (pe_cg c_row_to_board hgu hr (by decide) (by rfl) (pa_cons (pv 2) (pa_cons (pv 5) (pa_cons (pv 4) pa_nil)))) (pe_ck k_row_to_board hgu hr (by decide) (by rfl) (pk_cons (pv 4) (pk_cons (pv 5) (pk_cons (pv 2) pk_nil))))))
 (pss_cons (ps_if (PW.pt (pw_or (pt_cmpR (r := rNeD K) (op_neD hr.units) (pv 13) (pe_ifExp (pt_cmpR (r := rNeD K) (op_neD hr.units) (pv 8) (pe_lst pa_nil) (nomark _)) (pe_ix (r := rIxL K) ix_list (pv 8) pe_int (fun _ _ => rfl)) pe_non) (nomark _)) (pw_or1 (PW.pt (pw_and (pt_cmpR o_notN (pv 13) pe_non (nomark _)) (pw_and1 (pt_not (pt_val (pe_callB (r := rIsi K) call_isi (by rfl) B.isinstance bt_isinstance (pa_cons (pv 13) (pa_cons (pe_bltn (v := .ty "tuple") (by rfl) B.tuple bt_tuple rfl) pa_nil))))))))))) (pss_one (ps_ret pe_bl)) pss_nil)
 (pss_cons (ps_set (i := 13) nd__law_right rfl (Or.inl rfl) (pe_ifExp (pt_cmpR op_eq (pv 12) pe_int (nomark _)) (pe_cg c_row_to_tree hgu hr (by decide) (by rfl) (pa_cons (pv 2) (pa_cons (pv 4) pa_nil))) (pe_ck k_row_to_tree hgu hr (by decide) (by rfl) (pk_cons (pv 4) (pk_cons (pv 2) pk_nil)))))
 (pss_one (ps_if (PW.pt (pw_or (pt_cmpR (r := rNeD K) (op_neD hr.units) (pv 13) (pe_ifExp (pt_cmpR (r := rNeD K) (op_neD hr.units) (pv 11) (pe_lst pa_nil) (nomark _)) (pe_ix (r := rIxL K) ix_list (pv 11) pe_int (fun _ _ => rfl)) pe_non) (nomark _)) (pw_or1 (PW.pt (pw_and (pt_cmpR o_notN (pv 13) pe_non (nomark _)) (pw_and1 (pt_not (pt_val (pe_callB (r := rIsi K) call_isi (by rfl) B.isinstance bt_isinstance (pa_cons (pv 13) (pa_cons (pe_bltn (v := .ty "tuple") (by rfl) B.tuple bt_tuple rfl) pa_nil))))))))))) (pss_one (ps_ret pe_bl)) pss_nil))))))
 (pss_cons (ps_if (pt_cmpR (r := rNeD K) (op_neD hr.units) (pe_cg c_row_to_board hgu hr (by decide) (by rfl) (pa_cons (pv 1) (pa_cons (pv 2) (pa_cons pe_int pa_nil)))) (pe_tup pa_nil) (nomark _)) (pss_one (ps_ret pe_bl)) pss_nil)
 (pss_cons (ps_setLc (i := 14) (own := [("_law_row", 9), ("_law_here", 10)]) rfl nd__law_right rfl rfl (sw_true rfl rfl rfl (by kernel_rfl)) (pi_listK (K := K) rfl (pv 6)) (blkOk_by (by kernel_rfl)) (fun _ _ _ _ _ => (pg_tupK (K := K) (n := 2) rfl rfl (pgs_cons (pg_name (i := 9) nd__law_right rfl (Or.inl rfl)) (pgs_cons (pg_name (i := 10) nd__law_right rfl (Or.inl rfl)) pgs_nil)))) (fun _ _ _ _ _ => (pts_one (pt_cmpR op_lt (pe_cg c__law_greatest hgu hr (by decide) (by rfl) (pa_cons (pv 10) pa_nil)) pe_int (nomark _)))) (fun _ _ _ _ _ => (pv 10)))
 (pss_cons (ps_for PassesOwn.never rfl (pi_range1 (by rfl) B.range (pa_cons pe_int pa_nil)) (pg_name (i := 12) nd__law_right rfl (Or.inl rfl)) (pss_one (ps_if (pt_not (pt_val (pe_cg c__law_looks_right hgu hr (by decide) (by rfl) (pa_cons (pe_ix (r := rIxL K) ix_list (pv 14) (pe_cg c__law_draw hgu hr (by decide) (by rfl) (pa_cons (pv 0) (pa_cons (pe_callB (r := rLen K) c_len (by rfl) B.len bt_len (pa_cons (pv 14) pa_nil)) pa_nil))) (fun _ _ => rfl)) pa_nil)))) (pss_one (ps_ret pe_bl)) pss_nil)))
 (pss_one (ps_ret (pe_and (pe_cg c__law_looks_right hgu hr (by decide) (by rfl) (pa_cons (pv 2) pa_nil)) (pe_one (pe_cg c__law_looks_right hgu hr (by decide) (by rfl) (pa_cons (pe_op (r := rCatA K) op_catA (pv 3) (pe_cg c__law_marks hgu hr (by decide) (by rfl) (pa_cons (pv 0) (pa_cons (pe_callB (r := rLen K) c_len (by rfl) B.len bt_len (pa_cons (pv 3) pa_nil)) (pa_cons pe_int pa_nil))))) pa_nil)))))))))))))))))), ?_⟩
  · obtain ⟨l, c, G, rfl, _⟩ := h
    rfl
  · obtain ⟨l, c, G, rfl, gh, dk, hc, q⟩ := h
    refine r_asg ?_
    refine ⟨_, rfl, l, c, G, rfl, gh, dk, by omega, fun vL L n c1 G1 H1 h1 h4 sq sk le a1 a2 s1 dL dk1 => ?_⟩
    have hlL : (L.map rD).length = n := by rw [List.length_map, sq.len]
    refine r_asg ?_
    refine r_call ?_
    refine r_cons ?_
    refine r_marks (i := 1) (lim := 8) (Cn.nil s1.i) rfl rfl dL sq h4 (by decide) dk1 (by omega) fun vB M c2 G2 H2 hM hMl b1 b2 s2 dB dk2 => ?_
    have okB : Ok n (L ++ M) := ok_of h1 h4 sq sk (le.up (by decide)) hM (by omega)
    have tkB : (L ++ M).take n = L := take_app sq
    refine ⟨slack (by simp), fun p hp => ?_⟩
    have s2' := Stp.new (m := []) (o := .tup []) s2.i hp
    refine ⟨⟨L ++ M, n⟩, _, s2'.i, .cons (s2'.da dB) (.cons (.tup upd_same .nil) .nil), okB, fun vG G3 H3 s3 dG => ?_⟩
    have dG : Da G3 vG (tD (L ++ M)) := dG
    have dL3 : Da G3 vL (tD L) := ((dL.mono s2.g).mono s2'.g).mono s3.g
    have dk3 := (dk2.up s2').up s3
    have s03 : Stp [l] G H G3 H3 := ((s1.trans s2).up s2').up s3
    refine ⟨_, rfl, _, rfl, l, vL, L, n, c2, G3, rfl, s3.i, dk3, by omega, dL3, h1, h4, sq, sk, le, fun vM T m c4 G4 H4 g1 g4 sqT skT leT e1 e2 s4 dM dk4 => ?_⟩
    refine r_cons1 ?_
    refine r_draw (m := 7) (Cn.nil s4.i) rfl dk4 (by omega) e_int (by decide) (by decide) fun r c5 G5 H5 hr f1 f2 s5 dk5 => ?_
    refine pair_ok fun p2 hp2 => ?_
    have s5' := Stp.new (m := []) (o := .tup [vM, vN r]) s5.i hp2
    generalize upd G5 p2 (.tup [vM, vN r]) = G6 at s5'
    generalize upd H5 p2 (.tup [vM, vN r]) = H6 at s5'
    have dk6 := dk5.up s5'
    have s06 : Stp [l] G H G6 H6 := ((s03.trans s4).trans s5).up s5'
    have dM6 : Da G6 vM (tD T) := (dM.mono s5.g).mono s5'.g
    have dL6 : Da G6 vL (tD L) := ((dL3.mono s4.g).mono s5.g).mono s5'.g
    have dG6 : Da G6 vG (tD (L ++ M)) := ((dG.mono s4.g).mono s5.g).mono s5'.g
    have hlT : (T.map rD).length = m := by rw [List.length_map, sqT.len]
    refine r_nx ?_
    refine r_asg ?_
    refine r_marks (i := 3) (lim := 2) (Cn.nil s5'.i) rfl rfl dM6 sqT g4 (by decide) dk6 (by omega) fun vF F c7 G7 H7 hF hFl i1 i2 s7 dF dk7 => ?_
    have okF : Ok m (T ++ F) := ok_of g1 g4 sqT skT (leT.up (by decide)) hF (by omega)
    have tkF : (T ++ F).take m = T := take_app sqT
    have s07 := s06.trans s7
    have dL7 := dL6.mono s7.g
    have dM7 := dM6.mono s7.g
    have dG7 := dG6.mono s7.g
    refine q_whenU (fun σ' G' H' => ∃ lim : Nat, lim ≤ 6 ∧ σ' = [some (.ref l), some vL, some vG, some vM, some (vN lim), some vF, none, none, none, none, none, none, none, none, none] ∧ Stp [] G7 H7 G' H') (Cn.nil s7.i) (u_and (b_test (e_eqI (e_lenT (e_var rfl dL7) hlL) e_int)) fun _ => u_and (b_test (e_B0 (f := fun i j => decide (j < i)) (e_var rfl (.int _)) e_int)) fun _ => u_notN (es_cg (⟨L, n⟩ : AT) (a_cons (e_var rfl dL7) a_nil) ⟨sq, h1, h4, sk, le, by decide⟩))
      (fun Ga Ha N sa hN => s_asgI (n := 4) (Cn.nil sa.i) e_int fun Gb Hb sb => hN _ Gb Hb ⟨4, by decide, rfl, sa.trans sb⟩) (fun Ga Ha sa => ⟨r, by omega, rfl, sa⟩) fun σ' G8 H8 ⟨lim, hlim, hσ, s8⟩ => ?_
    subst hσ
    have dL8 := s8.da dL7
    have dM8 := s8.da dM7
    have mp : MPre n lim L := ⟨sq, h1, h4, sk, le, hlim⟩
    obtain ⟨R, hR⟩ : ∃ R, R = rowsF n lim L := ⟨_, rfl⟩
    have fok : ∀ x ∈ R, NodeOk n lim x := by rw [hR]; exact rows_node sq sk le
    have flen : R.length ≤ 5461 := by rw [hR]; exact rows_len h4 hlim sq sk le
    have fhead : R[0]? = some ([], L) := by rw [hR]; exact rows_head
    refine q_asgP (d := .list ((R).map entD)) (e := leastD m T) (Cn.nil s8.i) (e_tup (a_cons ((e_cg (args := fun a : AM => [tD a.B, intD a.most]) (pre := fun a => MPre a.n a.most a.B) (res := fun a => .list ((rowsF a.n a.most a.B).map entD)) (⟨L, n, lim⟩ : AM) (a_cons (e_var rfl dL8) (a_cons (e_var rfl (.int _)) a_nil)) mp).eq (by show PyData.list ((rowsF n lim L).map entD) = _; rw [← hR])) (a_cons (e_cg (args := fun a : AT => [tD a.T]) (pre := fun a => Sq a.n a.T ∧ 1 ≤ a.n ∧ a.n ≤ 4) (res := fun a => leastD a.n a.T) (⟨T, m⟩ : AT) (a_cons (e_var rfl dM8) a_nil) ⟨sqT, g1, g4⟩) a_nil)) (slack (by simp))) fun vR vW G9 H9 s9 dR dW => ?_
    have dL9 := s9.da dL8
    have dM9 := s9.da dM8
    refine q_asg (d := .list (((R).filter fun x => decide (m = n) && likeF n (leastD m T) x).map fun x => Prm.rowD x.1)) (Cn.nil s9.i) ((l_lcP (i := 9) (j := 10) (R) (fun x => Prm.rowD x.1) (fun x => tD x.2) (fun x => decide (m = n) && likeF n (leastD m T) x) (fun x => Prm.rowD x.1) (i_list (e_var rfl dR)) (small7 (Nat.le_trans flen (by decide))) (fun _ _ => rfl) fun x Ga u w hx ea du dw => ?_).toD) fun vD Gb Hb sb dD => ?_
    · refine ⟨b_and ((b_test (e_eqI (e_lenT (e_var rfl (dM9.mono ea)) hlT) (e_lenT (e_var rfl (dL9.mono ea)) hlL))).eq (by simp [Int.ofNat_inj])) fun hh => ?_, fun _ => e_var rfl du⟩
      have hmn : m = n := by simpa using hh
      subst hmn
      obtain ⟨S1, sq1, e3⟩ := leastD_tab h1 h4 x.2
      obtain ⟨S2, sq2, e4⟩ := leastD_tab h1 h4 T
      exact b_test (e_eqD (e_cg (args := fun a : AT => [tD a.T]) (pre := fun a => Sq a.n a.T ∧ 1 ≤ a.n ∧ a.n ≤ 4) (res := fun a => leastD a.n a.T) (⟨x.2, m⟩ : AT) (a_cons (e_var rfl dw) a_nil) ⟨(fok _ hx).sq, h1, h4⟩) (e_var rfl (dW.mono ea)) (by show SeqAt.shaped (leastD m x.2) = true; rw [e3]; exact shaped_tD _) (by rw [e4]; exact shaped_tD _))
    have dRb := sb.da dR
    refine q_asg (d := .list (((R).filter (treeF n)).map fun x => Prm.rowD x.1)) (Cn.nil sb.i) ((l_lcP (i := 9) (j := 10) (R) (fun x => Prm.rowD x.1) (fun x => tD x.2) (treeF n) (fun x => Prm.rowD x.1) (i_list (e_var rfl dRb)) (small7 (Nat.le_trans flen (by decide))) (fun _ _ => rfl) fun x Ga u w hx ea du dw => ?_).toD) fun vT2 Gc Hc sc dT2 => ?_
    · have nok := fok _ hx
      refine ⟨(b_B (e_cg (args := fun a : AT => [tD a.T]) (pre := fun a => Sq a.n a.T ∧ 1 ≤ a.n ∧ a.n ≤ 4) (res := fun a => .bool (lawTree a.n (adjT a.T))) (⟨x.2, n⟩ : AT) (a_cons (e_var rfl dw) a_nil) ⟨nok.sq, h1, h4⟩)).eq ?_, fun _ => e_var rfl du⟩
      exact (tree_tab h1 h4 nok.sq nok.sk).symm
    have dDc := sc.da dD
    have sG : Same G7 Gc := s8.g.trans (s9.g.trans (sb.g.trans sc.g))
    have dGc := dG7.mono sG
    have dFc := dF.mono sG
    have dMc := dM7.mono sG
    have dLc := dL7.mono sG
    have dRc := sc.da dRb
    have dkc := (((dk7.up s8).up s9).up sb).up sc
    have s0c : Stp [l] G H Gc Hc := (((s07.up s8).up s9).up sb).up sc
    have eRB : resRB ⟨L ++ M, n, T ++ F, m, lim⟩ = optRow ((R).find? fun x => decide (m = n) && likeF n (leastD m T) x) := by
      unfold resRB
      show (if n = m then optRow ((rowsF n lim ((L ++ M).take n)).find? (likeF n (leastD m ((T ++ F).take m)))) else .none) = _
      rw [tkB, tkF, ← hR]
      by_cases e : n = m
      · subst e
        rw [if_pos rfl]
        simp
      · rw [if_neg e]
        have : (fun x => decide (m = n) && likeF n (leastD m T) x) = fun _ => false := by
          funext x
          rw [decide_eq_false fun z => e z.symm]
          rfl
        rw [this]
        have : ∀ L : List (List Nat × Tab), L.find? (fun _ => false) = none := fun L => by induction L with
          | nil => rfl
          | cons x L ih => exact ih
        rw [this]
        rfl
    have eRT : resRT ⟨L ++ M, n, lim⟩ = optRow ((R).find? (treeF n)) := by
      unfold resRT
      show optRow ((rowsF n lim ((L ++ M).take n)).find? (treeF n)) = _
      rw [tkB, ← hR]
    have preB : RBPre ⟨L ++ M, n, T ++ F, m, lim⟩ := ⟨okB, okF, by show MPre n lim ((L ++ M).take n); rw [tkB]; exact mp⟩
    have preT : RTPre ⟨L ++ M, n, lim⟩ := ⟨okB, by show MPre n lim ((L ++ M).take n); rw [tkB]; exact mp⟩
    refine q_for (List.range 2) natD (Cn.nil sc.i) (i_rng (a_cons e_int a_nil) (by decide)) (fun G5 _ i σ' G' H' => Same G5 G' ∧ ∃ (y12 y13 : Option V), σ' = [some (.ref l), some vL, some vG, some vM, some (vN lim), some vF, some vR, some vW, some vD, none, none, some vT2, y12, y13, none] ∧ Stp [] Gc Hc G' H')
      (fun G5 H5 s5 => ⟨Same.refl _, _, _, rfl, s5⟩) (fun _ _ _ _ _ _ ⟨h, _, _, _, s⟩ => ⟨h, s.i⟩) (fun G5 H5 i a σ' G' H' x Ga Ha s5 eo ⟨sg, y12, y13, hσ, st⟩ sa dx => ?_) (fun G5 H5 σ' G' H' s5 ⟨sg, y12, y13, hσ, st⟩ => ?_)
    · subst hσ
      cases dx.inv_int
      have sG2 : Same Gc Ga := st.g.trans sa.g
      refine q_asg (d := resRB ⟨L ++ M, n, T ++ F, m, lim⟩) (Cn.nil sa.i) (e_if (b := decide ((a : Int) = 0)) (b_test (e_eqI (e_var rfl (.int _)) e_int)) (fun _ => e_cg (args := fun a : ARB => [tD a.B, tD a.B2, intD a.most]) (pre := RBPre) (res := resRB) (⟨L ++ M, n, T ++ F, m, lim⟩ : ARB) (a_cons (e_var rfl (dGc.mono sG2)) (a_cons (e_var rfl (dFc.mono sG2)) (a_cons (e_var rfl (.int _)) a_nil))) preB)
        (fun _ => e_ck (args := fun a : ARB => [tD a.B, tD a.B2, intD a.most]) (pre := RBPre) (res := resRB) (as := [intD lim, tD (T ++ F), tD (L ++ M)]) (⟨L ++ M, n, T ++ F, m, lim⟩ : ARB) (a_cons (e_var rfl (.int _)) (a_cons (e_var rfl (dFc.mono sG2)) (a_cons (e_var rfl (dGc.mono sG2)) a_nil))) (fun G0 vs h => by
          obtain ⟨x, y, z, rfl, d1, d2, d3⟩ := h.inv3
          exact .cons d3 (.cons d2 (.cons d1 .nil))) preB)) fun vt Gd Hd sd dt => ?_
      rw [eRB] at dt
      have sG3 : Same Gc Gd := sG2.trans sd.g
      refine q_when (b := false) (Cn.nil sd.i) (b_told rfl (dDc.mono sG3) rfl dt) (fun hh => by cases hh) fun _ Ge He se => ?_
      have sG4 : Same Gc Ge := sG3.trans se.g
      refine q_asg (d := resRT ⟨L ++ M, n, lim⟩) (Cn.nil se.i) (e_if (b := decide ((a : Int) = 0)) (b_test (e_eqI (e_var rfl (.int _)) e_int)) (fun _ => e_cg (args := fun a : ART => [tD a.B, intD a.most]) (pre := RTPre) (res := resRT) (⟨L ++ M, n, lim⟩ : ART) (a_cons (e_var rfl (dGc.mono sG4)) (a_cons (e_var rfl (.int _)) a_nil)) preT)
        (fun _ => e_ck (args := fun a : ART => [tD a.B, intD a.most]) (pre := RTPre) (res := resRT) (as := [intD lim, tD (L ++ M)]) (⟨L ++ M, n, lim⟩ : ART) (a_cons (e_var rfl (.int _)) (a_cons (e_var rfl (dGc.mono sG4)) a_nil)) (fun G0 vs h => by
          obtain ⟨x, y, rfl, d1, d2⟩ := h.inv2
          exact .cons d2 (.cons d1 .nil)) preT)) fun vt2 Gf Hf sf dt2 => ?_
      rw [eRT] at dt2
      have sG5 : Same Gc Gf := sG4.trans sf.g
      exact s_when (b := false) (Cn.nil sf.i) (b_told rfl (dT2.mono sG5) rfl dt2) (fun hh => by cases hh) fun _ Gg Hg sgg => ⟨Gg, sg.trans (sa.g.trans (sd.g.trans (se.g.trans (sf.g.trans sgg.g)))), _, _, rfl, st.trans (sa.trans (sd.trans (se.trans (sf.trans sgg))))⟩
    · subst hσ
      have sG2 : Same Gc G' := st.g
      have okL : Ok n L := by
        have z := ok_of h1 h4 sq sk (le.up (by decide)) (M := []) (fun _ h => by cases h) (by simp)
        rwa [List.append_nil] at z
      have tkL : L.take n = L := by
        have z := take_app (M := []) sq
        rwa [List.append_nil] at z
      have mp0 : MPre n 0 L := ⟨sq, h1, h4, sk, le, by decide⟩
      have e0 : resRB ⟨L, n, L ++ M, n, 0⟩ = .tuple [] := by
        unfold resRB
        show (if n = n then optRow ((rowsF n 0 (L.take n)).find? (likeF n (leastD n ((L ++ M).take n)))) else .none) = _
        rw [if_pos rfl, tkL, tkB, find_of (i := 0) _ rows_head (like_self h1 h4 []) (fun j b hj => by omega)]
        rfl
      refine q_when (b := false) (Cn.nil st.i) ((b_test (e_neD ((e_cg (args := fun a : ARB => [tD a.B, tD a.B2, intD a.most]) (pre := RBPre) (res := resRB) (⟨L, n, L ++ M, n, 0⟩ : ARB) (a_cons (e_var rfl (dLc.mono sG2)) (a_cons (e_var rfl (dGc.mono sG2)) (a_cons e_int a_nil))) ⟨okL, okB, by show MPre n 0 (L.take n); rw [tkL]; exact mp0⟩).eq e0) (e_tup a_nil (by decide)) rfl rfl)).eq rfl) (fun hh => by cases hh) fun _ Ga Ha sa => ?_
      have sG3 : Same Gc Ga := sG2.trans sa.g
      refine q_asg (d := .list ((R.filter p5).map fun x => tD x.2)) (Cn.nil sa.i) ((l_lcP (i := 9) (j := 10) R (fun x => Prm.rowD x.1) (fun x => tD x.2) p5 (fun x => tD x.2) (i_list (e_var rfl (dRc.mono sG3))) (small7 (Nat.le_trans flen (by decide))) (fun _ _ => rfl) fun x Gx u w hx ea du dw => ?_).toD) fun vS Gd Hd sd dS => ?_
      · exact ⟨(b_test (e_B0 (f := fun i j => decide (i < j)) (e_cg (args := fun a : AT => [tD a.T]) (pre := fun a => Sq a.n a.T ∧ 1 ≤ a.n ∧ a.n ≤ 4) (res := fun a => .int (gr a.T)) (⟨x.2, n⟩ : AT) (a_cons (e_var rfl dw) a_nil) ⟨(fok _ hx).sq, h1, h4⟩) e_int)).eq rfl, fun _ => e_var rfl dw⟩
      · have sG4 : Same Gc Gd := sG3.trans sd.g
        have dkd : Dk Gd Hd l c7 := ((dkc.up st).up sa).up sd
        have s0d : Stp [l] G H Gd Hd := ((s0c.up st).up sa).up sd
        have slen : (R.filter p5).length ≤ 5461 := Nat.le_trans (List.length_filter_le _ _) flen
        have spos : 1 ≤ (R.filter p5).length := by
          refine List.length_pos_of_mem (List.mem_filter.mpr ⟨List.mem_of_getElem? fhead, ?_⟩)
          have := gr_le.mpr le
          exact decide_eq_true (by show gr L < 5; omega)
        have snode : ∀ x ∈ R.filter p5, Ok n x.2 := fun x hx => by
          obtain ⟨hx1, hx2⟩ := List.mem_filter.mp hx
          have nok := fok x hx1
          have hg : gr x.2 < 5 := of_decide_eq_true hx2
          have z := ok_of h1 h4 nok.sq nok.sk (gr_le.mp (by show gr x.2 ≤ ((4 : Nat) : Int); omega)) (M := []) (fun _ h => by cases h) (by simp)
          rwa [List.append_nil] at z
        have dLd := dLc.mono sG4
        have dMd := dMc.mono sG4
        have dGd := dGc.mono sG4
        generalize R.filter p5 = S at slen spos snode dS
        refine q_for (List.range 3) natD (Cn.nil sd.i) (i_rng (a_cons e_int a_nil) (by decide)) (fun G5 _ i σ' G' H' => Same G5 G' ∧ ∃ (c' : Nat) (y12 : Option V), σ' = [some (.ref l), some vL, some vG, some vM, some (vN lim), some vF, some vR, some vW, some vD, none, none, some vT2, y12, y13, some vS] ∧ Stp [l] Gd Hd G' H' ∧ c7 ≤ c' ∧ c' ≤ c7 + i ∧ Dk G' H' l c')
          (fun G5 H5 s5 => ⟨Same.refl _, c7, _, rfl, s5.of0, Nat.le_refl _, by omega, dkd.up s5⟩) (fun _ _ _ _ _ _ ⟨h, _, _, _, s, _⟩ => ⟨h, s.i⟩) (fun G5 H5 i a σ' G' H' x Ge He s5 eo ⟨sg, c', y12, hσ, st, j1, j2, dk'⟩ se dx => ?_) (fun G5 H5 σ' G' H' s5 ⟨sg, c', y12, hσ, st, j1, j2, dk'⟩ => ?_)
        · subst hσ
          have hi3 : i < 3 := by
            have := (List.getElem?_eq_some_iff.mp eo).1
            rwa [List.length_range] at this
          have dSe : Da Ge vS (.list (S.map fun x => tD x.2)) := dS.mono (st.g.trans se.g)
          refine ⟨_, rfl, ?_⟩
          refine r_draw (m := S.length) (Cn.nil se.i) rfl (dk'.up se) (by omega) (e_lenL (e_var rfl dSe) (List.length_map _)) spos (by omega) fun r2 c8 Gf Hf hr2 f3 f4 sf dkf => ?_
          obtain ⟨ps, xs, rfl, hp, hs⟩ := (dSe.mono sf.g).inv_lst
          obtain ⟨y, ey⟩ := get_of (l := S) hr2
          have ej : (S.map fun x => tD x.2)[r2]? = some (tD y.2) := by rw [List.getElem?_map, ey]; rfl
          obtain ⟨wv, hw, dw⟩ := hs.get ej
          refine ⟨ps, xs, (r2 : Int), wv, rfl, rfl, SqL.of (sf.i _ _ hp), atI_nat hw, ?_⟩
          refine ⟨⟨y.2, n⟩, Gf, sf.i, .cons dw .nil, snode y (List.mem_of_getElem? ey), fun v Gg Hg sgg dv => ?_⟩
          refine ⟨true, dv.inv_bl, ?_⟩
          refine iteF ?_
          exact ⟨Gg, sg.trans (se.g.trans (sf.g.trans sgg.g)), c8, _, rfl, ((st.up se).trans sf).up sgg, by omega, by omega, dkf.up sgg⟩
        · subst hσ
          rw [List.length_range] at j2
          have s0e : Stp [l] G H G' H' := s0d.trans st
          have dG2 := dGd.mono st.g
          have dM2 := dMd.mono st.g
          refine (e_cg (args := fun a : AB => [tD a.B]) (pre := fun a => Ok a.n a.B) (res := fun _ => .bool true) (⟨L ++ M, n⟩ : AB) (a_cons (e_var rfl dG2) a_nil) okB : EvD [] (tCallG sp__law_looks_right (tCons (tVar 2) tNil)) _ G' _) G' H' (Same.refl _) (Cn.nil st.i) _ fun v1 Ge He se dv1 => ?_
          refine ⟨true, dv1.inv_bl, ?_⟩
          refine iteT ?_
          refine r_call ?_
          refine r_cons ?_
          refine r_marks (i := 3) (lim := 3) (Cn.nil se.i) rfl rfl (dM2.mono se.g) sqT g4 (by decide) (dk'.up se) (by omega) fun vN2 N Gm Gn Hn hN hNl x1 x2 sn dN dkn => ?_
          refine ⟨⟨T ++ N, m⟩, Gn, sn.i, .cons dN .nil, ok_of g1 g4 sqT skT (leT.up (by decide)) hN (by omega), fun v2 Gp Hp sp2 dv2 => ?_⟩
          have ev : v2 = .bl true := dv2.inv_bl
          subst ev
          exact q Gp Hp (((s0e.up se).trans sn).up sp2)
end N41
/-! W25: the law. -/
namespace N41
open PySem PySem.Spec PyProof.Rows L2
abbrev sp_law (K : PySem.W.Frag) : Sp := fun vs H Q _ => ∃ (a : Addr) (ns : List Int) (G : Hp), vs = [.ref a] ∧ Same G H ∧ SqL K G a (ns.map V.int) ∧ ns.length ≤ 1000 ∧ ∀ G2 H2, Stp [] G H G2 H2 → Q (.bl true) H2
theorem cal_law {P : Program} {w : World} {K : PySem.W.Frag} {mg : Str → Option Value} {base : Heap} (B : Blt mg) (D : FD K mg "law" st_law) (c__law_right : CalG P w K mg base 7 "_law_right" sp__law_right) (c__law_deck : CalG P w K mg base 1 "_law_deck" (sp__law_deck K)) :
    CalG P w K mg base 8 "law" (sp_law K) := by
  obtain ⟨f, fd, F, hdf⟩ := D.ex
  refine calG0 (N := N_law) F (F.fn.binds hdf fun _ _ _ _ _ _ us hl => match us, hl with | [_], _ => rfl) sc_law (fun vs H Q E h => ?_) fun cdv A outer s H vs Q E hgu hr h => ⟨_, (pss_cons (ps_for PassesOwn.never rfl (pi_range1 (by rfl) B.range (pa_cons (pe_callB (c_max2 rfl) (by rfl) B.max bt_max (pa_cons pe_int (pa_cons (pe_callB (c_min2 rfl) (by rfl) B.min bt_min (pa_cons pe_int (pa_cons (pe_callB (r := rLen K) c_len (by rfl) B.len bt_len (pa_cons (pv 0) pa_nil)) pa_nil))) pa_nil))) pa_nil)) (pg_name (i := 1) nd_law rfl (Or.inl rfl)) (pss_one (ps_if (pt_not (pt_val (pe_cg c__law_right hgu hr (by decide) (by rfl) (pa_cons (pe_cg c__law_deck hgu hr (by decide) (by rfl) (pa_cons (pv 0) (pa_cons (pv 1) pa_nil))) pa_nil)))) (pss_one (ps_ret pe_bl)) pss_nil)))
 (pss_one (ps_ret pe_bl))), ?_⟩
  · obtain ⟨a, ns, G, rfl, _⟩ := h
    rfl
  · obtain ⟨a, ns, G, rfl, gh, hS, hl, q⟩ := h
    obtain ⟨k, hk, hk3⟩ : ∃ k : Nat, max (1 : Int) (min 3 (ns.length : Int)) = (k : Int) ∧ k ≤ 3 := by
      refine ⟨(max (1 : Int) (min 3 (ns.length : Int))).toNat, ?_, ?_⟩ <;> omega
    refine q_for (List.range k) natD (Cn.nil gh) (i_rng (a_cons ((e_max2 e_int (e_min2 e_int (e_lenS rfl hS))).eq (by rw [hk])) a_nil) (by omega)) (fun G5 _ i σ' G' H' => Same G5 G' ∧ ∃ (y1 : Option V), σ' = [some (.ref a), y1] ∧ Stp [] G H G' H')
      (fun G5 H5 s5 => ⟨Same.refl _, _, rfl, s5⟩) (fun _ _ _ _ _ _ ⟨h, _, _, s⟩ => ⟨h, s.i⟩) (fun G5 H5 i b σ' G' H' x Ge He s5 eo ⟨sg, y1, hσ, st⟩ se dx => ?_) (fun G5 H5 σ' G' H' s5 ⟨sg, y1, hσ, st⟩ => ?_)
    · subst hσ
      cases dx.inv_int
      have hin : i < k := by
        have := (List.getElem?_eq_some_iff.mp eo).1
        rwa [List.length_range] at this
      have hb : b = i := by
        rw [List.getElem?_range hin] at eo
        exact (Option.some.inj eo).symm
      subst hb
      refine r_call ?_
      refine r_cons ?_
      refine ⟨_, rfl, _, rfl, a, ns, b, Ge, rfl, se.i, (st.g.trans se.g).seq hS, by omega, hl, fun p Gf Hf sf hp dk => ?_⟩
      refine ⟨p, 0, Gf, rfl, sf.i, dk, by omega, fun Gg Hg sgg => ?_⟩
      refine ⟨true, rfl, ?_⟩
      refine iteF ?_
      refine ⟨Gg, sg.trans (se.g.trans (sf.g.trans sgg.g)), _, rfl, ?_⟩
      exact (st.trans (se.trans sf)).comp sgg fun c hc => by
        have z : c = p := by simpa using hc
        rw [z]
        exact .inr ((st.trans se).free hp)
    · subst hσ
      exact q G' H' st
end N41
/-! W26: the chain of all defs, up to the law. -/
namespace N41
open PySem PySem.Spec PyProof.Rows L2
theorem fd_mk {x : Str} {st : Stmt} {K : PySem.W.Frag} {h : Heap} {mg : Str → Option Value} {f : Addr} {oc : Value} {od an : Option Addr} {sl : Array (Option Value)} {kV dc pm cd ct : Value} (KX : K.In h) (G : h.Ns mainGlobals mg)
    (a : PySem.W.nsIn K mainGlobals x = some (some (.ref f))) (l : K.lookup f = some ⟨oc, od, .func (PySem.W.fnOf x x (C8.fnArgs st) (C8.fnBody st) (C8.fnScope st) .none kV dc pm an cd ct), sl⟩)
    (c : PySem.W.codeIn K cd x = true) (k : PySem.W.keepIn K (.ref f) = true) : FD K mg x st :=
  ⟨f, _, ⟨⟨⟨oc, od, .none, kV, dc, pm, an, cd, ct, sl, rfl, l, c⟩⟩, PySem.W.mg_of KX G a, k⟩, rfl⟩
theorem fd_then {goal : Prop} {x : Str} {st : Stmt} {K : PySem.W.Frag} {h : Heap} {mg : Str → Option Value} {f : Addr} {oc : Value} {od an : Option Addr} {sl : Array (Option Value)} {kV dc pm cd ct : Value} (KX : K.In h) (G : h.Ns mainGlobals mg)
    (a : PySem.W.nsIn K mainGlobals x = some (some (.ref f))) (l : K.lookup f = some ⟨oc, od, .func (PySem.W.fnOf x x (C8.fnArgs st) (C8.fnBody st) (C8.fnScope st) .none kV dc pm an cd ct), sl⟩)
    (c : PySem.W.codeIn K cd x = true) (k : PySem.W.keepIn K (.ref f) = true) (next : FD K mg x st → goal) : goal := next (fd_mk KX G a l c k)
theorem blt_then {goal : Prop} {K : PySem.W.Frag} {h : Heap} {mg : Str → Option Value} (KX : K.In h) (G : h.Ns mainGlobals mg)
    (b0 : PySem.W.nsIn K mainGlobals "len" = some none)
    (b1 : PySem.W.nsIn K mainGlobals "range" = some none)
    (b2 : PySem.W.nsIn K mainGlobals "tuple" = some none)
    (b3 : PySem.W.nsIn K mainGlobals "list" = some none)
    (b4 : PySem.W.nsIn K mainGlobals "int" = some none)
    (b5 : PySem.W.nsIn K mainGlobals "abs" = some none)
    (b6 : PySem.W.nsIn K mainGlobals "min" = some none)
    (b7 : PySem.W.nsIn K mainGlobals "max" = some none)
    (b8 : PySem.W.nsIn K mainGlobals "sum" = some none)
    (b9 : PySem.W.nsIn K mainGlobals "any" = some none)
    (b10 : PySem.W.nsIn K mainGlobals "all" = some none)
    (b11 : PySem.W.nsIn K mainGlobals "repr" = some none)
    (b12 : PySem.W.nsIn K mainGlobals "enumerate" = some none)
    (b13 : PySem.W.nsIn K mainGlobals "zip" = some none)
    (b14 : PySem.W.nsIn K mainGlobals "sorted" = some none)
    (b15 : PySem.W.nsIn K mainGlobals "isinstance" = some none)
    (b16 : PySem.W.nsIn K mainGlobals "gcd" = some (some (.builtin "math.gcd"))) (b17 : PySem.W.nsIn K mainGlobals "permutations" = some (some (.type "itertools.permutations"))) (next : Blt mg → goal) : goal :=
  next ⟨PySem.W.mg_none_of KX G b0, PySem.W.mg_none_of KX G b1, PySem.W.mg_none_of KX G b2, PySem.W.mg_none_of KX G b3, PySem.W.mg_none_of KX G b4, PySem.W.mg_none_of KX G b5, PySem.W.mg_none_of KX G b6, PySem.W.mg_none_of KX G b7, PySem.W.mg_none_of KX G b8, PySem.W.mg_none_of KX G b9, PySem.W.mg_none_of KX G b10, PySem.W.mg_none_of KX G b11, PySem.W.mg_none_of KX G b12, PySem.W.mg_none_of KX G b13, PySem.W.mg_none_of KX G b14, PySem.W.mg_none_of KX G b15, PySem.W.mg_of KX G b16, PySem.W.mg_of KX G b17⟩
/-! ### calls by keywords alone -/
abbrev g_one : List Value → List Value := fun ws => ws
abbrev g_row_to_board : List Value → List Value := fun ws => match ws with
  | [m, o, a] => [a, o, m]
  | _ => []
abbrev g_row_to_tree : List Value → List Value := fun ws => match ws with
  | [m, b] => [b, m]
  | _ => []
abbrev g_sources := g_one
abbrev g_is_tree := g_one
abbrev g_directed_round := g_one
section
variable {kV doc pm : Value} {an : Option Addr} {cdv ct : Value}
theorem bk_sources : ∀ ws : List Value, (g_sources ws).length = (["board"] : List Str).length → bindArgs (PySem.W.fnOf "sources" "sources" (C8.fnArgs st_sources) (C8.fnBody st_sources) (C8.fnScope st_sources) .none kV doc pm an cdv ct) ⟨[], (["board"] : List Str).zip ws⟩ = pure ((["board"] : List Str).zip (g_sources ws))
  | [_], _ => rfl
theorem bk_is_tree : ∀ ws : List Value, (g_is_tree ws).length = (["board"] : List Str).length → bindArgs (PySem.W.fnOf "is_tree" "is_tree" (C8.fnArgs st_is_tree) (C8.fnBody st_is_tree) (C8.fnScope st_is_tree) .none kV doc pm an cdv ct) ⟨[], (["board"] : List Str).zip ws⟩ = pure ((["board"] : List Str).zip (g_is_tree ws))
  | [_], _ => rfl
theorem bk_directed_round : ∀ ws : List Value, (g_directed_round ws).length = (["board"] : List Str).length → bindArgs (PySem.W.fnOf "directed_round" "directed_round" (C8.fnArgs st_directed_round) (C8.fnBody st_directed_round) (C8.fnScope st_directed_round) .none kV doc pm an cdv ct) ⟨[], (["board"] : List Str).zip ws⟩ = pure ((["board"] : List Str).zip (g_directed_round ws))
  | [_], _ => rfl
theorem bk_row_to_board : ∀ ws : List Value, (g_row_to_board ws).length = (["one", "other", "most"] : List Str).length → bindArgs (PySem.W.fnOf "row_to_board" "row_to_board" (C8.fnArgs st_row_to_board) (C8.fnBody st_row_to_board) (C8.fnScope st_row_to_board) .none kV doc pm an cdv ct) ⟨[], (["most", "other", "one"] : List Str).zip ws⟩ = pure ((["one", "other", "most"] : List Str).zip (g_row_to_board ws))
  | [], h => nomatch (show 0 = 3 from h)
  | [_], h => nomatch (show 0 = 3 from h)
  | [_, _], h => nomatch (show 0 = 3 from h)
  | [_, _, _], _ => rfl
  | _ :: _ :: _ :: _ :: _, h => nomatch (show 0 = 3 from h)
theorem bk_row_to_tree : ∀ ws : List Value, (g_row_to_tree ws).length = (["board", "most"] : List Str).length → bindArgs (PySem.W.fnOf "row_to_tree" "row_to_tree" (C8.fnArgs st_row_to_tree) (C8.fnBody st_row_to_tree) (C8.fnScope st_row_to_tree) .none kV doc pm an cdv ct) ⟨[], (["most", "board"] : List Str).zip ws⟩ = pure ((["board", "most"] : List Str).zip (g_row_to_tree ws))
  | [], h => nomatch (show 0 = 2 from h)
  | [_], h => nomatch (show 0 = 2 from h)
  | [_, _], _ => rfl
  | _ :: _ :: _ :: _, h => nomatch (show 0 = 2 from h)
end
theorem rel_sources {zs : List V} {ws : List Value} (h : Vals zs ws) : Vals (gV_sources zs) (g_sources ws) := h
theorem rel_is_tree {zs : List V} {ws : List Value} (h : Vals zs ws) : Vals (gV_is_tree zs) (g_is_tree ws) := h
theorem rel_directed_round {zs : List V} {ws : List Value} (h : Vals zs ws) : Vals (gV_directed_round zs) (g_directed_round ws) := h
theorem rel_row_to_board : ∀ {zs : List V} {ws : List Value}, Vals zs ws → Vals (gV_row_to_board zs) (g_row_to_board ws)
  | _, _, .nil => .nil
  | _, _, .cons _ .nil => .nil
  | _, _, .cons _ (.cons _ .nil) => .nil
  | _, _, .cons a (.cons b (.cons c .nil)) => .cons c (.cons b (.cons a .nil))
  | _, _, .cons _ (.cons _ (.cons _ (.cons _ _))) => .nil
theorem rel_row_to_tree : ∀ {zs : List V} {ws : List Value}, Vals zs ws → Vals (gV_row_to_tree zs) (g_row_to_tree ws)
  | _, _, .nil => .nil
  | _, _, .cons _ .nil => .nil
  | _, _, .cons a (.cons b .nil) => .cons b (.cons a .nil)
  | _, _, .cons _ (.cons _ (.cons _ _)) => .nil
theorem law_all {P : Program} {w : World} {K : PySem.W.Frag} {mg : Str → Option Value} {base : Heap} (B : Blt mg) (D__law_draw : FD K mg "_law_draw" st__law_draw) (D__law_types : FD K mg "_law_types" st__law_types) (D__law_order : FD K mg "_law_order" st__law_order) (D__law_edges : FD K mg "_law_edges" st__law_edges) (D__law_table : FD K mg "_law_table" st__law_table) (D__law_swap : FD K mg "_law_swap" st__law_swap) (D__law_finite : FD K mg "_law_finite" st__law_finite) (D__law_greatest : FD K mg "_law_greatest" st__law_greatest) (D__law_wild : FD K mg "_law_wild" st__law_wild) (D__law_plain : FD K mg "_law_plain" st__law_plain) (D_places_in : FD K mg "places_in" st_places_in) (D_near : FD K mg "near" st_near) (D_weigh_piece : FD K mg "weigh_piece" st_weigh_piece) (D_weights_of : FD K mg "weights_of" st_weights_of) (D_checked_board : FD K mg "checked_board" st_checked_board) (D_swap : FD K mg "swap" st_swap) (D_swap_by : FD K mg "swap_by" st_swap_by) (D_checked_row : FD K mg "checked_row" st_checked_row) (D_swapped_by : FD K mg "swapped_by" st_swapped_by) (D__law_marks : FD K mg "_law_marks" st__law_marks) (D__law_swap_by : FD K mg "_law_swap_by" st__law_swap_by) (D__law_second : FD K mg "_law_second" st__law_second) (D__law_is_far : FD K mg "_law_is_far" st__law_is_far) (D__law_far_row : FD K mg "_law_far_row" st__law_far_row) (D__law_rows : FD K mg "_law_rows" st__law_rows) (D__law_first : FD K mg "_law_first" st__law_first) (D__law_is_tree : FD K mg "_law_is_tree" st__law_is_tree) (D_check_most : FD K mg "check_most" st_check_most) (D_rename : FD K mg "rename" st_rename) (D_least_renamed : FD K mg "least_renamed" st_least_renamed) (D_table_of : FD K mg "table_of" st_table_of) (D_first_rows : FD K mg "first_rows" st_first_rows) (D_row_to_board : FD K mg "row_to_board" st_row_to_board) (D_joined_places : FD K mg "joined_places" st_joined_places) (D_is_tree_table : FD K mg "is_tree_table" st_is_tree_table) (D_row_to_tree : FD K mg "row_to_tree" st_row_to_tree) (D_sources : FD K mg "sources" st_sources) (D_is_tree : FD K mg "is_tree" st_is_tree) (D__law_goes_round : FD K mg "_law_goes_round" st__law_goes_round) (D_directed_round : FD K mg "directed_round" st_directed_round) (D__law_looks_right : FD K mg "_law_looks_right" st__law_looks_right) (D__law_right : FD K mg "_law_right" st__law_right) (D__law_deck : FD K mg "_law_deck" st__law_deck) (D_law : FD K mg "law" st_law) :
    CalG P w K mg base 8 "law" (sp_law K) := by
  have c__law_draw := cal__law_draw (P := P) (w := w) (base := base) B D__law_draw
  have c__law_types := cal__law_types (P := P) (w := w) (base := base) B D__law_types c__law_draw
  have c__law_order := cal__law_order (P := P) (w := w) (base := base) B D__law_order c__law_draw
  have c__law_edges := cal__law_edges (P := P) (w := w) (base := base) B D__law_edges
  have c__law_table := cal__law_table (P := P) (w := w) (base := base) B D__law_table c__law_order c__law_edges c__law_draw
  have c__law_swap := cal__law_swap (P := P) (w := w) (base := base) B D__law_swap
  have c__law_finite := cal__law_finite (P := P) (w := w) (base := base) B D__law_finite c__law_types c__law_table c__law_draw c__law_swap
  have c__law_greatest := cal__law_greatest (P := P) (w := w) (base := base) B D__law_greatest
  have c__law_wild := cal__law_wild (P := P) (w := w) (base := base) B D__law_wild c__law_draw
  have c__law_plain := cal__law_plain (P := P) (w := w) (base := base) B D__law_plain c__law_draw c__law_finite c__law_greatest c__law_wild
  have c_places_in := cal_places_in (P := P) (w := w) (base := base) B D_places_in
  have c_near := cal_near (P := P) (w := w) (base := base) B D_near
  have c_weigh_piece := cal_weigh_piece (P := P) (w := w) (base := base) B D_weigh_piece c_near
  have c_weights_of := cal_weights_of (P := P) (w := w) (base := base) B D_weights_of c_places_in c_weigh_piece
  have c_checked_board := cal_checked_board (P := P) (w := w) (base := base) B D_checked_board c_weights_of
  have c_swap := cal_swap (P := P) (w := w) (base := base) B D_swap
  have c_swap_by := cal_swap_by (P := P) (w := w) (base := base) B D_swap_by c_swap
  have c_checked_row := cal_checked_row (P := P) (w := w) (base := base) B D_checked_row
  have c_swapped_by := cal_swapped_by (P := P) (w := w) (base := base) B D_swapped_by c_checked_board c_swap_by c_checked_row
  have c__law_marks := cal__law_marks (P := P) (w := w) (base := base) B D__law_marks c__law_draw
  have c__law_swap_by := cal__law_swap_by (P := P) (w := w) (base := base) B D__law_swap_by c__law_swap
  have c__law_second := cal__law_second (P := P) (w := w) (base := base) B D__law_second c__law_draw c__law_plain c__law_order c__law_swap_by c__law_greatest
  have c__law_is_far := cal__law_is_far (P := P) (w := w) (base := base) B D__law_is_far
  have c__law_far_row := cal__law_far_row (P := P) (w := w) (base := base) B D__law_far_row c__law_is_far c__law_swap
  have c__law_rows := cal__law_rows (P := P) (w := w) (base := base) B D__law_rows c__law_swap
  have c__law_first := cal__law_first (P := P) (w := w) (base := base) B D__law_first
  have c__law_is_tree := cal__law_is_tree (P := P) (w := w) (base := base) B D__law_is_tree
  have c_check_most := cal_check_most (P := P) (w := w) (base := base) B D_check_most
  have c_rename := cal_rename (P := P) (w := w) (base := base) B D_rename
  have c_least_renamed := cal_least_renamed (P := P) (w := w) (base := base) B D_least_renamed c_rename
  have c_table_of := cal_table_of (P := P) (w := w) (base := base) B D_table_of
  have c_first_rows := cal_first_rows (P := P) (w := w) (base := base) B D_first_rows c_table_of c_swap
  have c_row_to_board := cal_row_to_board (P := P) (w := w) (base := base) B D_row_to_board c_checked_board c_check_most c_least_renamed c_table_of c_first_rows
  have c_joined_places := cal_joined_places (P := P) (w := w) (base := base) B D_joined_places c_near
  have c_is_tree_table := cal_is_tree_table (P := P) (w := w) (base := base) B D_is_tree_table c_joined_places
  have c_row_to_tree := cal_row_to_tree (P := P) (w := w) (base := base) B D_row_to_tree c_checked_board c_check_most c_first_rows c_is_tree_table
  have c_sources := cal_sources (P := P) (w := w) (base := base) B D_sources c_checked_board
  have c_is_tree := cal_is_tree (P := P) (w := w) (base := base) B D_is_tree c_checked_board c_is_tree_table c_table_of
  have c__law_goes_round := cal__law_goes_round (P := P) (w := w) (base := base) B D__law_goes_round
  have c_directed_round := cal_directed_round (P := P) (w := w) (base := base) B D_directed_round c_checked_board
  have k_directed_round : CalK P w K mg base 5 "directed_round" ["board"] gV_directed_round sp_directed_round := by
    obtain ⟨f, fd, F, hdf⟩ := D_directed_round.ex
    exact calK_of (ps := ["board"]) (g := g_directed_round) c_directed_round F hdf (by decide +kernel) (fun _ _ _ _ _ _ ws hl => bk_directed_round ws hl) rel_directed_round
  have k_is_tree : CalK P w K mg base 5 "is_tree" ["board"] gV_is_tree sp_is_tree := by
    obtain ⟨f, fd, F, hdf⟩ := D_is_tree.ex
    exact calK_of (ps := ["board"]) (g := g_is_tree) c_is_tree F hdf (by decide +kernel) (fun _ _ _ _ _ _ ws hl => bk_is_tree ws hl) rel_is_tree
  have k_sources : CalK P w K mg base 5 "sources" ["board"] gV_sources sp_sources := by
    obtain ⟨f, fd, F, hdf⟩ := D_sources.ex
    exact calK_of (ps := ["board"]) (g := g_sources) c_sources F hdf (by decide +kernel) (fun _ _ _ _ _ _ ws hl => bk_sources ws hl) rel_sources
  have c__law_looks_right := cal__law_looks_right (P := P) (w := w) (base := base) B D__law_looks_right c_sources c_is_tree c__law_is_tree c__law_goes_round c_directed_round k_directed_round k_is_tree k_sources
  have k_row_to_board : CalK P w K mg base 5 "row_to_board" ["most", "other", "one"] gV_row_to_board sp_row_to_board := by
    obtain ⟨f, fd, F, hdf⟩ := D_row_to_board.ex
    exact calK_of (ps := ["one", "other", "most"]) (g := g_row_to_board) c_row_to_board F hdf (by decide +kernel) (fun _ _ _ _ _ _ ws hl => bk_row_to_board ws hl) rel_row_to_board
  have k_row_to_tree : CalK P w K mg base 5 "row_to_tree" ["most", "board"] gV_row_to_tree sp_row_to_tree := by
    obtain ⟨f, fd, F, hdf⟩ := D_row_to_tree.ex
    exact calK_of (ps := ["board", "most"]) (g := g_row_to_tree) c_row_to_tree F hdf (by decide +kernel) (fun _ _ _ _ _ _ ws hl => bk_row_to_tree ws hl) rel_row_to_tree
  have c__law_right := cal__law_right (P := P) (w := w) (base := base) B D__law_right c__law_plain c_swapped_by c__law_marks c__law_second c__law_draw c__law_far_row c__law_rows c__law_first c__law_is_tree c_row_to_board c_row_to_tree c__law_greatest c__law_looks_right k_row_to_board k_row_to_tree
  have c__law_deck := cal__law_deck (P := P) (w := w) (base := base) B D__law_deck
  have c_law := cal_law (P := P) (w := w) (base := base) B D_law c__law_right c__law_deck
  exact c_law
theorem law_fn {P : Program} {w : World} {K : PySem.W.Frag} {mg : Str → Option Value} {fa : Addr} (B : Blt mg) (hfa : mg "law" = some (.ref fa)) (D__law_draw : FD K mg "_law_draw" st__law_draw) (D__law_types : FD K mg "_law_types" st__law_types) (D__law_order : FD K mg "_law_order" st__law_order) (D__law_edges : FD K mg "_law_edges" st__law_edges) (D__law_table : FD K mg "_law_table" st__law_table) (D__law_swap : FD K mg "_law_swap" st__law_swap) (D__law_finite : FD K mg "_law_finite" st__law_finite) (D__law_greatest : FD K mg "_law_greatest" st__law_greatest) (D__law_wild : FD K mg "_law_wild" st__law_wild) (D__law_plain : FD K mg "_law_plain" st__law_plain) (D_places_in : FD K mg "places_in" st_places_in) (D_near : FD K mg "near" st_near) (D_weigh_piece : FD K mg "weigh_piece" st_weigh_piece) (D_weights_of : FD K mg "weights_of" st_weights_of) (D_checked_board : FD K mg "checked_board" st_checked_board) (D_swap : FD K mg "swap" st_swap) (D_swap_by : FD K mg "swap_by" st_swap_by) (D_checked_row : FD K mg "checked_row" st_checked_row) (D_swapped_by : FD K mg "swapped_by" st_swapped_by) (D__law_marks : FD K mg "_law_marks" st__law_marks) (D__law_swap_by : FD K mg "_law_swap_by" st__law_swap_by) (D__law_second : FD K mg "_law_second" st__law_second) (D__law_is_far : FD K mg "_law_is_far" st__law_is_far) (D__law_far_row : FD K mg "_law_far_row" st__law_far_row) (D__law_rows : FD K mg "_law_rows" st__law_rows) (D__law_first : FD K mg "_law_first" st__law_first) (D__law_is_tree : FD K mg "_law_is_tree" st__law_is_tree) (D_check_most : FD K mg "check_most" st_check_most) (D_rename : FD K mg "rename" st_rename) (D_least_renamed : FD K mg "least_renamed" st_least_renamed) (D_table_of : FD K mg "table_of" st_table_of) (D_first_rows : FD K mg "first_rows" st_first_rows) (D_row_to_board : FD K mg "row_to_board" st_row_to_board) (D_joined_places : FD K mg "joined_places" st_joined_places) (D_is_tree_table : FD K mg "is_tree_table" st_is_tree_table) (D_row_to_tree : FD K mg "row_to_tree" st_row_to_tree) (D_sources : FD K mg "sources" st_sources) (D_is_tree : FD K mg "is_tree" st_is_tree) (D__law_goes_round : FD K mg "_law_goes_round" st__law_goes_round) (D_directed_round : FD K mg "directed_round" st_directed_round) (D__law_looks_right : FD K mg "_law_looks_right" st__law_looks_right) (D__law_right : FD K mg "_law_right" st__law_right) (D__law_deck : FD K mg "_law_deck" st__law_deck) (D_law : FD K mg "law" st_law) :
    ∃ fd : FuncData, (∀ (s : Shared) (u : Value), BindsTo s fd ⟨[u], []⟩ [("_law_script", u)]) ∧ ∀ base : Heap, K.In base → base.Ns mainGlobals mg → FnG P w K mg base 8 fa fd ["_law_script"] (sp_law K) := by
  obtain ⟨f, fd, F, hdf⟩ := D_law.ex
  have e := hfa.symm.trans F.mgf
  cases e
  obtain ⟨oc, od, dV, kV, doc, pm, an, cdv, ct, osl, e2, lk, hcd⟩ := F.fn.ex
  refine ⟨fd, fun s u => ?_, fun base _ _ => ?_⟩
  · subst e2
    have e3 : dV = .none := hdf
    subst e3
    exact .of_eq rfl
  · obtain ⟨f2, fd2, ps2, F2, hm, kp, b, ⟨oc2, od2, osl2, lk2⟩, hps2⟩ := (law_all (P := P) (w := w) (base := base) B D__law_draw D__law_types D__law_order D__law_edges D__law_table D__law_swap D__law_finite D__law_greatest D__law_wild D__law_plain D_places_in D_near D_weigh_piece D_weights_of D_checked_board D_swap D_swap_by D_checked_row D_swapped_by D__law_marks D__law_swap_by D__law_second D__law_is_far D__law_far_row D__law_rows D__law_first D__law_is_tree D_check_most D_rename D_least_renamed D_table_of D_first_rows D_row_to_board D_joined_places D_is_tree_table D_row_to_tree D_sources D_is_tree D__law_goes_round D_directed_round D__law_looks_right D__law_right D__law_deck D_law).ex
    have e4 := hm.symm.trans F.mgf
    cases e4
    have e5 := lk2.symm.trans lk
    cases e5
    have e7 : fd.params.args.map (·.arg) = (["_law_script"] : List Str) := by subst e2; show (C8.fnArgs st_law).args.map (·.arg) = (["_law_script"] : List Str); decide +kernel
    have e6 : ps2 = (["_law_script"] : List Str) := hps2.trans e7
    subst e6
    exact F2
theorem walk_law {l : PySem.W.OpenLaw} {q : Program} {loose : List Str} {XP : (Str → Option Value) → Heap → Prop} {YP : World → Heap → Prop} {d : DefRec} {K : Params → PySem.W.Frag} (hn : l.most = some 63) (hdf : d.params.defaults = [])
    (hY : ∀ (w : World) (h : Heap), YP w h → (K w.params).In h)
    (F : ∀ (w : World) (mg : Str → Option Value) (fa : Addr) (h : Heap), (K w.params).In h → h.Ns mainGlobals mg → mg d.name = some (.ref fa) →
      ∃ fd : FuncData, (∀ (s : Shared) (u : Value), BindsTo s fd ⟨[u], []⟩ [("_law_script", u)]) ∧ ∀ base : Heap, (K w.params).In base → base.Ns mainGlobals mg → FnG l.prog w (K w.params) mg base 8 fa fd ["_law_script"] (sp_law (K w.params))) :
    PySem.W.WalkO q loose XP YP l.row.toRowW d [] (fun f vs => PySem.call f vs) :=
  walk_ofG (n := 63) (k := 8) (x := "_law_script") (sp := fun w => sp_law (K w.params)) hn (by decide) hdf ⟨rfl, by decide, by decide⟩ hY F (fun _ H a ns hl _ hS => ⟨a, ns, H, rfl, Same.refl H, hS, Nat.le_trans hl (by decide), fun _ _ _ => rfl⟩)
end N41
/-! W27: the law's own head. -/
open PySem PySem.W PyProof.Rows
set_option maxRecDepth 100000 in
set_option maxHeartbeats 0 in
theorem PySem.Challenge.cw_neverhalves_k41_whole_rows_to_boards_and_holds : PySem.Challenge.rw_neverhalves_k41_whole_rows_to_boards_and.Holds := by
  w_on; o_law; k_head; (case hw => w_witness2)
  k_fill
  refine N41.walk_law (l := PySem.Challenge.rw_neverhalves_k41_whole_rows_to_boards_and) rfl rfl (fun w h Y => PySem.W.kIn_of Y) ?F
  case F =>
    intro w mg fa h KX G hmg
    refine' N41.blt_then KX G ?b0 ?b1 ?b2 ?b3 ?b4 ?b5 ?b6 ?b7 ?b8 ?b9 ?b10 ?b11 ?b12 ?b13 ?b14 ?b15 ?b16 ?b17 fun hB => ?_
    (case b0 => k_is)
    (case b1 => k_is)
    (case b2 => k_is)
    (case b3 => k_is)
    (case b4 => k_is)
    (case b5 => k_is)
    (case b6 => k_is)
    (case b7 => k_is)
    (case b8 => k_is)
    (case b9 => k_is)
    (case b10 => k_is)
    (case b11 => k_is)
    (case b12 => k_is)
    (case b13 => k_is)
    (case b14 => k_is)
    (case b15 => k_is)
    (case b16 => k_is)
    (case b17 => k_is)
    refine' N41.fd_then (x := "_law_draw") (st := N41.st__law_draw) KX G ?a ?l ?c ?k fun D__law_draw => ?_; (case a => k_is); (case l => k_is); (case c => k_is); (case k => k_is)
    refine' N41.fd_then (x := "_law_types") (st := N41.st__law_types) KX G ?a ?l ?c ?k fun D__law_types => ?_; (case a => k_is); (case l => k_is); (case c => k_is); (case k => k_is)
    refine' N41.fd_then (x := "_law_order") (st := N41.st__law_order) KX G ?a ?l ?c ?k fun D__law_order => ?_; (case a => k_is); (case l => k_is); (case c => k_is); (case k => k_is)
    refine' N41.fd_then (x := "_law_edges") (st := N41.st__law_edges) KX G ?a ?l ?c ?k fun D__law_edges => ?_; (case a => k_is); (case l => k_is); (case c => k_is); (case k => k_is)
    refine' N41.fd_then (x := "_law_table") (st := N41.st__law_table) KX G ?a ?l ?c ?k fun D__law_table => ?_; (case a => k_is); (case l => k_is); (case c => k_is); (case k => k_is)
    refine' N41.fd_then (x := "_law_swap") (st := N41.st__law_swap) KX G ?a ?l ?c ?k fun D__law_swap => ?_; (case a => k_is); (case l => k_is); (case c => k_is); (case k => k_is)
    refine' N41.fd_then (x := "_law_finite") (st := N41.st__law_finite) KX G ?a ?l ?c ?k fun D__law_finite => ?_; (case a => k_is); (case l => k_is); (case c => k_is); (case k => k_is)
    refine' N41.fd_then (x := "_law_greatest") (st := N41.st__law_greatest) KX G ?a ?l ?c ?k fun D__law_greatest => ?_; (case a => k_is); (case l => k_is); (case c => k_is); (case k => k_is)
    refine' N41.fd_then (x := "_law_wild") (st := N41.st__law_wild) KX G ?a ?l ?c ?k fun D__law_wild => ?_; (case a => k_is); (case l => k_is); (case c => k_is); (case k => k_is)
    refine' N41.fd_then (x := "_law_plain") (st := N41.st__law_plain) KX G ?a ?l ?c ?k fun D__law_plain => ?_; (case a => k_is); (case l => k_is); (case c => k_is); (case k => k_is)
    refine' N41.fd_then (x := "places_in") (st := N41.st_places_in) KX G ?a ?l ?c ?k fun D_places_in => ?_; (case a => k_is); (case l => k_is); (case c => k_is); (case k => k_is)
    refine' N41.fd_then (x := "near") (st := N41.st_near) KX G ?a ?l ?c ?k fun D_near => ?_; (case a => k_is); (case l => k_is); (case c => k_is); (case k => k_is)
    refine' N41.fd_then (x := "weigh_piece") (st := N41.st_weigh_piece) KX G ?a ?l ?c ?k fun D_weigh_piece => ?_; (case a => k_is); (case l => k_is); (case c => k_is); (case k => k_is)
    refine' N41.fd_then (x := "weights_of") (st := N41.st_weights_of) KX G ?a ?l ?c ?k fun D_weights_of => ?_; (case a => k_is); (case l => k_is); (case c => k_is); (case k => k_is)
    refine' N41.fd_then (x := "checked_board") (st := N41.st_checked_board) KX G ?a ?l ?c ?k fun D_checked_board => ?_; (case a => k_is); (case l => k_is); (case c => k_is); (case k => k_is)
    refine' N41.fd_then (x := "swap") (st := N41.st_swap) KX G ?a ?l ?c ?k fun D_swap => ?_; (case a => k_is); (case l => k_is); (case c => k_is); (case k => k_is)
    refine' N41.fd_then (x := "swap_by") (st := N41.st_swap_by) KX G ?a ?l ?c ?k fun D_swap_by => ?_; (case a => k_is); (case l => k_is); (case c => k_is); (case k => k_is)
    refine' N41.fd_then (x := "checked_row") (st := N41.st_checked_row) KX G ?a ?l ?c ?k fun D_checked_row => ?_; (case a => k_is); (case l => k_is); (case c => k_is); (case k => k_is)
    refine' N41.fd_then (x := "swapped_by") (st := N41.st_swapped_by) KX G ?a ?l ?c ?k fun D_swapped_by => ?_; (case a => k_is); (case l => k_is); (case c => k_is); (case k => k_is)
    refine' N41.fd_then (x := "_law_marks") (st := N41.st__law_marks) KX G ?a ?l ?c ?k fun D__law_marks => ?_; (case a => k_is); (case l => k_is); (case c => k_is); (case k => k_is)
    refine' N41.fd_then (x := "_law_swap_by") (st := N41.st__law_swap_by) KX G ?a ?l ?c ?k fun D__law_swap_by => ?_; (case a => k_is); (case l => k_is); (case c => k_is); (case k => k_is)
    refine' N41.fd_then (x := "_law_second") (st := N41.st__law_second) KX G ?a ?l ?c ?k fun D__law_second => ?_; (case a => k_is); (case l => k_is); (case c => k_is); (case k => k_is)
    refine' N41.fd_then (x := "_law_is_far") (st := N41.st__law_is_far) KX G ?a ?l ?c ?k fun D__law_is_far => ?_; (case a => k_is); (case l => k_is); (case c => k_is); (case k => k_is)
    refine' N41.fd_then (x := "_law_far_row") (st := N41.st__law_far_row) KX G ?a ?l ?c ?k fun D__law_far_row => ?_; (case a => k_is); (case l => k_is); (case c => k_is); (case k => k_is)
    refine' N41.fd_then (x := "_law_rows") (st := N41.st__law_rows) KX G ?a ?l ?c ?k fun D__law_rows => ?_; (case a => k_is); (case l => k_is); (case c => k_is); (case k => k_is)
    refine' N41.fd_then (x := "_law_first") (st := N41.st__law_first) KX G ?a ?l ?c ?k fun D__law_first => ?_; (case a => k_is); (case l => k_is); (case c => k_is); (case k => k_is)
    refine' N41.fd_then (x := "_law_is_tree") (st := N41.st__law_is_tree) KX G ?a ?l ?c ?k fun D__law_is_tree => ?_; (case a => k_is); (case l => k_is); (case c => k_is); (case k => k_is)
    refine' N41.fd_then (x := "check_most") (st := N41.st_check_most) KX G ?a ?l ?c ?k fun D_check_most => ?_; (case a => k_is); (case l => k_is); (case c => k_is); (case k => k_is)
    refine' N41.fd_then (x := "rename") (st := N41.st_rename) KX G ?a ?l ?c ?k fun D_rename => ?_; (case a => k_is); (case l => k_is); (case c => k_is); (case k => k_is)
    refine' N41.fd_then (x := "least_renamed") (st := N41.st_least_renamed) KX G ?a ?l ?c ?k fun D_least_renamed => ?_; (case a => k_is); (case l => k_is); (case c => k_is); (case k => k_is)
    refine' N41.fd_then (x := "table_of") (st := N41.st_table_of) KX G ?a ?l ?c ?k fun D_table_of => ?_; (case a => k_is); (case l => k_is); (case c => k_is); (case k => k_is)
    refine' N41.fd_then (x := "first_rows") (st := N41.st_first_rows) KX G ?a ?l ?c ?k fun D_first_rows => ?_; (case a => k_is); (case l => k_is); (case c => k_is); (case k => k_is)
    refine' N41.fd_then (x := "row_to_board") (st := N41.st_row_to_board) KX G ?a ?l ?c ?k fun D_row_to_board => ?_; (case a => k_is); (case l => k_is); (case c => k_is); (case k => k_is)
    refine' N41.fd_then (x := "joined_places") (st := N41.st_joined_places) KX G ?a ?l ?c ?k fun D_joined_places => ?_; (case a => k_is); (case l => k_is); (case c => k_is); (case k => k_is)
    refine' N41.fd_then (x := "is_tree_table") (st := N41.st_is_tree_table) KX G ?a ?l ?c ?k fun D_is_tree_table => ?_; (case a => k_is); (case l => k_is); (case c => k_is); (case k => k_is)
    refine' N41.fd_then (x := "row_to_tree") (st := N41.st_row_to_tree) KX G ?a ?l ?c ?k fun D_row_to_tree => ?_; (case a => k_is); (case l => k_is); (case c => k_is); (case k => k_is)
    refine' N41.fd_then (x := "sources") (st := N41.st_sources) KX G ?a ?l ?c ?k fun D_sources => ?_; (case a => k_is); (case l => k_is); (case c => k_is); (case k => k_is)
    refine' N41.fd_then (x := "is_tree") (st := N41.st_is_tree) KX G ?a ?l ?c ?k fun D_is_tree => ?_; (case a => k_is); (case l => k_is); (case c => k_is); (case k => k_is)
    refine' N41.fd_then (x := "_law_goes_round") (st := N41.st__law_goes_round) KX G ?a ?l ?c ?k fun D__law_goes_round => ?_; (case a => k_is); (case l => k_is); (case c => k_is); (case k => k_is)
    refine' N41.fd_then (x := "directed_round") (st := N41.st_directed_round) KX G ?a ?l ?c ?k fun D_directed_round => ?_; (case a => k_is); (case l => k_is); (case c => k_is); (case k => k_is)
    refine' N41.fd_then (x := "_law_looks_right") (st := N41.st__law_looks_right) KX G ?a ?l ?c ?k fun D__law_looks_right => ?_; (case a => k_is); (case l => k_is); (case c => k_is); (case k => k_is)
    refine' N41.fd_then (x := "_law_right") (st := N41.st__law_right) KX G ?a ?l ?c ?k fun D__law_right => ?_; (case a => k_is); (case l => k_is); (case c => k_is); (case k => k_is)
    refine' N41.fd_then (x := "_law_deck") (st := N41.st__law_deck) KX G ?a ?l ?c ?k fun D__law_deck => ?_; (case a => k_is); (case l => k_is); (case c => k_is); (case k => k_is)
    refine' N41.fd_then (x := "law") (st := N41.st_law) KX G ?a ?l ?c ?k fun D_law => ?_; (case a => k_is); (case l => k_is); (case c => k_is); (case k => k_is)
    exact N41.law_fn hB hmg D__law_draw D__law_types D__law_order D__law_edges D__law_table D__law_swap D__law_finite D__law_greatest D__law_wild D__law_plain D_places_in D_near D_weigh_piece D_weights_of D_checked_board D_swap D_swap_by D_checked_row D_swapped_by D__law_marks D__law_swap_by D__law_second D__law_is_far D__law_far_row D__law_rows D__law_first D__law_is_tree D_check_most D_rename D_least_renamed D_table_of D_first_rows D_row_to_board D_joined_places D_is_tree_table D_row_to_tree D_sources D_is_tree D__law_goes_round D_directed_round D__law_looks_right D__law_right D__law_deck D_law
#print axioms PySem.Challenge.cw_neverhalves_k41_whole_rows_to_boards_and_holds
