import PyProof.Rows.All
import Wide.All
import OpenK.AllK
import Wide.FinOn
import HandS.ForMost
import HandS.Deep
import HandS.IsInst
import HandS.Walk
import HandS.Codes
import HandS.Star
import HandS.GenList
import PyProof.RulesMatch
import HandS.TupSets
import HandS.SetFor
import KE.SortData
import HandS.Conv
import PyProof.TupleOfSeq
import HandS.DictComp
import HandS.DictTup
import KE.KDictKeyed
import KE.KDictCopyH
import HandS.Defaults
import HandS.Wide
import HandS.SetKeys
import HandS.Style
import HandS.Head1
import HandS.HeadHook1
import KE.GoesEnum
import KE.KOwnIter
import HandS.IterVal
import HandS.OwnEq
import HandS.ExcOwn
import HandS.WordsExc
import KE.KOpsOwn
import HandS.SortKw
import KE.DataMinMax
import HandS.TryOnly
import KE.KStateDown
import HandS.Ends
import HandS.More
import HandS.Words
import HandS.Head0
import HandS.Head2
import HandS.HeadEnd
import HandS.HeadHook2
import PySem.Challenge.RW_handedkeys_k06_whole_rounds
set_option Elab.async false
set_option linter.all false
set_option maxRecDepth 100000
set_option maxHeartbeats 2000000
/-! Data that stays: ghost heaps, what a reading gives. -/
namespace Hk
open PySem L2

/-- from the heap H, of which G is the part that stays, to H2, of which G2 is the part that stays -/
structure Gr (G H G2 H2 : Hp) : Prop where
  gg : Same G G2
  hh : Same H H2
  sub : Same G2 H2
  old : ∀ b o, G b = none → H b = some o → (∀ xs, o ≠ HO.tup xs) → G2 b = none
theorem Gr.refl {G H : Hp} (s : Same G H) : Gr G H G H := ⟨Same.refl G, Same.refl H, s, fun _ _ h _ _ => h⟩
theorem ne_none_of {H : Hp} {a : Addr} {o : HO} (h : H a = some o) : H a ≠ none := by rw [h]; exact fun z => nomatch z
theorem some_of_ne {H : Hp} {a : Addr} (h : H a ≠ none) : ∃ o, H a = some o := by
  cases e : H a with
  | none => exact absurd e h
  | some o => exact ⟨o, rfl⟩
theorem Gr.trans {G H G1 H1 G2 H2 : Hp} (a : Gr G H G1 H1) (b : Gr G1 H1 G2 H2) : Gr G H G2 H2 := by
  exact ⟨a.gg.trans b.gg, a.hh.trans b.hh, b.sub, fun c o h1 h2 h3 => b.old c o (a.old c o h1 h2 h3) (a.hh _ _ h2) h3⟩
theorem same_upd {G H : Hp} {p : Addr} {o : HO} (s : Same G H) : Same (upd G p o) (upd H p o) := fun b u e => by
  by_cases h : b = p
  · subst h; rw [upd_same] at e ⊢; exact e
  · rw [upd_ne h] at e ⊢; exact s _ _ e
theorem same_new {H : Hp} {p : Addr} {o : HO} (h : H p = none) : Same H (upd H p o) := fun b u e => by
  rw [upd_ne (ne_of_none e h)]; exact e
/-- a new thing that stays -/
theorem Gr.new {G H : Hp} {p : Addr} {o : HO} (s : Same G H) (hp : H p = none) : Gr G H (upd G p o) (upd H p o) := by
  refine ⟨same_new (s.free hp), same_new hp, same_upd s, fun b o' h1 h2 _ => ?_⟩
  have : b ≠ p := fun z => by rw [z, hp] at h2; cases h2
  rw [upd_ne this]; exact h1
/-- a new thing that may change -/
theorem Gr.mnew {G0 H0 G H : Hp} {p : Addr} {o : HO} (g : Gr G0 H0 G H) (hp : H p = none) : Gr G0 H0 G (upd H p o) :=
  ⟨g.gg, g.hh.trans (same_new hp), fun b u e => by rw [upd_ne (ne_of_none (g.sub _ _ e) hp)]; exact g.sub _ _ e, g.old⟩
/-- a thing of ours changes -/
theorem Gr.mut {G0 H0 G H : Hp} {p : Addr} {o : HO} (g : Gr G0 H0 G H) (h0 : H0 p = none) (hg : G p = none) : Gr G0 H0 G (upd H p o) :=
  ⟨g.gg, fun b u e => by rw [upd_ne (ne_of_none e h0)]; exact g.hh _ _ e, fun b u e => by rw [upd_ne (ne_of_none e hg)]; exact g.sub _ _ e, g.old⟩
/-- a thing of ours that will stay from here on -/
theorem Gr.keepIt {G0 H0 G H : Hp} {p : Addr} {o : HO} (g : Gr G0 H0 G H) (h0 : H0 p = none) (hg : G p = none) (e : H p = some o) : Gr G0 H0 (upd G p o) H := by
  refine ⟨g.gg.trans (same_new hg), g.hh, fun b u z => ?_, fun b u h1 h2 h3 => ?_⟩
  · by_cases h : b = p
    · subst h; rw [upd_same] at z; cases z; exact e
    · rw [upd_ne h] at z; exact g.sub _ _ z
  · have : b ≠ p := fun z => by rw [z, h0] at h2; cases h2
    rw [upd_ne this]; exact g.old b u h1 h2 h3
/-- a tuple stays anyhow -/
theorem Gr.tup {G0 H0 G H : Hp} {p : Addr} {xs : List V} (g : Gr G0 H0 G H) (e : H p = some (.tup xs)) : Gr G0 H0 (upd G p (.tup xs)) H := by
  refine ⟨g.gg.trans fun b u z => ?_, g.hh, fun b u z => ?_, fun b u h1 h2 h3 => ?_⟩
  · by_cases h : b = p
    · subst h; rw [upd_same]; rw [g.sub _ _ z] at e; exact e.symm
    · rw [upd_ne h]; exact z
  · by_cases h : b = p
    · subst h; rw [upd_same] at z; cases z; exact e
    · rw [upd_ne h] at z; exact g.sub _ _ z
  · have : b ≠ p := fun z => by
      rw [z] at h2
      rw [g.hh _ _ h2] at e
      exact h3 xs (Option.some.inj e)
    rw [upd_ne this]; exact g.old b u h1 h2 h3
theorem Gr.freeG {G0 H0 G H : Hp} (g : Gr G0 H0 G H) {p : Addr} (h : H p = none) : G p = none := g.sub.free h
theorem Gr.free0 {G0 H0 G H : Hp} (g : Gr G0 H0 G H) {p : Addr} (h : H p = none) : H0 p = none := g.hh.free h
/-- more is known to stay already -/
theorem Gr.up {G H G2 H2 G' : Hp} (g : Gr G H G2 H2) (s : Same G G') (s' : Same G' H) : ∃ G3, Gr G' H G3 H2 ∧ Same G2 G3 ∧ ∀ b, G2 b = none → G' b = none → G3 b = none := by
  refine ⟨fun b => match G2 b with | some o => some o | none => G' b, ⟨fun b o e => ?_, g.hh, fun b o e => ?_, fun b o h1 h2 h5 => ?_⟩, fun b o e => by simp only [e], fun b e1 e2 => by simp only [e1, e2]⟩
  · cases z : G2 b with
    | none => simp only [z, e]
    | some u =>
      simp only [z]
      have h1 := g.sub _ _ z
      have h2 := g.hh _ _ (s' _ _ e)
      rw [h1] at h2; exact h2
  · cases z : G2 b with
    | none => simp only [z] at e; exact g.hh _ _ (s' _ _ e)
    | some u => simp only [z] at e; cases e; exact g.sub _ _ z
  · have h3 : G b = none := s.free h1
    have h4 := g.old b o h3 h2 h5
    simp only [h4, h1]

/-! ### data -/
mutual
/-- what a value is, read off plain lists and tuples -/
inductive Dp (K : PySem.W.Frag) (G : Hp) : V → PyData → Prop
  | non : Dp K G .non .none
  | bl (b : Bool) : Dp K G (.bl b) (.bool b)
  | int (i : Int) : Dp K G (.int i) (.int i)
  | str (x : Str) : Dp K G (.str x) (.str x)
  | lst {a : Addr} {xs : List V} {ds : List PyData} (h1 : G a = some (.lst xs)) (h2 : DpAll K G xs ds) : Dp K G (.ref a) (.list ds)
  | tup {a : Addr} {xs : List V} {ds : List PyData} (h1 : G a = some (.tup xs)) (h2 : DpAll K G xs ds) : Dp K G (.ref a) (.tuple ds)
inductive DpAll (K : PySem.W.Frag) (G : Hp) : List V → List PyData → Prop
  | nil : DpAll K G [] []
  | cons {v : V} {vs : List V} {d : PyData} {ds : List PyData} (h1 : Dp K G v d) (h2 : DpAll K G vs ds) : DpAll K G (v :: vs) (d :: ds)
end
section
variable {K : PySem.W.Frag} {G G' H : Hp}
theorem Same.seqT {a : Addr} {xs : List V} (e : Same G G') (h : SqT K G a xs) : SqT K G' a xs := by
  rcases h with (h | ⟨o, h⟩) | h
  · exact .inl (.inl (e _ _ h))
  · exact .inl (.inr ⟨o, e _ _ h⟩)
  · exact .inr h
mutual
theorem Dp.up (e : Same G G') : ∀ (d : PyData) (v : V), Dp K G v d → Dp K G' v d
  | .none, _, h => by cases h; exact .non
  | .bool _, _, h => by cases h; exact .bl _
  | .int _, _, h => by cases h; exact .int _
  | .str _, _, h => by cases h; exact .str _
  | .list ds, _, h => by
    cases h with
    | lst h1 h2 => exact .lst (e _ _ h1) (DpAll.up e ds _ h2)
  | .tuple ds, _, h => by
    cases h with
    | tup h1 h2 => exact .tup (e _ _ h1) (DpAll.up e ds _ h2)
  | .dict _, _, h => by cases h
theorem DpAll.up (e : Same G G') : ∀ (ds : List PyData) (vs : List V), DpAll K G vs ds → DpAll K G' vs ds
  | [], _, h => by cases h; exact .nil
  | d :: ds, _, h => by
    cases h with
    | cons h1 h2 => exact .cons (Dp.up e d _ h1) (DpAll.up e ds _ h2)
end
theorem DpAll.len : ∀ {vs : List V} {ds : List PyData}, DpAll K G vs ds → vs.length = ds.length
  | _, _, .nil => rfl
  | _, _, .cons _ t => by rw [List.length_cons, List.length_cons, DpAll.len t]
theorem DpAll.get : ∀ {vs : List V} {ds : List PyData} {i : Nat} {v : V}, DpAll K G vs ds → vs[i]? = some v → ∃ d, ds[i]? = some d ∧ Dp K G v d
  | _, _, _, _, .nil, e => by simp at e
  | _, _, 0, _, .cons h _, e => by simp at e; subst e; exact ⟨_, rfl, h⟩
  | _, _, i + 1, _, .cons _ t, e => by
    obtain ⟨d, h1, h2⟩ := DpAll.get (i := i) t (by simpa using e)
    exact ⟨d, by simpa using h1, h2⟩
theorem DpAll.get' : ∀ {vs : List V} {ds : List PyData} {i : Nat} {d : PyData}, DpAll K G vs ds → ds[i]? = some d → ∃ v, vs[i]? = some v ∧ Dp K G v d
  | _, _, _, _, .nil, e => by simp at e
  | _, _, 0, _, .cons h _, e => by simp at e; subst e; exact ⟨_, rfl, h⟩
  | _, _, i + 1, _, .cons _ t, e => by
    obtain ⟨d, h1, h2⟩ := DpAll.get' (i := i) t (by simpa using e)
    exact ⟨d, by simpa using h1, h2⟩
theorem DpAll.append : ∀ {vs ws : List V} {ds es : List PyData}, DpAll K G vs ds → DpAll K G ws es → DpAll K G (vs ++ ws) (ds ++ es)
  | _, _, _, _, .nil, h => h
  | _, _, _, _, .cons h t, h' => .cons h (DpAll.append t h')
theorem DpAll.snoc {vs : List V} {ds : List PyData} {v : V} {d : PyData} (h : DpAll K G vs ds) (h' : Dp K G v d) : DpAll K G (vs ++ [v]) (ds ++ [d]) := DpAll.append h (.cons h' .nil)
theorem DpAll.take : ∀ (n : Nat) {vs : List V} {ds : List PyData}, DpAll K G vs ds → DpAll K G (vs.take n) (ds.take n)
  | 0, _, _, _ => by simp; exact .nil
  | n + 1, _, _, .nil => by simp; exact .nil
  | n + 1, _, _, .cons h t => by simp; exact .cons h (DpAll.take n t)
theorem DpAll.drop : ∀ (n : Nat) {vs : List V} {ds : List PyData}, DpAll K G vs ds → DpAll K G (vs.drop n) (ds.drop n)
  | 0, _, _, h => by simpa using h
  | n + 1, _, _, .nil => by simp; exact .nil
  | n + 1, _, _, .cons h t => by simp; exact DpAll.drop n t
theorem DpAll.of_strs : ∀ xs : List Str, DpAll K G (xs.map V.str) (xs.map PyData.str)
  | [] => .nil
  | x :: xs => .cons (.str x) (DpAll.of_strs xs)
theorem DpAll.to_strs : ∀ {xs : List Str} {vs : List V}, DpAll K G vs (xs.map PyData.str) → vs = xs.map V.str
  | [], _, h => by cases h; rfl
  | x :: xs, _, h => by
    cases h with
    | cons h1 h2 => cases h1; rw [DpAll.to_strs h2]; rfl
theorem DpAll.to_bools : ∀ {xs : List Bool} {vs : List V}, DpAll K G vs (xs.map PyData.bool) → vs = xs.map V.bl
  | [], _, h => by cases h; rfl
  | x :: xs, _, h => by
    cases h with
    | cons h1 h2 => cases h1; rw [DpAll.to_bools h2]; rfl
theorem DpAll.to_ints : ∀ {xs : List Int} {vs : List V}, DpAll K G vs (xs.map PyData.int) → vs = xs.map V.int
  | [], _, h => by cases h; rfl
  | x :: xs, _, h => by
    cases h with
    | cons h1 h2 => cases h1; rw [DpAll.to_ints h2]; rfl
theorem dp_list {v : V} {ds : List PyData} (h : Dp K G v (.list ds)) : ∃ a xs, v = .ref a ∧ SqL K G a xs ∧ DpAll K G xs ds := by
  cases h with
  | lst h1 h2 => exact ⟨_, _, rfl, SqL.of h1, h2⟩
theorem dp_tup {v : V} {ds : List PyData} (h : Dp K G v (.tuple ds)) : ∃ a xs, v = .ref a ∧ SqT K G a xs ∧ DpAll K G xs ds := by
  cases h with
  | tup h1 h2 => exact ⟨_, _, rfl, SqT.of h1, h2⟩
theorem dp_lst' {v : V} {ds : List PyData} (h : Dp K G v (.list ds)) : ∃ a xs, v = .ref a ∧ G a = some (.lst xs) ∧ DpAll K G xs ds := by
  cases h with
  | lst h1 h2 => exact ⟨_, _, rfl, h1, h2⟩
theorem dp_tup' {v : V} {ds : List PyData} (h : Dp K G v (.tuple ds)) : ∃ a xs, v = .ref a ∧ G a = some (.tup xs) ∧ DpAll K G xs ds := by
  cases h with
  | tup h1 h2 => exact ⟨_, _, rfl, h1, h2⟩
mutual
theorem Dp.l2 : ∀ (d : PyData) (v : V), Dp K G v d → L2.Dp K G v d
  | .none, _, h => by cases h; exact .non
  | .bool _, _, h => by cases h; exact .bl _
  | .int _, _, h => by cases h; exact .int _
  | .str _, _, h => by cases h; exact .str _
  | .list ds, _, h => by
    cases h with
    | lst h1 h2 => exact .lst (SqL.of h1) (DpAll.l2 ds _ h2)
  | .tuple ds, _, h => by
    cases h with
    | tup h1 h2 => exact .tup (SqT.of h1) (DpAll.l2 ds _ h2)
  | .dict _, _, h => by cases h
theorem DpAll.l2 : ∀ (ds : List PyData) (vs : List V), DpAll K G vs ds → L2.DpAll K G vs ds
  | [], _, h => by cases h; exact .nil
  | d :: ds, _, h => by
    cases h with
    | cons h1 h2 => exact .cons (Dp.l2 d _ h1) (DpAll.l2 ds _ h2)
end
theorem dp_str {v : V} {x : Str} (h : Dp K G v (.str x)) : v = .str x := by cases h; rfl
theorem dp_int {v : V} {x : Int} (h : Dp K G v (.int x)) : v = .int x := by cases h; rfl
theorem dp_bl {v : V} {x : Bool} (h : Dp K G v (.bool x)) : v = .bl x := by cases h; rfl
end
end Hk

set_option Elab.async false
set_option linter.all false
set_option maxRecDepth 100000
set_option maxHeartbeats 2000000
/-! What a reading gives, the data beside it staying. -/
namespace Hk
open PySem L2

abbrev VP := V → Hp → Prop
/-- what holds of a value goes on holding -/
def Mon (P : VP) : Prop := ∀ v G G', Same G G' → P v G → P v G'
def EvP (te : TE) (σ : L2.St) (G : Hp) (P : VP) : Prop := ∀ H, Same G H → ∀ Q : VK, (∀ v G2 H2, Gr G H G2 H2 → P v G2 → Q v H2) → te σ H Q
def EvB (tt : TT) (σ : L2.St) (G : Hp) (b : Bool) : Prop := ∀ H, Same G H → ∀ Q : Bool → Hp → Prop, (∀ G2 H2, Gr G H G2 H2 → Q b H2) → tt σ H Q
def EvA (ta : TA) (σ : L2.St) (G : Hp) (P : List V → Hp → Prop) : Prop := ∀ H, Same G H → ∀ Q : List V → Hp → Prop, (∀ vs G2 H2, Gr G H G2 H2 → P vs G2 → Q vs H2) → ta σ H Q
/-- a new thing of which nobody else knows; o is what stands there -/
def EvM (te : TE) (σ : L2.St) (G : Hp) (P : HO → Hp → Prop) : Prop :=
  ∀ H, Same G H → ∀ Q : VK, (∀ p o G2 H2, Gr G H G2 H2 → H p = none → G2 p = none → H2 p = some o → P o G2 → Q (.ref p) H2) → te σ H Q
def RvP (r : R2) (x y : V) (G : Hp) (P : VP) : Prop := ∀ H, Same G H → ∀ Q : VK, (∀ v G2 H2, Gr G H G2 H2 → P v G2 → Q v H2) → r x y H Q
def RcP (r : List V → Hp → VK → Prop) (vs : List V) (G : Hp) (P : VP) : Prop := ∀ H, Same G H → ∀ Q : VK, (∀ v G2 H2, Gr G H G2 H2 → P v G2 → Q v H2) → r vs H Q
abbrev DD (K : PySem.W.Frag) (d : PyData) : VP := fun v G => Dp K G v d
abbrev IsV (x : V) : VP := fun v _ => v = x
theorem mon_dd {K : PySem.W.Frag} {d : PyData} : Mon (DD K d) := fun v _ _ e h => Dp.up e d v h
theorem mon_v {x : V} : Mon (IsV x) := fun _ _ _ _ h => h

section
variable {K : PySem.W.Frag} {σ : L2.St} {G G' : Hp} {ta tb te tc : TE} {t u : TT} {x y z v : V} {r : R2} {P P1 P2 P3 : VP}
theorem EvP.up (h : EvP te σ G P) (m : Mon P) (s : Same G G') : EvP te σ G' P := fun H s' Q q =>
  h H (s.trans s') Q fun v G2 H2 g p => by
    obtain ⟨G3, g3, e3, _⟩ := g.up s s'
    exact q v G3 H2 g3 (m _ _ _ e3 p)
theorem EvB.up {b : Bool} (h : EvB t σ G b) (s : Same G G') : EvB t σ G' b := fun H s' Q q =>
  h H (s.trans s') Q fun G2 H2 g => by
    obtain ⟨G3, g3, e3, _⟩ := g.up s s'
    exact q G3 H2 g3
theorem EvP.imp (h : EvP te σ G P) (f : ∀ v G', Same G G' → P v G' → P1 v G') : EvP te σ G P1 := fun H s Q q => h H s Q fun v G2 H2 g p => q v G2 H2 g (f v G2 g.gg p)
theorem ev_var {i : Nat} (h : σ[i]? = some (some v)) (p : P v G) : EvP (tVar i) σ G P := fun H s _ q => ⟨v, h, q v G H (Gr.refl s) p⟩
theorem ev_c (p : P v G) : EvP (tC v) σ G P := fun H s _ q => q v G H (Gr.refl s) p
theorem ev_op (m1 : Mon P1) (m2 : Mon P2) (ha : EvP ta σ G P1) (hb : EvP tb σ G P2) (hr : ∀ x y G', Same G G' → P1 x G' → P2 y G' → RvP r x y G' P3) : EvP (tOp r ta tb) σ G P3 := fun H s Q q =>
  ha H s _ fun x G1 H1 g1 p1 => hb.up m2 g1.gg H1 g1.sub _ fun y G2 H2 g2 p2 => hr x y G2 (g1.gg.trans g2.gg) (m1 _ _ _ g2.gg p1) p2 H2 g2.sub Q fun v G3 H3 g3 p3 => q v G3 H3 ((g1.trans g2).trans g3) p3
/-- a rule that gives a value at once -/
theorem rv_val (h : ∀ H, Same G H → ∀ Q : VK, Q z H → r x y H Q) (p : P z G) : RvP r x y G P := fun H s Q q => h H s Q (q z G H (Gr.refl s) p)
theorem rc_val {rc : List V → Hp → VK → Prop} {vs : List V} (h : ∀ H, Same G H → ∀ Q : VK, Q z H → rc vs H Q) (p : P z G) : RcP rc vs G P := fun H s Q q => h H s Q (q z G H (Gr.refl s) p)
theorem ea_nil : EvA tNil σ G (fun vs _ => vs = []) := fun H s _ q => q [] G H (Gr.refl s) rfl
theorem ea_cons {tr : TA} {R : List V → Hp → Prop} (m1 : Mon P1) (h : EvP ta σ G P1) (hr : ∀ G', Same G G' → EvA tr σ G' R) : EvA (tCons ta tr) σ G (fun vs G2 => ∃ v ws, vs = v :: ws ∧ P1 v G2 ∧ R ws G2) := fun H s Q q =>
  h H s _ fun x G1 H1 g1 p1 => hr G1 g1.gg H1 g1.sub _ fun ws G2 H2 g2 p2 => q (x :: ws) G2 H2 (g1.trans g2) ⟨x, ws, rfl, m1 _ _ _ g2.gg p1, p2⟩
theorem EvA.up {ta : TA} {R : List V → Hp → Prop} (h : EvA ta σ G R) (m : ∀ vs G G', Same G G' → R vs G → R vs G') (s : Same G G') : EvA ta σ G' R := fun H s' Q q =>
  h H (s.trans s') Q fun v G2 H2 g p => by
    obtain ⟨G3, g3, e3, _⟩ := g.up s s'
    exact q v G3 H2 g3 (m _ _ _ e3 p)
theorem EvA.imp {ta : TA} {R R' : List V → Hp → Prop} (h : EvA ta σ G R) (f : ∀ vs G', Same G G' → R vs G' → R' vs G') : EvA ta σ G R' := fun H s Q q => h H s Q fun vs G2 H2 g p => q vs G2 H2 g (f vs G2 g.gg p)
/-- the arguments' data -/
def EvAD (K : PySem.W.Frag) (ta : TA) (σ : L2.St) (G : Hp) (ds : List PyData) : Prop := EvA ta σ G (fun vs G2 => DpAll K G2 vs ds)
theorem EvAD.up {ta : TA} {ds : List PyData} (h : EvAD K ta σ G ds) (s : Same G G') : EvAD K ta σ G' ds := EvA.up h (fun vs _ _ e p => DpAll.up e ds vs p) s
theorem ead_nil : EvAD K tNil σ G [] := fun H s _ q => q [] G H (Gr.refl s) .nil
theorem ead_cons {tr : TA} {d : PyData} {ds : List PyData} (h : EvP ta σ G (DD K d)) (hr : EvAD K tr σ G ds) : EvAD K (tCons ta tr) σ G (d :: ds) := fun H s Q q =>
  h H s _ fun x G1 H1 g1 p1 => hr.up g1.gg H1 g1.sub _ fun ws G2 H2 g2 p2 => q (x :: ws) G2 H2 (g1.trans g2) (.cons (Dp.up g2.gg _ _ p1) p2)
theorem ev_tup {ta : TA} {ds : List PyData} (h : EvAD K ta σ G ds) (hl : ds.length ≤ 1000) : EvP (tTup ta) σ G (DD K (.tuple ds)) := fun H s Q q =>
  h H s _ fun vs G1 H1 g1 p1 => ⟨by rw [DpAll.len p1]; exact Nat.le_trans hl (by decide), fun p hp => by
    refine q (.ref p) _ _ (g1.trans (Gr.new g1.sub hp)) (.tup upd_same (DpAll.up (same_new (g1.freeG hp)) _ _ p1))⟩
theorem em_lst {ta : TA} {ds : List PyData} (h : EvAD K ta σ G ds) (hl : ds.length ≤ 1000) : EvM (tLst ta) σ G (fun o G2 => ∃ xs, o = .lst xs ∧ DpAll K G2 xs ds) := fun H s Q q =>
  h H s _ fun vs G1 H1 g1 p1 => ⟨by rw [DpAll.len p1]; exact Nat.le_trans hl (by decide), fun p hp => q p _ _ _ (g1.mnew hp) (g1.free0 hp) (g1.freeG hp) upd_same ⟨vs, rfl, p1⟩⟩
/-- a new thing that will stay -/
theorem EvM.stay {R : HO → Hp → Prop} (h : EvM te σ G R) (f : ∀ p o G', G' p = none → R o G' → P (.ref p) (upd G' p o)) : EvP te σ G P := fun H s Q q =>
  h H s Q fun p o G2 H2 g h0 hg e r => q (.ref p) _ H2 (g.keepIt h0 hg e) (f p o G2 hg r)
theorem EvM.imp {R R' : HO → Hp → Prop} (h : EvM te σ G R) (f : ∀ o G', Same G G' → R o G' → R' o G') : EvM te σ G R' := fun H s Q q => h H s Q fun p o G2 H2 g h0 hg e r => q p o G2 H2 g h0 hg e (f o G2 g.gg r)
theorem EvM.up {R : HO → Hp → Prop} (h : EvM te σ G R) (m : ∀ o G G', Same G G' → R o G → R o G') (s : Same G G') : EvM te σ G' R := fun H s' Q q =>
  h H (s.trans s') Q fun p o G2 H2 g h0 hg e r => by
    obtain ⟨G3, g3, e3, n3⟩ := g.up s s'
    exact q p o G3 H2 g3 h0 (n3 p hg (s'.free h0)) e (m _ _ _ e3 r)
theorem ev_lst {ta : TA} {ds : List PyData} (h : EvAD K ta σ G ds) (hl : ds.length ≤ 1000) : EvP (tLst ta) σ G (DD K (.list ds)) :=
  (em_lst h hl).stay fun p o G' hp ⟨xs, e, r⟩ => by subst e; exact .lst upd_same (DpAll.up (same_new hp) _ _ r)

/-! ### fields of an instance that stays -/
def Ins (C : Addr) (fs : List (Str × V)) : VP := fun v G => ∃ a dx, v = .ref a ∧ G a = some (.ins C dx fs)
theorem mon_ins {C : Addr} {fs : List (Str × V)} : Mon (Ins C fs) := fun v _ _ e ⟨a, dx, h1, h2⟩ => ⟨a, dx, h1, e _ _ h2⟩
theorem ev_fld {C : Addr} {fs : List (Str × V)} {f : Str} (h : EvP ta σ G (Ins C fs)) (c : Cls K C) (n : NoAttr K C f) (l : fs.lookup f = some v) (p : ∀ G', Same G G' → P v G') : EvP (tFld K ta f) σ G P := fun H s Q q =>
  h H s _ fun x G1 H1 g1 ⟨a, dx, e, hi⟩ => ⟨a, C, dx, fs, v, e, g1.sub _ _ hi, c, n, l, q v G1 H1 g1 (p G1 g1.gg)⟩

/-! ### tests -/
theorem eb_test {b : Bool} (h : EvP te σ G (IsV (.bl b))) : EvB (tTest te) σ G b := fun H s _ q => h H s _ fun v G2 H2 g e => ⟨b, e, q G2 H2 g⟩
theorem eb_B {b : Bool} (h : EvP te σ G (IsV (.bl b))) : EvB (tB te) σ G b := fun H s _ q => h H s _ fun v G2 H2 g e => ⟨b, e, q G2 H2 g⟩
theorem eb_not {b : Bool} (h : EvB t σ G b) : EvB (tNot t) σ G (!b) := fun H s _ q => h H s _ fun G2 H2 g => q G2 H2 g
theorem eb_and {a b : Bool} (h1 : EvB t σ G a) (h2 : a = true → EvB u σ G b) : EvB (tAnd t u) σ G (a && b) := fun H s Q q => h1 H s _ fun G1 H1 g1 => by
  cases a with
  | true =>
    show u σ H1 Q
    exact (h2 rfl).up g1.gg H1 g1.sub Q fun G2 H2 g2 => q G2 H2 (g1.trans g2)
  | false =>
    show Q false H1
    exact q G1 H1 g1
theorem eb_or {a b : Bool} (h1 : EvB t σ G a) (h2 : a = false → EvB u σ G b) : EvB (tOr t u) σ G (a || b) := fun H s Q q => h1 H s _ fun G1 H1 g1 => by
  cases a with
  | false =>
    show u σ H1 Q
    exact (h2 rfl).up g1.gg H1 g1.sub Q fun G2 H2 g2 => q G2 H2 (g1.trans g2)
  | true =>
    show Q true H1
    exact q G1 H1 g1
theorem eb_is {a b : Bool} (h : EvB t σ G a) (e : a = b) : EvB t σ G b := e ▸ h
theorem ev_andV {a b : Bool} (h1 : EvP ta σ G (IsV (.bl a))) (h2 : a = true → EvP tb σ G (IsV (.bl b))) : EvP (tAndV ta tb) σ G (IsV (.bl (a && b))) := fun H s Q q => h1 H s _ fun v G1 H1 g1 e => ⟨a, e, by
  cases a with
  | true =>
    show tb σ H1 Q
    exact (h2 rfl).up mon_v g1.gg H1 g1.sub Q fun v G2 H2 g2 e => q v G2 H2 (g1.trans g2) e
  | false =>
    show Q (.bl false) H1
    exact q _ G1 H1 g1 rfl⟩
theorem ev_orV {a b : Bool} (h1 : EvP ta σ G (IsV (.bl a))) (h2 : a = false → EvP tb σ G (IsV (.bl b))) : EvP (tOrV ta tb) σ G (IsV (.bl (a || b))) := fun H s Q q => h1 H s _ fun v G1 H1 g1 e => ⟨a, e, by
  cases a with
  | false =>
    show tb σ H1 Q
    exact (h2 rfl).up mon_v g1.gg H1 g1.sub Q fun v G2 H2 g2 e => q v G2 H2 (g1.trans g2) e
  | true =>
    show Q (.bl true) H1
    exact q _ G1 H1 g1 rfl⟩
theorem ev_notV {a : Bool} (h1 : EvP ta σ G (IsV (.bl a))) : EvP (tNotV ta) σ G (IsV (.bl (!a))) := fun H s Q q => h1 H s _ fun v G1 H1 g1 e => ⟨a, e, q _ G1 H1 g1 rfl⟩
theorem ev_if {b : Bool} (h : EvB t σ G b) (m : Mon P) (h1 : b = true → EvP ta σ G P) (h2 : b = false → EvP tb σ G P) : EvP (tIf t ta tb) σ G P := fun H s Q q => h H s _ fun G1 H1 g1 => by
  cases b with
  | true =>
    show ta σ H1 Q
    exact (h1 rfl).up m g1.gg H1 g1.sub Q fun v G2 H2 g2 e => q v G2 H2 (g1.trans g2) e
  | false =>
    show tb σ H1 Q
    exact (h2 rfl).up m g1.gg H1 g1.sub Q fun v G2 H2 g2 e => q v G2 H2 (g1.trans g2) e

/-! ### operations -/
theorem ev_int {g : Int → Int → V} {i j : Int} (ha : EvP ta σ G (IsV (.int i))) (hb : EvP tb σ G (IsV (.int j))) : EvP (tOp (rI0 g) ta tb) σ G (IsV (g i j)) :=
  ev_op mon_v mon_v ha hb fun x y G' s ex ey => rv_val (fun H _ Q q => ⟨i, j, ex, ey, q⟩) rfl
theorem ev_intC {C : Int → Int → Prop} {g : Int → Int → V} {i j : Int} (ha : EvP ta σ G (IsV (.int i))) (hb : EvP tb σ G (IsV (.int j))) (c : C i j) : EvP (tOp (rI C g) ta tb) σ G (IsV (g i j)) :=
  ev_op mon_v mon_v ha hb fun x y G' s ex ey => rv_val (fun H _ Q q => ⟨i, j, ex, ey, c, q⟩) rfl
theorem ev_eq (ha : EvP ta σ G (IsV x)) (hb : EvP tb σ G (IsV y)) (hs : scal x y = true) : EvP (tOp rEq ta tb) σ G (IsV (.bl (decide (x = y)))) :=
  ev_op mon_v mon_v ha hb fun x' y' G' s ex ey => rv_val (fun H _ Q q => ⟨by rw [ex, ey]; exact hs, by rw [ex, ey]; exact q⟩) rfl
theorem ev_ne (ha : EvP ta σ G (IsV x)) (hb : EvP tb σ G (IsV y)) (hs : scal x y = true) : EvP (tOp rNe ta tb) σ G (IsV (.bl (!decide (x = y)))) :=
  ev_op mon_v mon_v ha hb fun x' y' G' s ex ey => rv_val (fun H _ Q q => ⟨by rw [ex, ey]; exact hs, by rw [ex, ey]; exact q⟩) rfl
theorem ev_eqD {d e : PyData} (ha : EvP ta σ G (DD K d)) (hb : EvP tb σ G (DD K e)) (sd : SeqAt.shaped d = true) (se : SeqAt.shaped e = true) : EvP (tOp (rEqD K) ta tb) σ G (IsV (.bl (PyData.eqv d e))) :=
  ev_op mon_dd mon_dd ha hb fun x y G' s ex ey => rv_val (fun H s2 Q q => ⟨d, e, Dp.l2 _ _ (Dp.up s2 _ _ ex), Dp.l2 _ _ (Dp.up s2 _ _ ey), sd, se, q⟩) rfl
theorem ev_neD {d e : PyData} (ha : EvP ta σ G (DD K d)) (hb : EvP tb σ G (DD K e)) (sd : SeqAt.shaped d = true) (se : SeqAt.shaped e = true) : EvP (tOp (rNeD K) ta tb) σ G (IsV (.bl (!PyData.eqv d e))) :=
  ev_op mon_dd mon_dd ha hb fun x y G' s ex ey => rv_val (fun H s2 Q q => ⟨d, e, Dp.l2 _ _ (Dp.up s2 _ _ ex), Dp.l2 _ _ (Dp.up s2 _ _ ey), sd, se, q⟩) rfl
theorem ev_inD {d : PyData} {ds : List PyData} (ha : EvP ta σ G (DD K d)) (hb : EvP tb σ G (DD K (.list ds))) (sd : SeqAt.shaped d = true) (se : SeqAt.shaped (.list ds) = true) : EvP (tOp (rInD K) ta tb) σ G (IsV (.bl (ds.any fun z => PyData.eqv z d))) :=
  ev_op mon_dd mon_dd ha hb fun x y G' s ex ey => rv_val (fun H s2 Q q => ⟨d, ds, Dp.l2 _ _ (Dp.up s2 _ _ ex), Dp.l2 _ _ (Dp.up s2 _ _ ey), sd, se, q⟩) rfl
theorem ev_niD {d : PyData} {ds : List PyData} (ha : EvP ta σ G (DD K d)) (hb : EvP tb σ G (DD K (.list ds))) (sd : SeqAt.shaped d = true) (se : SeqAt.shaped (.list ds) = true) : EvP (tOp (rNotInD K) ta tb) σ G (IsV (.bl (!ds.any fun z => PyData.eqv z d))) :=
  ev_op mon_dd mon_dd ha hb fun x y G' s ex ey => rv_val (fun H s2 Q q => ⟨d, ds, Dp.l2 _ _ (Dp.up s2 _ _ ex), Dp.l2 _ _ (Dp.up s2 _ _ ey), sd, se, q⟩) rfl
theorem at_dp {vs : List V} {ds : List PyData} {i : Int} {d : PyData} (h : DpAll K G vs ds) (e : atI ds i = some d) : ∃ v, atI vs i = some v ∧ Dp K G v d := by
  unfold atI at e ⊢
  rw [DpAll.len h]
  cases z : ixN ds.length i with
  | none => rw [z] at e; cases e
  | some j =>
    rw [z] at e
    exact DpAll.get' h e
theorem ev_ixT {ds : List PyData} {i : Int} {d : PyData} (ha : EvP ta σ G (DD K (.tuple ds))) (hb : EvP tb σ G (IsV (.int i))) (e : atI ds i = some d) : EvP (tOp (rIxT K) ta tb) σ G (DD K d) :=
  ev_op mon_dd mon_v ha hb fun x y G' s ex ey H s2 Q q => by
    obtain ⟨a, xs, e1, h1, h2⟩ := dp_tup ex
    obtain ⟨v, e2, h3⟩ := at_dp h2 e
    exact ⟨a, xs, i, v, e1, ey, Hk.Same.seqT s2 h1, e2, q v G' H (Gr.refl s2) h3⟩
theorem ev_ixL {ds : List PyData} {i : Int} {d : PyData} (ha : EvP ta σ G (DD K (.list ds))) (hb : EvP tb σ G (IsV (.int i))) (e : atI ds i = some d) : EvP (tOp (rIxL K) ta tb) σ G (DD K d) :=
  ev_op mon_dd mon_v ha hb fun x y G' s ex ey H s2 Q q => by
    obtain ⟨a, xs, e1, h1, h2⟩ := dp_list ex
    obtain ⟨v, e2, h3⟩ := at_dp h2 e
    exact ⟨a, xs, i, v, e1, ey, s2.seq h1, e2, q v G' H (Gr.refl s2) h3⟩
/-- x in a written tuple, a list of flat things -/
theorem ev_inF {xs : List V} {neg : Bool} (ha : EvP ta σ G (IsV x)) (hb : EvP tb σ G (fun v G' => ∃ p, v = .ref p ∧ (SqL K G' p xs ∨ SqT K G' p xs))) (hx : flatV x = true) (hf : xs.all flatV = true) :
    EvP (tOp (rIn K neg) ta tb) σ G (IsV (.bl (if neg then !inV x xs else inV x xs))) :=
  ev_op mon_v (fun v _ _ e ⟨p, h1, h2⟩ => ⟨p, h1, h2.elim (fun z => .inl (e.seq z)) fun z => .inr (Hk.Same.seqT e z)⟩) ha hb fun x' y G' s ex ⟨p, ey, hp⟩ => rv_val (fun H s2 Q q =>
    ⟨p, xs, ey, hp.elim (fun z => .inl (s2.seq z)) fun z => .inr (Hk.Same.seqT s2 z), by rw [ex]; exact hx, hf, by rw [ex]; exact q⟩) rfl
theorem strs_flat (xs : List Str) : (xs.map V.str).all flatV = true := by
  rw [List.all_eq_true]
  intro v hv
  obtain ⟨x, _, rfl⟩ := List.mem_map.mp hv
  rfl
theorem ev_tupF {ta : TA} {xs : List V} (h : EvA ta σ G (fun vs _ => vs = xs)) (hl : xs.length ≤ 1000) : EvP (tTup ta) σ G (fun v G' => ∃ p, v = .ref p ∧ (SqL K G' p xs ∨ SqT K G' p xs)) := fun H s Q q =>
  h H s _ fun vs G1 H1 g1 e => ⟨by rw [e]; exact Nat.le_trans hl (by decide), fun p hp => q (.ref p) _ _ (g1.trans (Gr.new g1.sub hp)) ⟨p, rfl, .inr (by rw [e]; exact SqT.of upd_same)⟩⟩
theorem dd_strs {xs : List Str} (h : EvP ta σ G (DD K (.list (xs.map PyData.str)))) : EvP ta σ G (fun v G' => ∃ p, v = .ref p ∧ (SqL K G' p (xs.map V.str) ∨ SqT K G' p (xs.map V.str))) :=
  h.imp fun v G' _ hd => by
    obtain ⟨a, ys, e1, h1, h2⟩ := dp_list hd
    rw [DpAll.to_strs h2] at h1
    exact ⟨a, e1, .inl h1⟩
theorem dd_strsT {xs : List Str} (h : EvP ta σ G (DD K (.tuple (xs.map PyData.str)))) : EvP ta σ G (fun v G' => ∃ p, v = .ref p ∧ (SqL K G' p (xs.map V.str) ∨ SqT K G' p (xs.map V.str))) :=
  h.imp fun v G' _ hd => by
    obtain ⟨a, ys, e1, h1, h2⟩ := dp_tup hd
    rw [DpAll.to_strs h2] at h1
    exact ⟨a, e1, .inr h1⟩
theorem dd_str {x : Str} (h : EvP ta σ G (DD K (.str x))) : EvP ta σ G (IsV (.str x)) := h.imp fun _ _ _ e => dp_str e
theorem dd_int {x : Int} (h : EvP ta σ G (DD K (.int x))) : EvP ta σ G (IsV (.int x)) := h.imp fun _ _ _ e => dp_int e
theorem dd_bl {x : Bool} (h : EvP ta σ G (DD K (.bool x))) : EvP ta σ G (IsV (.bl x)) := h.imp fun _ _ _ e => dp_bl e
theorem str_dd {x : Str} (h : EvP ta σ G (IsV (.str x))) : EvP ta σ G (DD K (.str x)) := h.imp fun _ _ _ e => by rw [e]; exact .str x
theorem int_dd {x : Int} (h : EvP ta σ G (IsV (.int x))) : EvP ta σ G (DD K (.int x)) := h.imp fun _ _ _ e => by rw [e]; exact .int x
theorem bl_dd {x : Bool} (h : EvP ta σ G (IsV (.bl x))) : EvP ta σ G (DD K (.bool x)) := h.imp fun _ _ _ e => by rw [e]; exact .bl x

/-! ### calls of built-ins -/
theorem ev_cb {ta : TA} {R : List V → Hp → Prop} {r : List V → Hp → VK → Prop} (ha : EvA ta σ G R) (hr : ∀ vs G', Same G G' → R vs G' → RcP r vs G' P) : EvP (tCB r ta) σ G P := fun H s Q q =>
  ha H s _ fun vs G1 H1 g1 p1 => hr vs G1 g1.gg p1 H1 g1.sub Q fun v G2 H2 g2 p2 => q v G2 H2 (g1.trans g2) p2
theorem ev_lenL {ds : List PyData} (h : EvP ta σ G (DD K (.list ds))) : EvP (tCB (fun xs H Q => ∃ p ys, xs = [.ref p] ∧ (SqL K H p ys ∨ SqT K H p ys) ∧ Q (.int ys.length) H) (tCons ta tNil)) σ G (IsV (.int ds.length)) := fun H s Q q =>
  h H s _ fun v G1 H1 g1 hd => by
    obtain ⟨a, xs, e1, h1, h2⟩ := dp_list hd
    exact ⟨a, xs, by rw [e1], .inl (g1.sub.seq h1), by rw [DpAll.len h2]; exact q _ G1 H1 g1 rfl⟩
theorem ev_lenT {ds : List PyData} (h : EvP ta σ G (DD K (.tuple ds))) : EvP (tCB (fun xs H Q => ∃ p ys, xs = [.ref p] ∧ (SqL K H p ys ∨ SqT K H p ys) ∧ Q (.int ys.length) H) (tCons ta tNil)) σ G (IsV (.int ds.length)) := fun H s Q q =>
  h H s _ fun v G1 H1 g1 hd => by
    obtain ⟨a, xs, e1, h1, h2⟩ := dp_tup hd
    exact ⟨a, xs, by rw [e1], .inr (Hk.Same.seqT g1.sub h1), by rw [DpAll.len h2]; exact q _ G1 H1 g1 rfl⟩
theorem ev_lenS {z : Str} (h : EvP ta σ G (IsV (.str z))) (hz : z.length ≤ 1000) : EvP (tCB (fun xs H Q => ∃ z, xs = [.str z] ∧ z.length ≤ sizeLine ∧ Q (.int z.length) H) (tCons ta tNil)) σ G (IsV (.int z.length)) := fun H s Q q =>
  h H s _ fun v G1 H1 g1 e => ⟨z, by rw [e], Nat.le_trans hz (by decide), q _ G1 H1 g1 rfl⟩
theorem ev_all {bs : List Bool} (h : EvP ta σ G (DD K (.list (bs.map PyData.bool)))) : EvP (tCB (rAll K) (tCons ta tNil)) σ G (IsV (.bl (bs.all id))) := fun H s Q q =>
  h H s _ fun v G1 H1 g1 hd => by
    obtain ⟨a, xs, e1, h1, h2⟩ := dp_list hd
    rw [DpAll.to_bools h2] at h1
    exact ⟨a, bs, by rw [e1], g1.sub.seq h1, q _ G1 H1 g1 rfl⟩
theorem ev_any {bs : List Bool} (h : EvP ta σ G (DD K (.list (bs.map PyData.bool)))) : EvP (tCB (rAny K) (tCons ta tNil)) σ G (IsV (.bl (bs.any id))) := fun H s Q q =>
  h H s _ fun v G1 H1 g1 hd => by
    obtain ⟨a, xs, e1, h1, h2⟩ := dp_list hd
    rw [DpAll.to_bools h2] at h1
    exact ⟨a, bs, by rw [e1], g1.sub.seq h1, q _ G1 H1 g1 rfl⟩
/-! isinstance -/
def tyD : PyData → String
  | .none => "NoneType" | .bool _ => "bool" | .int _ => "int" | .str _ => "str" | .list _ => "list" | .tuple _ => "tuple" | .dict _ => "dict"
theorem tyx_dp {d : PyData} (h : Dp K G v d) : TyX K G v (.type (tyD d)) := by
  cases h with
  | non => exact .base .non
  | bl b => exact .base (.bl b)
  | int i => exact .base (.int i)
  | str x => exact .base (.str x)
  | lst h1 h2 => exact .base (.lst h1)
  | tup h1 h2 => exact .base (.tup h1)
theorem ev_isi {d : PyData} {T : String} {b : Bool} (h : EvP ta σ G (DD K d)) (hk : kitB (tyD d) T = some b) : EvP (tCB (rIsi K) (tCons ta (tCons (tC (.ty T)) tNil))) σ G (IsV (.bl b)) := fun H s Q q =>
  h H s _ fun v G1 H1 g1 hd => ⟨v, .ty T, _, .type T, b, rfl, .ty T, tyx_dp (Dp.up g1.sub _ _ hd), kit_ty hk, q _ G1 H1 g1 rfl⟩
theorem ev_isi2 {d : PyData} {T U : String} {a b : Bool} (h : EvP ta σ G (DD K d)) (h1 : kitB (tyD d) T = some a) (h2 : kitB (tyD d) U = some b) :
    EvP (tCB (rIsiT K) (tCons ta (tCons (tTup (tCons (tC (.ty T)) (tCons (tC (.ty U)) tNil))) tNil))) σ G (IsV (.bl (a || b))) := fun H s Q q =>
  h H s _ fun v G1 H1 g1 hd => ⟨by show 2 ≤ sizeLine; decide, fun p hp => by
    have g2 := g1.trans (Gr.new (o := .tup [.ty T, .ty U]) g1.sub hp)
    refine ⟨v, p, [.ty T, .ty U], _, [.type T, .type U], a || b, rfl, upd_same, .cons (.ty T) (.cons (.ty U) .nil), tyx_dp (Dp.up ((g1.sub).trans (same_new hp)) _ _ hd), ?_, q _ _ _ g2 rfl⟩
    refine kitAny_cons (b := a) (kit_ty h1) (fun ea => ?_) fun ea => by rw [ea]; rfl
    refine kitAny_cons (b := b) (kit_ty h2) (fun eb => ?_) fun eb => by rw [eb, Bool.or_true]
    rw [ea, eb]; exact kitAny_nil⟩
theorem ev_isiC {C : Addr} {fs : List (Str × V)} (h : EvP ta σ G (Ins C fs)) : EvP (tCB (fun xs H Q => ∃ a dx fs, xs = [.ref a, .ref C] ∧ H a = some (.ins C dx fs) ∧ Q (.bl true) H) (tCons ta (tCons (tC (.ref C)) tNil))) σ G (IsV (.bl true)) := fun H s Q q =>
  h H s _ fun v G1 H1 g1 ⟨a, dx, e, hi⟩ => ⟨a, dx, fs, by rw [e], g1.sub _ _ hi, q _ G1 H1 g1 rfl⟩
end

/-! ### promises -/
section
variable {K : PySem.W.Frag} {σ : L2.St} {G G' : Hp} {ta tb te tc : TE} {P : VP}
/-- what a def promises: i stands for what the arguments stand for -/
def SpI {α : Type} (pre : α → List V → Hp → Prop) (post : α → VP) : Sp := fun vs H Q _ => ∃ (i : α) (G : Hp), Same G H ∧ pre i vs G ∧ ∀ v G2 H2, Gr G H G2 H2 → post i v G2 → Q v H2
/-- a def that makes something new that may change -/
def SpM {α : Type} (pre : α → List V → Hp → Prop) (post : α → HO → Hp → Prop) : Sp := fun vs H Q _ => ∃ (i : α) (G : Hp), Same G H ∧ pre i vs G ∧
  ∀ p o G2 H2, Gr G H G2 H2 → H p = none → G2 p = none → H2 p = some o → post i o G2 → Q (.ref p) H2
theorem ev_call {α : Type} {pre : α → List V → Hp → Prop} {post : α → VP} {t : TA} {E : XK} (i : α) (h : EvA t σ G (pre i)) : EvP (tCall (SpI pre post) [] E t) σ G (post i) := fun H s Q q =>
  h H s _ fun vs G1 H1 g1 p1 => ⟨i, G1, g1.sub, by rw [List.append_nil]; exact p1, fun v G2 H2 g2 p2 => q v G2 H2 (g1.trans g2) p2⟩
theorem em_call {α : Type} {pre : α → List V → Hp → Prop} {post : α → HO → Hp → Prop} {t : TA} {E : XK} (i : α) (h : EvA t σ G (pre i)) : EvM (tCall (SpM pre post) [] E t) σ G (post i) := fun H s Q q =>
  h H s _ fun vs G1 H1 g1 p1 => ⟨i, G1, g1.sub, by rw [List.append_nil]; exact p1, fun p o G2 H2 g2 h0 hg e p2 => q p o G2 H2 (g1.trans g2) (g1.free0 h0) hg e p2⟩
theorem ev_meth {α : Type} {C : Addr} {m : Str} {fs : List (Str × V)} {pre : α → List V → Hp → Prop} {post : α → VP} {t : TA} {E : XK} (i : α) (ho : EvP ta σ G (Ins C fs)) (l : fs.lookup m = none)
    (h : ∀ v G', Same G G' → Ins C fs v G' → EvA t σ G' (fun vs G2 => pre i (v :: vs) G2)) : EvP (tMeth C m (SpI pre post) [] E ta t) σ G (post i) := fun H s Q q =>
  ho H s _ fun v G1 H1 g1 p1 => by
    obtain ⟨a, dx, e, hi⟩ := p1
    refine ⟨a, dx, fs, e, g1.sub _ _ hi, l, h v G1 g1.gg ⟨a, dx, e, hi⟩ H1 g1.sub _ fun vs G2 H2 g2 p2 => ?_⟩
    exact ⟨i, G2, g2.sub, by rw [List.append_nil]; exact p2, fun w G3 H3 g3 p3 => q w G3 H3 ((g1.trans g2).trans g3) p3⟩
theorem em_meth {α : Type} {C : Addr} {m : Str} {fs : List (Str × V)} {pre : α → List V → Hp → Prop} {post : α → HO → Hp → Prop} {t : TA} {E : XK} (i : α) (ho : EvP ta σ G (Ins C fs)) (l : fs.lookup m = none)
    (h : ∀ v G', Same G G' → Ins C fs v G' → EvA t σ G' (fun vs G2 => pre i (v :: vs) G2)) : EvM (tMeth C m (SpM pre post) [] E ta t) σ G (post i) := fun H s Q q =>
  ho H s _ fun v G1 H1 g1 p1 => by
    obtain ⟨a, dx, e, hi⟩ := p1
    refine ⟨a, dx, fs, e, g1.sub _ _ hi, l, h v G1 g1.gg ⟨a, dx, e, hi⟩ H1 g1.sub _ fun vs G2 H2 g2 p2 => ?_⟩
    exact ⟨i, G2, g2.sub, by rw [List.append_nil]; exact p2, fun p o G3 H3 g3 h0 hg e3 p3 => q p o G3 H3 ((g1.trans g2).trans g3) ((g1.trans g2).free0 h0) hg e3 p3⟩
end
end Hk

set_option Elab.async false
set_option linter.all false
set_option maxRecDepth 100000
set_option maxHeartbeats 2000000
/-! What is walked, comprehensions, loops. -/
namespace Hk
open PySem L2

/-- what is walked: bs, at its turn b what is given stands for b -/
def SrcB {β : Type} (wi : TI) (σ : L2.St) (G : Hp) (bs : List β) (I : β → VP) : Prop := ∀ H, Same G H → ∀ R : It → Hp → Prop,
  (∀ J G1 H1, Gr G H G1 H1 → Walk J bs.length (fun H' => Same G1 H') (fun i H' x H2 => ∀ G', Same G1 G' → Same G' H' → ∃ G2 b, Gr G' H' G2 H2 ∧ bs[i]? = some b ∧ I b x G2) → R J H1) → wi σ H R
section
variable {K : PySem.W.Frag} {σ : L2.St} {G G' : Hp} {ta tb te tl : TE} {β : Type} {bs : List β} {enc : β → PyData}
theorem dpa_map {vs : List V} {i : Nat} {v : V} (h : DpAll K G vs (bs.map enc)) (e : vs[i]? = some v) : ∃ b, bs[i]? = some b ∧ Dp K G v (enc b) := by
  obtain ⟨d, h1, h2⟩ := DpAll.get h e
  rw [List.getElem?_map] at h1
  obtain ⟨b, hb, rfl⟩ := Option.map_eq_some_iff.mp h1
  exact ⟨b, hb, h2⟩
theorem src_list (h : EvP tl σ G (DD K (.list (bs.map enc)))) : SrcB (iList K tl) σ G bs (fun b => DD K (enc b)) := fun H s R k =>
  h H s _ fun v G1 H1 g1 hd => by
    obtain ⟨a, xs, e1, h1, h2⟩ := dp_list hd
    refine ⟨a, e1, ⟨xs, g1.sub.seq h1⟩, k _ G1 H1 g1 ?_⟩
    have hl : xs.length = bs.length := by rw [DpAll.len h2, List.length_map]
    rw [← hl]
    refine walk_list.mono (fun H' s' => s'.seq h1) fun i H' x H2 hi s' y G' s1 s2 => ?_
    obtain ⟨e, hx⟩ := y
    obtain ⟨b, hb, hdb⟩ := dpa_map h2 hx
    exact ⟨G', b, by rw [e]; exact Gr.refl s2, hb, Dp.up s1 _ _ hdb⟩
theorem src_tup (h : EvP tl σ G (DD K (.tuple (bs.map enc)))) : SrcB (iTup K tl) σ G bs (fun b => DD K (enc b)) := fun H s R k =>
  h H s _ fun v G1 H1 g1 hd => by
    obtain ⟨a, xs, e1, h1, h2⟩ := dp_tup hd
    refine ⟨a, e1, ⟨xs, Hk.Same.seqT g1.sub h1⟩, k _ G1 H1 g1 ?_⟩
    have hl : xs.length = bs.length := by rw [DpAll.len h2, List.length_map]
    rw [← hl]
    refine walk_tup.mono (fun H' s' => Hk.Same.seqT s' h1) fun i H' x H2 hi s' y G' s1 s2 => ?_
    obtain ⟨e, hx⟩ := y
    obtain ⟨b, hb, hdb⟩ := dpa_map h2 hx
    exact ⟨G', b, by rw [e]; exact Gr.refl s2, hb, Dp.up s1 _ _ hdb⟩
theorem src_str {z : Str} (h : EvP te σ G (IsV (.str z))) : SrcB (iStr te) σ G z.cps.toList (fun c => IsV (.str ⟨#[c]⟩)) := fun H s R k =>
  h H s _ fun v G1 H1 g1 e => by
    refine ⟨z, e, k _ G1 H1 g1 ?_⟩
    rw [Array.length_toList]
    refine walk_str.mono (fun _ _ => trivial) fun i H' x H2 hi s' y G' s1 s2 => ?_
    obtain ⟨e, c, hc, ex⟩ := y
    exact ⟨G', c, by rw [e]; exact Gr.refl s2, by rw [Array.getElem?_toList]; exact hc, ex⟩
theorem src_range {n : Nat} (h : EvP te σ G (IsV (.int n))) (hn : n ≤ 1000000) : SrcB (iRng1 (tCons te tNil)) σ G (List.range n) (fun i => IsV (.int (i : Nat))) := fun H s R k =>
  h H s _ fun v G1 H1 g1 e => by
    refine ⟨(n : Int), by rw [e], by omega, by omega, k _ G1 H1 g1 ?_⟩
    rw [List.length_range]
    refine walk_range.mono (fun _ _ => trivial) fun i H' x H2 hi s' y G' s1 s2 => ?_
    obtain ⟨e, ex⟩ := y
    exact ⟨G', i, by rw [e]; exact Gr.refl s2, List.getElem?_range (show i < n from hi), by rw [ex]; show V.int ((0:Int) + (i:Int)) = _; rw [Int.zero_add]⟩
theorem src_enum (h : EvP te σ G (DD K (.list (bs.map enc)))) : SrcB (iEnum K (tCons te tNil)) σ G bs.zipIdx (fun p => DD K (.tuple [.int (p.2 : Nat), enc p.1])) := fun H s R k =>
  h H s _ fun v G1 H1 g1 hd => by
    obtain ⟨a, xs, e1, h1, h2⟩ := dp_list hd
    refine ⟨a, xs, by rw [e1], g1.sub.seq h1, k _ G1 H1 g1 ?_⟩
    have hl : xs.length = bs.length := by rw [DpAll.len h2, List.length_map]
    rw [List.length_zipIdx, ← hl]
    refine walk_enum.mono (fun H' s' => s'.seq h1) fun i H' x H2 hi s' y G' s1 s2 => ?_
    obtain ⟨T, x1, x2, e, hT, e2, h3, h4⟩ := y
    obtain ⟨b, hb, hdb⟩ := dpa_map h2 h4
    cases h3
    refine ⟨upd G' T (.tup [.int (i : Nat), x2]), (b, i), by rw [e2]; exact Gr.new s2 hT, by simp [List.getElem?_zipIdx, hb], ?_⟩
    rw [e]
    exact .tup upd_same (.cons (.int _) (.cons (Dp.up (s1.trans (same_new (s2.free hT))) _ _ hdb) .nil))
/-- a key of our dicts -/
def keyD (k : List Key) : PyData := .tuple (k.map fun x => match x with | .inl i => .int i | .inr z => .str z)
theorem keys_dp : ∀ k : List Key, DpAll K G (k.map kV) (k.map fun x => match x with | .inl i => PyData.int i | .inr z => .str z)
  | [] => .nil
  | .inl i :: k => .cons (.int i) (keys_dp k)
  | .inr z :: k => .cons (.str z) (keys_dp k)
theorem src_keysT {kvs : List (List Key × V)} (h : EvP te σ G (fun v G' => ∃ d o, v = .ref d ∧ G' d = some (.frz o (.dT kvs)))) : SrcB (iKeys te) σ G kvs (fun p => DD K (keyD p.1)) := fun H s R k =>
  h H s _ fun v G1 H1 g1 hd => by
    obtain ⟨d, o, e1, h1⟩ := hd
    refine ⟨d, o, e1, .inr ⟨kvs, g1.sub _ _ h1, k _ G1 H1 g1 ?_⟩⟩
    refine walk_keysT.mono (fun H' s' => s' _ _ h1) fun i H' x H2 hi s' y G' s1 s2 => ?_
    obtain ⟨e, kk, v', q, h2, h3, h4⟩ := y
    refine ⟨upd G' q (.tup (kk.map kV)), (kk, v'), by rw [e]; exact (Gr.refl s2).tup h4, h2, ?_⟩
    rw [h3]
    exact .tup upd_same (keys_dp kk)

/-! ### targets -/
def Tgt (g : TG) (v : V) (σ σ2 : L2.St) (G : Hp) : Prop := ∀ H, Same G H → ∀ Q : L2.St → Hp → Prop, Q σ2 H → g v σ H Q
theorem tgt_name {j : Nat} {v : V} : Tgt (gName j) v σ (σ.set j (some v)) G := fun _ _ _ q => q
theorem tgt_tup {a : Addr} {xs : List V} {n : Nat} {t : TGs} {σ2 : L2.St} (h : SqT K G a xs) (hl : xs.length = n) (ht : ∀ H, Same G H → ∀ Q : L2.St → Hp → Prop, Q σ2 H → t xs σ H Q) : Tgt (gTup K n t) (.ref a) σ σ2 G := fun H s Q q =>
  ⟨a, xs, rfl, Hk.Same.seqT s h, hl, ht H s Q q⟩
/-- (x, y) = a pair -/
theorem tgt_2 {g1 g2 : TG} {v : V} {d1 d2 : PyData} {σ1 : V → L2.St} {σ2 : V → V → L2.St} (h : Dp K G v (.tuple [d1, d2])) (h1 : ∀ v1, Dp K G v1 d1 → Tgt g1 v1 σ (σ1 v1) G) (h2 : ∀ v1 v2, Dp K G v1 d1 → Dp K G v2 d2 → Tgt g2 v2 (σ1 v1) (σ2 v1 v2) G) :
    ∃ v1 v2, Dp K G v1 d1 ∧ Dp K G v2 d2 ∧ Tgt (gTup K 2 (gCons g1 (gCons g2 gNil))) v σ (σ2 v1 v2) G := by
  obtain ⟨a, xs, rfl, hs, ha⟩ := dp_tup h
  cases ha with
  | @cons v1 _ _ _ p1 ha =>
    cases ha with
    | @cons v2 _ _ _ p2 ha =>
      cases ha
      exact ⟨v1, v2, p1, p2, tgt_tup hs rfl fun H s Q q => ⟨v1, _, rfl, h1 v1 p1 H s _ ⟨v2, _, rfl, h2 v1 v2 p1 p2 H s _ ⟨rfl, q⟩⟩⟩⟩
theorem tgt_3 {g1 g2 g3 : TG} {v : V} {d1 d2 d3 : PyData} {σ1 : V → L2.St} {σ2 : V → V → L2.St} {σ3 : V → V → V → L2.St} (h : Dp K G v (.tuple [d1, d2, d3])) (h1 : ∀ v1, Dp K G v1 d1 → Tgt g1 v1 σ (σ1 v1) G) (h2 : ∀ v1 v2, Dp K G v1 d1 → Dp K G v2 d2 → Tgt g2 v2 (σ1 v1) (σ2 v1 v2) G)
    (h3 : ∀ v1 v2 v3, Dp K G v1 d1 → Dp K G v2 d2 → Dp K G v3 d3 → Tgt g3 v3 (σ2 v1 v2) (σ3 v1 v2 v3) G) :
    ∃ v1 v2 v3, Dp K G v1 d1 ∧ Dp K G v2 d2 ∧ Dp K G v3 d3 ∧ Tgt (gTup K 3 (gCons g1 (gCons g2 (gCons g3 gNil)))) v σ (σ3 v1 v2 v3) G := by
  obtain ⟨a, xs, rfl, hs, ha⟩ := dp_tup h
  cases ha with
  | @cons v1 _ _ _ p1 ha =>
    cases ha with
    | @cons v2 _ _ _ p2 ha =>
      cases ha with
      | @cons v3 _ _ _ p3 ha =>
        cases ha
        exact ⟨v1, v2, v3, p1, p2, p3, tgt_tup hs rfl fun H s Q q => ⟨v1, _, rfl, h1 v1 p1 H s _ ⟨v2, _, rfl, h2 v1 v2 p1 p2 H s _ ⟨v3, _, rfl, h3 v1 v2 v3 p1 p2 p3 H s _ ⟨rfl, q⟩⟩⟩⟩⟩

/-! ### comprehensions -/
theorem take_filter_yes {keep : β → Bool} {i : Nat} {b : β} (h : bs[i]? = some b) (k : keep b = true) : (bs.take (i + 1)).filter keep = (bs.take i).filter keep ++ [b] := by
  rw [List.take_add_one, h, List.filter_append]; simp [k]
theorem take_filter_no {keep : β → Bool} {i : Nat} {b : β} (h : bs[i]? = some b) (k : keep b = false) : (bs.take (i + 1)).filter keep = (bs.take i).filter keep := by
  rw [List.take_add_one, h, List.filter_append]; simp [k]
def Each (R : β → VP) (G : Hp) : List β → List V → Prop := Paired fun b v => R b v G
theorem Each.up {R : β → VP} (m : ∀ b, Mon (R b)) {l : List β} {vs : List V} (s : Same G G') (h : Each R G l vs) : Each R G' l vs := Paired.mapP h fun b v p => m b v G G' s p
theorem Each.snoc {R : β → VP} : ∀ {l : List β} {vs : List V} {b : β} {v : V}, Each R G l vs → R b v G → Each R G (l ++ [b]) (vs ++ [v])
  | _, _, _, _, .nil, h => .cons h .nil
  | _, _, _, _, .cons p t, h => .cons p (Each.snoc t h)
theorem Each.dp {R : β → VP} : ∀ {l : List β} {vs : List V}, Each R G l vs → (∀ b v, R b v G → Dp K G v (enc b)) → DpAll K G vs (l.map enc)
  | _, _, .nil, _ => .nil
  | _, _, .cons p t, f => .cons (f _ _ p) (Each.dp t f)
theorem em_lc {wi : TI} {g : TG} {tt : TT} {vs : List Nat} {I R : β → VP} {keep : β → Bool} (src : SrcB wi σ G bs I) (m : ∀ b, Mon (R b)) (hz : bs.length ≤ sizeLine)
    (turn : ∀ b, b ∈ bs → ∀ v G', Same G G' → I b v G' → ∃ σ2, Tgt g v (wipe σ vs) σ2 G' ∧ wipe σ2 vs = wipe σ vs ∧ EvB tt σ2 G' (keep b) ∧ (keep b = true → EvP te σ2 G' (R b))) :
    EvM (tLc wi g tt te vs) σ G (fun o G' => ∃ xs, o = .lst xs ∧ Each R G' (bs.filter keep) xs) := fun H s Q q =>
  src H s _ fun J G1 H1 g1 w D hD => by
    refine lc_it w (fun i H' => ∃ G' acc, Gr G1 H1 G' H' ∧ G' D = none ∧ H' D = some (.lst acc) ∧ Each R G' ((bs.take i).filter keep) acc) ?_ (fun i H' _ ⟨G', acc, g, _⟩ => g.gg.trans g.sub) ?_ ?_
    · exact ⟨G1, [], (Gr.refl g1.sub).mnew hD, g1.freeG hD, upd_same, by simpa using (show Each R G1 [] [] from .nil)⟩
    · rintro i x H' H2 hi ⟨G', acc, g, hg, hD', he⟩ y
      obtain ⟨G2, b, g2, hb, ib⟩ := y G' g.gg g.sub
      obtain ⟨σ2, ht, hw, htt, hte⟩ := turn b (List.mem_of_getElem? hb) x G2 (g1.gg.trans (g.gg.trans g2.gg)) ib
      refine ht H2 g2.sub _ ⟨hw, htt H2 g2.sub _ fun G3 H3 g3 => ?_⟩
      have nt : ∀ ys : List V, HO.lst acc ≠ HO.tup ys := fun _ z => nomatch z
      have gD3 : G3 D = none := (g2.trans g3).old D _ hg hD' nt
      have hD3 : H3 D = some (.lst acc) := (g2.trans g3).hh _ _ hD'
      cases hk : keep b with
      | true =>
        rw [if_pos rfl]
        refine (hte hk).up (m b) g3.gg H3 g3.sub _ fun v G4 H4 g4 p4 => ?_
        have e4 : Each R G4 ((bs.take i).filter keep) acc := Each.up m ((g2.trans g3).trans g4).gg he
        have gD4 : G4 D = none := g4.old D _ gD3 hD3 nt
        have hl : acc.length < sizeLine := by
          have h1 := Paired.length he
          have h2 := List.length_filter_le keep (bs.take i)
          rw [List.length_take] at h2
          omega
        refine ⟨acc, g4.hh _ _ hD3, hl, G4, acc ++ [v], (g.trans ((g2.trans g3).trans g4)).mut hD gD4, gD4, upd_same, ?_⟩
        rw [take_filter_yes hb hk]
        exact Each.snoc e4 p4
      | false =>
        rw [if_neg (by simp)]
        refine ⟨G3, acc, g.trans (g2.trans g3), gD3, hD3, ?_⟩
        rw [take_filter_no hb hk]
        exact Each.up m (g2.trans g3).gg he
    · rintro H' ⟨G', acc, g, hg, hD', he⟩
      rw [List.take_length] at he
      exact q D _ G' H' (g1.trans g) (g1.free0 hD) hg hD' ⟨acc, rfl, he⟩
theorem eb_yes : EvB tYes σ G true := fun H s _ q => q G H (Gr.refl s)
theorem ev_lc {wi : TI} {g : TG} {tt : TT} {vs : List Nat} {I : β → VP} {keep : β → Bool} (f : β → PyData) (src : SrcB wi σ G bs I) (hz : bs.length ≤ sizeLine)
    (turn : ∀ b, b ∈ bs → ∀ v G', Same G G' → I b v G' → ∃ σ2, Tgt g v (wipe σ vs) σ2 G' ∧ wipe σ2 vs = wipe σ vs ∧ EvB tt σ2 G' (keep b) ∧ (keep b = true → EvP te σ2 G' (DD K (f b)))) :
    EvP (tLc wi g tt te vs) σ G (DD K (.list ((bs.filter keep).map f))) :=
  (em_lc src (fun _ => mon_dd) hz turn).stay fun p o G' hp ⟨xs, e, h⟩ => by
    subst e
    exact .lst upd_same (DpAll.up (same_new hp) _ _ (Each.dp h fun _ _ z => z))
/-- no test -/
theorem ev_lc1 {wi : TI} {g : TG} {vs : List Nat} {I : β → VP} (f : β → PyData) (src : SrcB wi σ G bs I) (hz : bs.length ≤ sizeLine)
    (turn : ∀ b, b ∈ bs → ∀ v G', Same G G' → I b v G' → ∃ σ2, Tgt g v (wipe σ vs) σ2 G' ∧ wipe σ2 vs = wipe σ vs ∧ EvP te σ2 G' (DD K (f b))) :
    EvP (tLc wi g tYes te vs) σ G (DD K (.list (bs.map f))) := by
  have h := ev_lc (keep := fun _ => true) (tt := tYes) f src hz fun b hb v G' s i => by
    obtain ⟨σ2, h1, h2, h3⟩ := turn b hb v G' s i
    exact ⟨σ2, h1, h2, eb_yes, fun _ => h3⟩
  rw [List.filter_eq_self.mpr (fun _ _ => rfl)] at h
  exact h

/-! ### for -/
theorem for_src {wi : TI} {g : TG} {tb : TS} {D : Ends} {H : Hp} {I : β → VP} (src : SrcB wi σ G bs I) (s : Same G H)
    (k : ∀ G1 H1, Gr G H G1 H1 → ∃ Pv : Nat → L2.St → Hp → Hp → Prop, Pv 0 σ G1 H1 ∧
      (∀ i b σ' G' H', bs[i]? = some b → Same G1 G' → Same G' H' → Pv i σ' G' H' → ∀ x G2 H2, Gr G' H' G2 H2 → I b x G2 → g x σ' H2 fun σ2 H3 =>
        tb { D with nx := fun σ'' H'' => ∃ G'', Same G1 G'' ∧ Same G'' H'' ∧ Pv (i + 1) σ'' G'' H'', ct := fun σ'' H'' => ∃ G'', Same G1 G'' ∧ Same G'' H'' ∧ Pv (i + 1) σ'' G'' H'', bk := D.nx } σ2 H3) ∧
      (∀ σ' G' H', Same G1 G' → Same G' H' → Pv bs.length σ' G' H' → D.nx σ' H')) : tFor wi g tb D σ H :=
  src H s _ fun J G1 H1 g1 w => by
    obtain ⟨Pv, h0, hs, hd⟩ := k G1 H1 g1
    refine for_it w (fun i σ' H' => ∃ G', Same G1 G' ∧ Same G' H' ∧ Pv i σ' G' H') ⟨G1, Same.refl _, g1.sub, h0⟩ (fun i σ' H' _ ⟨G', s1, s2, _⟩ => s1.trans s2) ?_ ?_
    · rintro i x σ' H' H2 hi ⟨G', s1, s2, p⟩ y
      obtain ⟨G2, b, g2, hb, ib⟩ := y G' s1 s2
      exact hs i b σ' G' H' hb s1 s2 p x G2 H2 g2 ib
    · rintro σ' H' ⟨G', s1, s2, p⟩
      exact hd σ' G' H' s1 s2 p
end
end Hk

set_option Elab.async false
set_option linter.all false
set_option maxRecDepth 100000
set_option maxHeartbeats 1000000
/-! A generator def's body, its consumer any: it may change its own list at S and its own things at L while the generator sleeps. -/
namespace Hk
open PySem PySem.Spec PyProof.Rows GenW L2

/-- behind a statement (handed out so far, the consumer's list, the slots, the heap); at a yield; what the consumer says when it wakes -/
structure YD where
  nx : List V → List V → L2.St → Hp → Prop
  yl : List V → List V → V → Hp → Prop
  kn : List V → List V → Hp → Prop
  bk : List V → List V → L2.St → Hp → Prop := fun _ _ _ _ => False
  ct : List V → List V → L2.St → Hp → Prop := fun _ _ _ _ => False
abbrev YT := YD → List V → List V → L2.St → Hp → Prop
def Cont (S : Addr) (acc : List V) (h : Heap) : Prop := ∃ (its : List Value) (c : Nat), Vals acc its ∧ h.get? S = some (lstObj its.toArray c)
/-- the generator runs since s₀ -/
structure YI (X : Cx) (S : Addr) (L : List Addr) (s₀ : Shared) (ip : List (Addr × Obj)) (acc : List V) (σ : L2.St) (H : Hp) (s : Shared) : Prop where
  has : ∀ c ∈ S :: L, ∃ o, s₀.heap.get? c = some o
  cont : Cont S acc s₀.heap
  inv : Inv X (pinsAt (S :: L) s₀.heap ++ ip) σ H s
theorem YI.kept {X : Cx} {S : Addr} {L : List Addr} {s₀ : Shared} {ip : List (Addr × Obj)} {acc : List V} {σ : L2.St} {H : Hp} {s : Shared} (h : YI X S L s₀ ip acc σ H s) {c : Addr} (hc : c ∈ S :: L) :
    ∃ o, s₀.heap.get? c = some o ∧ s.heap.get? c = some o ∧ H c = none := by
  obtain ⟨o, ho⟩ := h.has c hc
  have z := h.inv.pin (c, o) (List.mem_append_right _ (List.mem_append_left _ (mem_pinsAt hc ho)))
  exact ⟨o, ho, z.1, z.2.1⟩
theorem YI.at {X : Cx} {S : Addr} {L : List Addr} {s₀ : Shared} {ip : List (Addr × Obj)} {acc : List V} {σ : L2.St} {H : Hp} {s : Shared} (h : YI X S L s₀ ip acc σ H s) : Cont S acc s.heap ∧ H S = none := by
  obtain ⟨o, h1, h2, h3⟩ := h.kept (c := S) List.mem_cons_self
  obtain ⟨its, c, r, e⟩ := h.cont
  rw [h1] at e
  exact ⟨⟨its, c, r, by rw [h2]; exact e⟩, h3⟩
/-- the state when it is woken -/
structure Wk (X : Cx) (S : Addr) (L : List Addr) (ip : List (Addr × Obj)) (H' : Hp) (s s' : Shared) : Prop where
  os : s'.os = X.s_0.os
  bare : AllBare s'.gens
  base : Un X.fs X.ex X.H_0 H' X.s_0.heap s'.heap
  hok : HOk X.prog X.w H' s'.heap
  own : ∀ p ∈ X.pn ++ ip, s'.heap.get? p.1 = some p.2 ∧ H' p.1 = none
  fr : ∀ o, s.heap.get? X.env.locals = some o → s'.heap.get? X.env.locals = some o ∧ H' X.env.locals = none
  out : ∀ c ∈ S :: L, H' c = none ∧ ∃ o, s'.heap.get? c = some o ∧ ∀ v, o.data ≠ .cell v
structure Aprt (X : Cx) (S : Addr) (L : List Addr) : Prop where
  loc : ∀ c ∈ S :: L, c ≠ X.env.locals ∧ c ∉ X.fs
  cells : X.env.cells = []
  pn : ∀ p ∈ X.pn, p.1 ∉ S :: L
theorem YI.woken {X : Cx} {S : Addr} {L : List Addr} {s₀ : Shared} {ip : List (Addr × Obj)} {acc acc' : List V} {σ : L2.St} {H H' : Hp} {s s' : Shared} (A : Aprt X S L) (h : YI X S L s₀ ip acc σ H s) (w : Wk X S L ip H' s s') (c : Cont S acc' s'.heap) :
    YI X S L s' ip acc' σ H' s' := by
  have I := h.inv
  refine ⟨fun d hd => (w.out d hd).2.imp fun o z => z.1, c, I.ok, w.os, w.bare, w.base, ?_, fun x d e => ?_, ?_, fun x d e => ?_, fun p hp => ?_, w.hok, I.len⟩
  · obtain ⟨m, ⟨o, es, ep, ho, r⟩, hl⟩ := I.loc
    refine ⟨m, ⟨o, es, ep, (w.fr o ho).1, r⟩, fun i x v e1 e2 e3 => ?_⟩
    obtain ⟨u, ru, k⟩ := hl i x v e1 e2 e3
    rcases k with k | ⟨k1, d, e, z⟩
    · exact ⟨u, ru, .inl k⟩
    · rw [A.cells] at e; cases e
  · rw [A.cells] at e; cases e
  · obtain ⟨m, ⟨o, es, ep, ho, r⟩, hl⟩ := I.loc
    exact (w.fr o ho).2
  · rw [A.cells] at e; cases e
  · rcases List.mem_append.mp hp with hp1 | hp1
    · have z := I.pin p (List.mem_append_left _ hp1)
      have y := w.own p (List.mem_append_left _ hp1)
      exact ⟨y.1, y.2, z.2.2.1, z.2.2.2.1, z.2.2.2.2⟩
    · rcases List.mem_append.mp hp1 with hp2 | hp2
      · obtain ⟨hb, e⟩ := of_pinsAt hp2
        obtain ⟨z1, o, z2, z3⟩ := w.out p.1 hb
        rw [z2] at e
        cases e
        exact ⟨z2, z1, (A.loc p.1 hb).1, (A.loc p.1 hb).2, z3⟩
      · have z := I.pin p (List.mem_append_right _ (List.mem_append_right _ hp2))
        have y := w.own p (List.mem_append_right _ hp2)
        exact ⟨y.1, y.2, z.2.2.1, z.2.2.2.1, z.2.2.2.2⟩

def YY (X : Cx) (S : Addr) (L : List Addr) (yl : List V → List V → V → Hp → Prop) (kn : List V → List V → Hp → Prop) : Protocol := fun n s₀ v s kap =>
  ∃ ys acc x ip σ H, n + 1 + ys.length = sizeLine ∧ RelV x v ∧ YI X S L s₀ ip acc σ H s ∧ (∀ p ∈ ip, p.1 ∉ S :: L) ∧ yl ys acc x H ∧
    ∀ s' H' acc', Wk X S L ip H' s s' → Same H H' → kn (ys ++ [x]) acc' H' → Cont S acc' s'.heap → kap (.send .none) s'
def YR (X : Cx) (S : Addr) (L : List Addr) (Q : List V → List V → Hp → Prop) (F : Value → Shared → Prop) : GenEnd := fun n s₀ r s => match r with
  | .ok (.ret u) => u = .none ∧ ∃ ys acc ip σ H, YI X S L s₀ ip acc σ H s ∧ Q ys acc H
  | .ok _ => False
  | .error e => F e s
def YP (X : Cx) (S : Addr) (L : List Addr) (s₀ : Shared) (ip : List (Addr × Obj)) (D : YD) (ys acc : List V) (f : Flow) (s : Shared) : Prop :=
  match f with
  | .next => ∃ σ H, YI X S L s₀ ip acc σ H s ∧ D.nx ys acc σ H
  | .brk => ∃ σ H, YI X S L s₀ ip acc σ H s ∧ D.bk ys acc σ H
  | .cont => ∃ σ H, YI X S L s₀ ip acc σ H s ∧ D.ct ys acc σ H
  | .ret _ => False
/-- where the code stands -/
structure YC (X : Cx) (S : Addr) (L : List Addr) (ip : List (Addr × Obj)) (A : Around) (c : Code) (fs : List Frame) (gd : Bool → Bool) : Prop where
  apart : Aprt X S L
  ip : ∀ p ∈ ip, p.1 ∉ S :: L
  over : A.over c fs = X.A
  split : splitAtGen fs = none
  guard : fs.any Frame.guarded = false
  gd : gd false = false
structure YK (X : Cx) (S : Addr) (L : List Addr) (yl : List V → List V → V → Hp → Prop) (kn : List V → List V → Hp → Prop) (ip : List (Addr × Obj)) (A : Around) (R : GenEnd) (c : Code) (fs : List Frame) (K : Flow → Sem PySem.Fin) (J : Value → Sem PySem.Fin) (D : YD) : Prop where
  eyl : D.yl = yl
  ekn : D.kn = kn
  ok : ∀ (n : Nat) (ys acc : List V) (s₀ s : Shared) (f : Flow), n + ys.length = sizeLine → YP X S L s₀ ip D ys acc f s → Seg (model X.prog X.w) A R (YY X S L yl kn) n s₀ c (K f) fs s
  exc : ∀ (n : Nat) (s₀ : Shared) (e : Value) (s : Shared), X.xe e s → Seg (model X.prog X.w) A R (YY X S L yl kn) n s₀ c (J e) fs s
/-- a statement's semantics within a generator -/
def YRun (X : Cx) (t : Sem Flow) (y : YT) : Prop := ∀ (A : Around) (S : Addr) (L : List Addr) (yl : List V → List V → V → Hp → Prop) (kn : List V → List V → Hp → Prop) (ip : List (Addr × Obj)) (R : GenEnd) (n : Nat) (ys acc : List V) (s₀ : Shared) (c : Code) (fs : List Frame) (K : Flow → Sem PySem.Fin) (J : Value → Sem PySem.Fin)
    (gd : Bool → Bool) (lv : List Value → List Value) (s : Shared) (σ : L2.St) (H : Hp) (D : YD),
    YC X S L ip A c fs gd → n + ys.length = sizeLine → YK X S L yl kn ip A R c fs K J D → YI X S L s₀ ip acc σ H s → y D ys acc σ H →
    Seg (model X.prog X.w) A R (YY X S L yl kn) n s₀ c (t.wrap K J gd lv) fs s
structure YS (X : Cx) (st : Stmt) (y : YT) : Prop where
  run : YRun X (exec st X.env) y
structure YSs (X : Cx) (st : List Stmt) (y : YT) : Prop where
  run : YRun X (execs st X.env) y

section
variable {X : Cx} {st : Stmt} {rest : List Stmt}
/-- a statement that hands out nothing -/
def yPlain (t : TS) : YT := fun D ys acc σ H => t { nx := D.nx ys acc, rt := fun _ _ => False, bk := D.bk ys acc, ct := D.ct ys acc } σ H
theorem ys_ps {t : TS} (h : PS X st t) : YS X st (yPlain t) := by
  refine ⟨fun A S L yl kn ip R n ys acc s₀ c fs K J gd lv s σ H D g hn k hI ht => seg_wrap ?_⟩
  rw [g.over]
  refine wpAny_mono (h.run _ s σ H _ hI.inv ht) (fun f s' hs => k.ok n ys acc s₀ s' f hn ?_) fun x s' hx => k.exc n s₀ x s' hx
  cases f with
  | next => obtain ⟨σ', H', I, q⟩ := hs; exact ⟨σ', H', ⟨hI.has, hI.cont, I⟩, q⟩
  | brk => obtain ⟨σ', H', I, q⟩ := hs; exact ⟨σ', H', ⟨hI.has, hI.cont, I⟩, q⟩
  | cont => obtain ⟨σ', H', I, q⟩ := hs; exact ⟨σ', H', ⟨hI.has, hI.cont, I⟩, q⟩
  | ret u => obtain ⟨v, σ', H', I, r1, q⟩ := hs; exact q.elim
def y0 : YT := fun D ys acc σ H => D.nx ys acc σ H
theorem yss_nil : YSs X [] y0 :=
  ⟨fun A S L yl kn ip R n ys acc s₀ c fs K J gd lv s σ H D g hn k hI ht => seg_execs_nil (k.ok n ys acc s₀ s .next hn ⟨σ, H, hI, ht⟩)⟩
def yThen (t u : YT) : YT := fun D ys acc σ H => t { D with nx := fun ys' acc' σ' H' => u D ys' acc' σ' H' } ys acc σ H
theorem yss_cons {t u : YT} (a : YS X st t) (b : YSs X rest u) : YSs X (st :: rest) (yThen t u) := by
  refine ⟨fun A S L yl kn ip R n ys acc s₀ c fs K J gd lv s σ H D g hn k hI ht => seg_execs_cons ?_⟩
  refine a.run A S L yl kn ip R n ys acc s₀ c fs _ J gd lv s σ H { D with nx := fun ys' acc' σ' H' => u D ys' acc' σ' H' } g hn ⟨k.eyl, k.ekn, fun n' ys' acc' t₀ s' f hn' hs => ?_, k.exc⟩ hI ht
  cases f with
  | next =>
    obtain ⟨σ', H', I', q⟩ := hs
    exact b.run A S L yl kn ip R n' ys' acc' t₀ c fs K J gd lv s' σ' H' D g hn' k I' q
  | brk => exact k.ok n' ys' acc' t₀ s' .brk hn' hs
  | cont => exact k.ok n' ys' acc' t₀ s' .cont hn' hs
  | ret u => exact k.ok n' ys' acc' t₀ s' (.ret u) hn' hs
/-- if -/
def yIf (c : TT) (t u : YT) : YT := fun D ys acc σ H => c σ H fun b H1 => if b = true then t D ys acc σ H1 else u D ys acc σ H1
theorem ys_if {c : Expr} {p q : List Stmt} {pos : Pos} {tc : TT} {t u : YT} (hc : PT X c tc) (ha : YSs X p t) (hb : YSs X q u) : YS X (.If c p q pos) (yIf tc t u) := by
  refine ⟨fun A S L yl kn ip R n ys acc s₀ cd fs K J gd lv s σ H D g hn k hI ht => ?_⟩
  rw [arm_exec_If]
  refine seg_bind_wrap (wpAny_standAt (seg_bind_wrap ?_))
  rw [g.over]
  refine wpAny_mono (hc.run _ s σ H _ hI.inv ht) (fun b s1 hb1 => ?_) fun x s' hx => k.exc n s₀ x s' hx
  obtain ⟨H1, I1, q1⟩ := hb1
  cases b with
  | true => exact ha.run A S L yl kn ip R n ys acc s₀ cd fs K J gd lv s1 σ H1 D g hn k ⟨hI.has, hI.cont, I1⟩ q1
  | false => exact hb.run A S L yl kn ip R n ys acc s₀ cd fs K J gd lv s1 σ H1 D g hn k ⟨hI.has, hI.cont, I1⟩ q1
/-- yield -/
def yYield (te : TE) : YT := fun D ys acc σ H => ys.length < sizeLine ∧ te σ H fun x H1 => D.yl ys acc x H1 ∧ ∀ acc' H2, Same H1 H2 → D.kn (ys ++ [x]) acc' H2 → D.nx (ys ++ [x]) acc' σ H2
theorem ys_yield {e : Expr} {yp pos : Pos} {te : TE} (he : PE X e te) (hco : X.env.scope.isCoroutine = false := by rfl) (hi : interactive X.env = false := by rfl) : YS X (.Expr (.Yield (some e) yp) pos) (yYield te) := by
  refine ⟨fun A S L yl kn ip R n ys acc s₀ c fs K J gd lv s σ H D g hn k hI ht => ?_⟩
  obtain ⟨hlt, ht⟩ := ht
  obtain ⟨m, rfl⟩ : ∃ m, n = m + 1 := ⟨n - 1, by omega⟩
  refine seg_Expr_Yield g.split g.gd g.guard ?_ hco hi
  rw [g.over]
  refine wpAny_mono (he.run _ s σ H _ hI.inv ht) (fun v s1 hv => ?_) fun x s' hx => k.exc _ s₀ x s' hx
  obtain ⟨x, H1, I1, rv, q1, q2⟩ := hv
  have J1 : YI X S L s₀ ip acc σ H1 s1 := ⟨hI.has, hI.cont, I1⟩
  intro kap hk
  refine ⟨ys, acc, x, ip, σ, H1, hn, rv, J1, g.ip, k.eyl ▸ q1, fun s' H' acc' w sm hkn hct => hk .none s' ?_⟩
  refine k.ok m (ys ++ [x]) acc' s' s' .next ?_ ⟨σ, H', J1.woken g.apart w hct, q2 acc' H' sm (k.ekn ▸ hkn)⟩
  rw [List.length_append, List.length_singleton]; omega
/-! ### for -/
def yFor (wi : TI) (g : TG) (tb : YT) : YT := fun D ys acc σ H => wi σ H fun J H1 => ∃ W : Nat → Nat → List V → List V → L2.St → Hp → Prop, (∃ m, W 0 m ys acc σ H1) ∧ ∀ i m ys acc σ H, W i m ys acc σ H →
  (J.stop i H ∧ D.nx ys acc σ H) ∨ (J.go i H ∧ ∃ N : List V → List V → L2.St → Hp → Prop, (∀ ys' acc' σ' H', N ys' acc' σ' H' → ∃ m', m' < m ∧ W (i + 1) m' ys' acc' σ' H') ∧
    ∀ x H', J.yld i H x H' → g x σ H' fun σ2 H2 => tb { D with nx := N, ct := N, bk := D.nx } ys acc σ2 H2)
theorem yc_loop {S : Addr} {L : List Addr} {ip : List (Addr × Obj)} {A : Around} {c c' : Code} {fs : List Frame} {gd : Bool → Bool} {k : Result → Sem PySem.Fin} {l kp : List Value} {p : Pos} (g : YC X S L ip A c fs gd) (hw : c'.weight = 0) (hu : c'.cUnits = 0) :
    YC X S L ip A c' (.ret k none (gd false) l c p kp :: fs) id :=
  ⟨g.apart, g.ip, (over_loop hw hu).trans g.over, (by show (splitAtGen fs).map _ = none; rw [g.split]; rfl), (by show (gd false || fs.any Frame.guarded) = false; rw [g.gd, g.guard]; rfl), rfl⟩
/-- what the loop's code does with what is noted -/
def noted (env : Env) (e : Value) : Sem PySem.Fin := (do noteFrame e env; theTreesLotGoes e : Sem Unit).wrap (fun _ => .raise e) .raise id id
theorem seg_loopFor {A : Around} {R : GenEnd} {Y : Protocol} {n : Nat} {s₀ s : Shared} {fs : List Frame} {target : Expr} {it : Value} {body : List Stmt} {env : Env}
    (h : wpAny (model X.prog X.w) (A.over (.forLoop target it body [] env) fs) (pyNext it) (fun r s1 => match r with
      | none => Seg (model X.prog X.w) A R Y n s₀ (.block [] env) ((model X.prog X.w).den (.block [] env)) fs s1
      | some v => wpAny (model X.prog X.w) (A.over (.forLoop target it body [] env) fs) (letOwnedTupleGo target it v) (fun _ s2 => wpAny (model X.prog X.w) (A.over (.forLoop target it body [] env) fs) (assign target env v) (fun _ s3 =>
          Seg (model X.prog X.w) A R Y n s₀ (.forLoop target it body [] env) ((execs body env).wrap (fun f => match f with
            | .next | .cont => .pure (.again (.forLoop target it body [] env))
            | .brk => .pure (.done .next)
            | .ret v => .pure (.done (.ret v))) (noted env) id id) fs s3) (fun x s' => Seg (model X.prog X.w) A R Y n s₀ (.forLoop target it body [] env) (noted env x) fs s') s2) (fun _ _ => False) s1) (fun _ _ => False) s) :
    Seg (model X.prog X.w) A R Y n s₀ (.forLoop target it body [] env) ((model X.prog X.w).den (.forLoop target it body [] env)) fs s := by
  show Seg _ A R Y n s₀ _ ((forTurn target it body [] env).onRaise (fun x => do noteFrame x env; theTreesLotGoes x)) fs s
  unfold forTurn
  rw [Sem.onRaise_eq_wrap]
  refine seg_bind_wrap (wpAny_standAt (seg_bind_wrap (wpAny_onRaise (wpAny_mono h (fun r s1 h1 => ?_) fun _ _ z => z.elim))))
  cases r with
  | none => exact seg_again rfl h1
  | some v =>
    refine seg_bind_wrap (wpAny_mono h1 (fun _ s2 h2 => seg_bind_wrap (wpAny_mono h2 (fun _ s3 h3 => ?_) fun x s' hx => ?_)) fun _ _ z => z.elim)
    · rw [Sem.bind_eq_wrap', Sem.wrap_wrap]
      rw [Sem.wrap_congr (execs body env) _ _ (K' := fun f => match f with
            | .next | .cont => .pure (.again (.forLoop target it body [] env))
            | .brk => .pure (.done .next)
            | .ret v => .pure (.done (.ret v))) (H' := noted env) (fun f => by cases f <;> rfl)
        (fun e => by first | exact Sem.bind_eq_wrap _ _ | (show (do noteFrame e env; theTreesLotGoes e : Sem Unit).bind (fun _ => .raise e) = _; rw [Sem.bind_eq_wrap]; rfl))]
      exact h3
    · first
        | (unfold noted at hx; rw [← Sem.bind_eq_wrap] at hx; exact hx)
        | (show Seg _ A R Y n s₀ _ ((do noteFrame x env; theTreesLotGoes x : Sem Unit).bind fun _ => .raise x) fs s'; rw [Sem.bind_eq_wrap]; exact hx)
theorem seg_exec_For {A : Around} {R : GenEnd} {Y : Protocol} {n : Nat} {s₀ s : Shared} {c : Code} {fs : List Frame} {target iter : Expr} {body : List Stmt} {pos : Pos} {env : Env} {K : Flow → Sem PySem.Fin} {J : Value → Sem PySem.Fin} {gd : Bool → Bool} {lv : List Value → List Value}
    (h : wpAny (model X.prog X.w) (A.over c fs) (eval iter env) (fun v s1 => wpAny (model X.prog X.w) (A.over c fs) (pyIter v) (fun it s2 =>
      ∀ p, Seg (model X.prog X.w) A R Y n s₀ (.forLoop target it body [] env) ((model X.prog X.w).den (.forLoop target it body [] env))
        (.ret (fun r => ((match r with | .ok f => (.pure f : Sem Flow) | .error e => .raise e).onRaise (cameBack env)).wrap K J gd lv) none (gd false) (lv []) c p [] :: fs) s2)
      (fun x s' => Seg (model X.prog X.w) A R Y n s₀ c (J x) fs s') s1) (fun x s' => Seg (model X.prog X.w) A R Y n s₀ c (J x) fs s') s)
    (hs : ∀ x, foldedSetIterable iter env x = pure x) : Seg (model X.prog X.w) A R Y n s₀ c ((exec (.For target iter body [] pos) env).wrap K J gd lv) fs s := by
  rw [arm_exec_For]
  refine seg_bind_wrap (wpAny_standAt (seg_bind_wrap (wpAny_mono h (fun v s1 h1 => ?_) fun _ _ z => z)))
  refine seg_bind_wrap (wpAny_of_eq (hs v) (seg_bind_wrap (wpAny_standAt (seg_bind_wrap (wpAny_holding (wpAny_mono h1 (fun it s2 h2 => ?_) fun _ _ z => z))))))
  exact seg_call h2
theorem den_block0 {env : Env} : (model X.prog X.w).den (.block [] env) = .pure (.done .next) := by rfl
theorem ys_for {target iter : Expr} {body : List Stmt} {pos : Pos} {wi : TI} {gt : TG} {tb : YT} (hp : PassesOwn (model X.prog X.w) X.A X.env X.xe) (hc : X.calm = true) (hi : PI X target iter wi) (hg : PG X target gt) (hb : YSs X body tb)
    (hs : ∀ x, foldedSetIterable iter X.env x = pure x := by intro _; rfl) : YS X (.For target iter body [] pos) (yFor wi gt tb) := by
  refine ⟨fun A S L yl kn ip R n ys acc s₀ c fs K J gd lv s σ H D g hn k hI ht => ?_⟩
  refine seg_exec_For ?_ hs
  rw [g.over]
  refine wpAny_mono (hi.run _ s σ H _ hI.inv ht) (fun v s1 h1 => wpAny_mono h1 (fun itv s2 h2 => ?_) fun x s' hx => k.exc n s₀ x s' hx) fun x s' hx => k.exc n s₀ x s' hx
  obtain ⟨it, fp, tn, T0, H2, e, I2, T, st2, f2, W, ⟨m0, w0⟩, turn⟩ := h2
  subst e
  intro p
  have stat : ∀ {H' : Hp} {s₁ : Shared}, (∀ b ∈ fp, H' b = none) → (∀ d ∈ S :: L, ∃ o, s₁.heap.get? d = some o) → ∀ b ∈ fp, FpOk X (pinsAt (S :: L) s₁.heap ++ ip) H' b := fun {H' s₁} hn' hhas b hb => by
    obtain ⟨z1, z2, z3, z4, z5, z6⟩ := f2 b hb
    refine ⟨hn' b hb, z2, z3, z4, z5, fun q hq => ?_⟩
    rcases List.mem_append.mp hq with q1 | q1
    · exact z6 q (List.mem_append_left _ q1)
    · rcases List.mem_append.mp q1 with q2 | q2
      · obtain ⟨o, ho⟩ := hI.has q.1 (of_pinsAt q2).1
        exact z6 (q.1, o) (List.mem_append_right _ (List.mem_append_left _ (mem_pinsAt (of_pinsAt q2).1 ho)))
      · exact z6 q (List.mem_append_right _ (List.mem_append_right _ q2))
  have fpL : ∀ b ∈ fp, b ∉ S :: L := fun b hb z => by
    obtain ⟨o, ho⟩ := hI.has b z
    exact (f2 b hb).2.2.2.2.2 (b, o) (List.mem_append_right _ (List.mem_append_left _ (mem_pinsAt z ho))) rfl
  have gl := yc_loop (c' := .forLoop target (.ref it) body [] X.env) (k := fun r => ((match r with | .ok f => (.pure f : Sem Flow) | .error e => .raise e).onRaise (cameBack X.env)).wrap K J gd lv) (l := lv []) (kp := []) (p := p) g rfl rfl
  generalize hfs : (Frame.ret (fun r => ((match r with | .ok f => (.pure f : Sem Flow) | .error e => .raise e).onRaise (cameBack X.env)).wrap K J gd lv) none (gd false) (lv []) c p [] :: fs) = fs' at gl ⊢
  have leafN : ∀ (n : Nat) (ys acc : List V) (s₀ s : Shared) (σ : L2.St) (H : Hp) (c' : Code), n + ys.length = sizeLine → YI X S L s₀ ip acc σ H s → D.nx ys acc σ H → Seg (model X.prog X.w) A R (YY X S L yl kn) n s₀ c' (.pure (.done .next)) fs' s := fun n ys acc s₀ s σ H c' hn' hI' q => by
    subst hfs
    exact seg_leaf (.ok .next) (k.ok n ys acc s₀ s .next hn' ⟨σ, H, hI', q⟩)
  have loop : ∀ (m n i : Nat) (ys acc : List V) (s₀ s : Shared) (σ : L2.St) (H : Hp), n + ys.length = sizeLine → W i m ys acc σ H → YI X S L s₀ ip acc σ H s → tn i s.heap → (∀ b ∈ fp, H b = none) →
      Seg (model X.prog X.w) A R (YY X S L yl kn) n s₀ (.forLoop target (.ref it) body [] X.env) ((model X.prog X.w).den (.forLoop target (.ref it) body [] X.env)) fs' s := by
    intro m
    induction m using Nat.strongRecOn with
    | ind m ih =>
      intro n i ys acc s₀ s σ H hn w hI tni hfp
      have ee : ∀ (n : Nat) (s₀ : Shared) (x : Value) (s' : Shared), X.xe x s' → Seg (model X.prog X.w) A R (YY X S L yl kn) n s₀ (.forLoop target (.ref it) body [] X.env) (noted X.env x) fs' s' := fun n s₀ x s' hx => by
        have cb : ∀ (y : Value) (s3 : Shared), cameBackBy (model X.prog X.w) X.A X.env X.xe y s3 → Seg (model X.prog X.w) A R (YY X S L yl kn) n s₀ (.forLoop target (.ref it) body [] X.env) (.raise y) fs' s3 := fun y s3 hcb => by
          subst hfs
          refine seg_leaf (.error y) ?_
          show Seg _ _ _ _ _ _ _ (((cameBack X.env y).bind fun _ => (Sem.raise y : Sem Flow)).wrap K J gd lv) _ _
          rw [Sem.bind_eq_wrap, Sem.wrap_wrap]
          refine seg_wrap ?_
          rw [g.over]
          exact wpAny_mono hcb (fun _ s'' hx' => k.exc n s₀ y s'' hx') fun z s'' hx' => k.exc n s₀ z s'' hx'
        refine seg_wrap ?_
        rw [gl.over]
        exact wpAny_bind (wpAny_mono (hp x s' hx) (fun _ s'' hcb => wpAny_theTreesLotGoes (cb x s'' hcb)) fun y s'' hcb => cb y s'' hcb)
      refine seg_loopFor ?_
      rw [gl.over]
      rcases turn i m ys acc σ H w with ⟨stop, qn⟩ | ⟨go, N, hN, step⟩
      · refine wpAny_mono (T.done X rfl rfl rfl hc i _ s σ H (fun _ _ => False) hI.inv (stat hfp hI.has) tni stop) (fun r s3 ⟨hr, I3⟩ => ?_) fun _ _ z => z
        subst hr
        show Seg _ _ _ _ _ _ _ ((model X.prog X.w).den (.block [] X.env)) _ _
        rw [den_block0]
        exact leafN n ys acc s₀ s3 σ H _ hn ⟨hI.has, hI.cont, I3⟩ qn
      · refine wpAny_mono (T.item X rfl rfl rfl hc i _ s σ H (fun _ _ => False) hI.inv (stat hfp hI.has) tni go) (fun r s3 ⟨u, hr, h3⟩ => ?_) fun _ _ z => z
        subst hr
        refine wpAny_mono h3 (fun _ s4 ⟨x, H4, I4, r4, y4, st4, fr4⟩ => ?_) fun _ _ z => z
        have I4' := I4.pinned (stat fr4 hI.has) (T.obj _ _ st4)
        rw [List.append_assoc] at I4'
        refine wpAny_mono (hg.run _ s4 σ H4 x u _ I4' r4 (step x H4 y4)) (fun _ s5 ⟨σ5, H5, I5, q5⟩ => ?_) fun x s' hx => ee n s₀ x s' hx
        have g5 : YC X S L (ip ++ pinsAt fp s4.heap) A (.forLoop target (.ref it) body [] X.env) fs' id :=
          ⟨g.apart, fun q hq => (List.mem_append.mp hq).elim (g.ip q) fun z => fpL q.1 (of_pinsAt z).1, gl.over, gl.split, gl.guard, gl.gd⟩
        have again : ∀ (n' : Nat) (ys' acc' : List V) (t₀ s6 : Shared) (σ6 : L2.St) (H6 : Hp), n' + ys'.length = sizeLine → YI X S L t₀ (ip ++ pinsAt fp s4.heap) acc' σ6 H6 s6 → N ys' acc' σ6 H6 →
            Seg (model X.prog X.w) A R (YY X S L yl kn) n' t₀ (.forLoop target (.ref it) body [] X.env) (.pure (.again (.forLoop target (.ref it) body [] X.env))) fs' s6 := fun n' ys' acc' t₀ s6 σ6 H6 hn' hI6 nx => by
          obtain ⟨m', hm, w'⟩ := hN ys' acc' σ6 H6 nx
          have pin' : ∀ b ∈ fp, ∀ o, s4.heap.get? b = some o → s6.heap.get? b = some o ∧ H6 b = none := fun b hb o e =>
            let z := hI6.inv.pin (b, o) (List.mem_append_right _ (List.mem_append_right _ (List.mem_append_right _ (mem_pinsAt hb e))))
            ⟨z.1, z.2.1⟩
          have I6 : Inv X (pinsAt (S :: L) t₀.heap ++ ip) σ6 H6 s6 := hI6.inv.pins_of fun q hq => hI6.inv.pin q (List.mem_append_right _ (by
            rcases List.mem_append.mp hq with z | z
            · exact List.mem_append_left _ z
            · exact List.mem_append_right _ (List.mem_append_left _ z)))
          refine seg_again rfl (ih m' hm n' (i + 1) ys' acc' t₀ s6 σ6 H6 hn' w' ⟨hI6.has, hI6.cont, I6⟩ (T.keep _ _ _ st4 fun b hb o e => (pin' b hb o e).1) fun b hb => ?_)
          obtain ⟨o, e, _⟩ := T.obj _ _ st4 b hb
          exact (pin' b hb o e).2
        refine hb.run A S L yl kn (ip ++ pinsAt fp s4.heap) R n ys acc s₀ _ fs' _ (noted X.env) id id s5 σ5 H5 { D with nx := N, ct := N, bk := D.nx } g5 hn ⟨k.eyl, k.ekn, fun n' ys' acc' t₀ s6 f hn' hs6 => ?_, fun n' t₀ x s6 hx => ee n' t₀ x s6 hx⟩ ⟨hI.has, hI.cont, I5⟩ q5
        cases f with
        | next => obtain ⟨σ6, H6, hI6, nx⟩ := hs6; exact again n' ys' acc' t₀ s6 σ6 H6 hn' hI6 nx
        | cont => obtain ⟨σ6, H6, hI6, nx⟩ := hs6; exact again n' ys' acc' t₀ s6 σ6 H6 hn' hI6 nx
        | brk =>
          obtain ⟨σ6, H6, hI6, nx⟩ := hs6
          have I6 : Inv X (pinsAt (S :: L) t₀.heap ++ ip) σ6 H6 s6 := hI6.inv.pins_of fun q hq => hI6.inv.pin q (List.mem_append_right _ (by
            rcases List.mem_append.mp hq with z | z
            · exact List.mem_append_left _ z
            · exact List.mem_append_right _ (List.mem_append_left _ z)))
          exact leafN n' ys' acc' t₀ s6 σ6 H6 _ hn' ⟨hI6.has, hI6.cont, I6⟩ nx
        | ret v => exact hs6.elim
  exact loop m0 n 0 ys acc s₀ s2 σ H2 hn w0 ⟨hI.has, hI.cont, I2⟩ st2 fun b hb => (f2 b hb).1
end
end Hk

set_option Elab.async false
set_option linter.all false
set_option maxRecDepth 100000
set_option maxHeartbeats 1000000
/-! A generator def's call, its consumer any. -/
namespace Hk
open PySem PySem.Spec PyProof.Rows GenW L2

/-- a generator def's promise: the arguments, the heap at the call; what is wanted at a yield, what the consumer says at a wake, what is wanted at the end -/
abbrev SpY := List V → Hp → (List V → List V → V → Hp → Prop) → (List V → List V → Hp → Prop) → (List V → List V → Hp → Prop) → Prop
def Mine (S : Addr) (L : List Addr) (s₀ s1 : Shared) (H1 : Hp) : Prop := ∀ d ∈ S :: L, ∃ o, s₀.heap.get? d = some o ∧ s1.heap.get? d = some o ∧ H1 d = none
def Free (S : Addr) (L : List Addr) (s1 : Shared) (H1 : Hp) : Prop := ∀ d ∈ S :: L, H1 d = none ∧ ∃ o, s1.heap.get? d = some o ∧ ∀ v, o.data ≠ .cell v
/-- the state between generator and consumer -/
structure Btw (P : Program) (w : World) (outer : List Env) (H : Hp) (s : Shared) (H1 : Hp) (s1 : Shared) : Prop where
  os : s1.os = s.os
  bare : AllBare s1.gens
  base : Un (frs outer) [] H H1 s.heap s1.heap
  hok : HOk P w H1 s1.heap
def YItem (P : Program) (w : World) (outer : List Env) (H : Hp) (s : Shared) (S : Addr) (L : List Addr) (a : Addr) (g : Nat) (yl : List V → List V → V → Hp → Prop) (kn : List V → List V → Hp → Prop) : Protocol := fun n s₀ v s1 kap =>
  ∃ (ys acc : List V) (x : V) (H1 : Hp) (pp : List (Addr × Obj)), n + 1 + ys.length = sizeLine ∧ RelV x v ∧ Btw P w outer H s H1 s1 ∧ s1.heap.NoLimit ∧ s1.heap.IsGen a g ∧ (∃ go, (a, go) ∈ pp) ∧ Mine S L s₀ s1 H1 ∧ Cont S acc s1.heap ∧
    (∀ p ∈ pp, s1.heap.get? p.1 = some p.2 ∧ H1 p.1 = none ∧ p.1 ∉ S :: L ∧ p.1 ∉ frs outer ∧ ∀ v, p.2.data ≠ .cell v) ∧ yl ys acc x H1 ∧
    ∀ s' H' acc', Btw P w outer H s H' s' → (∀ p ∈ pp, s'.heap.get? p.1 = some p.2 ∧ H' p.1 = none) → Free S L s' H' → Same H1 H' → kn (ys ++ [x]) acc' H' → Cont S acc' s'.heap → kap (.send .none) s'
def YFin (P : Program) (w : World) (outer : List Env) (H : Hp) (s : Shared) (S : Addr) (L : List Addr) (Q : List V → List V → Hp → Prop) (s₀ s1 : Shared) : Prop :=
  ∃ ys acc H1, Btw P w outer H s H1 s1 ∧ Mine S L s₀ s1 H1 ∧ Cont S acc s1.heap ∧ Q ys acc H1
def YEnd (P : Program) (w : World) (outer : List Env) (H : Hp) (s : Shared) (S : Addr) (L : List Addr) (Q : List V → List V → Hp → Prop) : GenEnd := fun _ s₀ r s1 =>
  ((r = .ok (.ret .none) ∨ r = .ok .next) ∧ YFin P w outer H s S L Q s₀ s1) ∨ ∃ e, r = .error e ∧ False
/-- a generator that has not begun -/
def YMade (P : Program) (w : World) (k : Nat) (outer : List Env) (H : Hp) (s : Shared) (yl : List V → List V → V → Hp → Prop) (kn Q : List V → List V → Hp → Prop) (u : Value) (s' : Shared) : Prop :=
  ∃ (a : Addr) (g : Nat) (c : Code), u = .ref a ∧ s.heap.objs.size ≤ a ∧ a < s'.heap.objs.size ∧ s'.heap.IsGen a g ∧ s'.gens[g]? = some (.fresh c) ∧ s'.os = s.os ∧ AllBare s'.gens ∧ s'.heap.NoLimit ∧ (∀ b o, s.heap.get? b = some o → s'.heap.get? b = some o) ∧
    ∀ (A : Around) (S : Addr) (L : List Addr) (s2 : Shared) (H2 : Hp) (acc : List V), Room k A → A.frames = some outer → (∀ d ∈ S :: L, s'.heap.objs.size ≤ d) → Free S L s2 H2 → (∀ b o, s'.heap.get? b = some o → s2.heap.get? b = some o) →
      Same H H2 → (∀ b, b < s'.heap.objs.size → H b = none → H2 b = none) → HOk P w H2 s2.heap → s2.os = s.os → AllBare s2.gens → kn [] acc H2 → Cont S acc s2.heap →
      Seg (model P w) A (YEnd P w outer H s S L Q) (YItem P w outer H s S L a g yl kn) sizeLine s2 c ((model P w).den c) [] s2
structure YFn (P : Program) (w : World) (K : PySem.W.Frag) (mg : Str → Option Value) (base : Heap) (k : Nat) (f : Addr) (fd : FuncData) (ps : List Str) (sp : SpY) : Prop where
  len : ∀ vs H yl kn Q, sp vs H yl kn Q → vs.length = ps.length
  run : ∀ (A : Around) (outer : List Env) (s : Shared) (H : Hp) (args : Args) (us : List Value) (vs : List V) (yl : List V → List V → V → Hp → Prop) (kn Q : List V → List V → Hp → Prop), Room k A → Env0 P w K mg base A outer s H → BindsTo s fd args (ps.zip us) → Vals vs us → sp vs H yl kn Q →
    codeAny (model P w) A (.call (.ref f) args) (fun r s' => match r with | .ok (.ret u) => YMade P w k outer H s yl kn Q u s' | _ => False) s
abbrev noX : XK := fun _ _ _ => False
theorem yfn_of {P : Program} {w : World} {K : PySem.W.Frag} {mg : Str → Option Value} {base : Heap} {k : Nat} {f : Addr} {name qual : Str} {params : Arguments} {body : List Stmt} {scope : Scope} {dV kV doc pm cdv ct oc : Value} {an od : Option Addr}
    {osl : Array (Option Value)} {N ps : List Str} {sp : SpY} (lk : K.lookup f = some ⟨oc, od, .func (PySem.W.fnOf name qual params body scope dV kV doc pm an cdv ct), osl⟩) (hcd : PySem.W.codeIn K cdv qual = true) (Sc : GScope N ps scope)
    (hcl : ∀ n, cellsFrom n scope.names [] = []) (len : ∀ vs H yl kn Q, sp vs H yl kn Q → vs.length = ps.length)
    (hbody : ∀ (A : Around) (outer : List Env) (s : Shared) (H : Hp) (vs : List V) (yl : List V → List V → V → Hp → Prop) (kn Q : List V → List V → Hp → Prop) (pn : List (Addr × Obj)), Room k (A.deeper (envOfC qual scope s.heap.objs.size f cdv)) → sp vs H yl kn Q →
      ∃ y, YSs (gcxOf P w K mg base N qual scope f cdv A outer s H noX pn) body y ∧ ∀ acc H2, Same H H2 → kn [] acc H2 → y { nx := fun ys acc _ H' => Q ys acc H', yl := yl, kn := kn } [] acc (start N vs) H2) :
    YFn P w K mg base (k + 1) f (PySem.W.fnOf name qual params body scope dV kV doc pm an cdv ct) ps sp := by
  refine ⟨len, fun A outer s H args us vs yl kn Q hr e0 hb r hsp => ?_⟩
  have hl := len _ _ _ _ _ hsp
  have kin : K.In s.heap := e0.mod.kin.keeps fun b o e => (e0.bs b o e).1
  have hlim : s.heap.NoLimit := e0.mod.nolimit.keeps fun b o e => (e0.bs b o e).1
  refine codeAny_call_generator hr.depth (kin _ _ lk) rfl Sc.co Sc.gen rfl (PySem.W.codeRec_of kin hcd) (hb _ _ _ _ ?_)
  refine wpAny_newFunctionEnv_cells Sc.kind (fun ⟨n, v⟩ hy => ?_) fun env he s1 x => ?_
  · rcases Sc.par n (List.of_mem_zip hy).1 with q | q
    · exact .inl q
    · exact .inr ⟨q, PySem.W.cellsFrom_some _ _ _ (.inl q)⟩
  subst he
  have hlim1 : s1.heap.NoLimit := hlim.keeps x.toInCall.keep
  refine ⟨hlim1, ?_⟩
  obtain ⟨h1, tk, es1, hk1⟩ := x.done
  have eos : s1.os = s.os := by rw [es1]
  have egen : s1.gens = s.gens := by rw [es1]
  have hlt : s.heap.objs.size < s1.heap.objs.size := x.toInCall.ns.lt
  have hkp : ∀ b o, s.heap.get? b = some o → s1.heap.get? b = some o := x.toInCall.keep
  suffices main : ∀ (go : Obj) (nm qn : Value) (tk2 : Nat), go.cls = .type "generator" → go.data = .fields #[.int s1.gens.size 0, nm, qn] → go.slots = #[] → (∀ h : Heap, (h.push go).get? h.objs.size = some go) →
      YMade P w (k + 1) outer H s yl kn Q (.ref s1.heap.objs.size) { s1 with gens := s1.gens.push (.fresh (.func body (envOfC qual scope s.heap.objs.size f cdv))), toks := tk2, heap := s1.heap.push go } from
    main _ _ _ _ rfl rfl rfl fun h => Heap.get?_push_size _ rfl
  intro go nm qn tk2 hgc hgd0 hgs hgp
  have hgen : ∀ h : Heap, h.get? s1.heap.objs.size = some go → h.IsGen s1.heap.objs.size s1.gens.size := fun h e => ⟨go, nm, qn, e, hgc, hgd0, hgs⟩
  have hnc : ∀ v, go.data ≠ .cell v := fun v q => by rw [hgd0] at q; cases q
  have hsz : (s1.heap.push go).objs.size = s1.heap.objs.size + 1 := Heap.size_push _ _
  refine ⟨s1.heap.objs.size, s1.gens.size, _, rfl, Nat.le_of_lt hlt, (by show _ < (s1.heap.push go).objs.size; rw [hsz]; exact Nat.lt_succ_self _), hgen _ (hgp _), Array.getElem?_push_size .., eos, AllBare.push (by rw [egen]; exact e0.bare) rfl,
    hlim1.keeps fun b o e => Heap.get?_push_of_some _ e, fun b o e => Heap.get?_push_of_some _ (hkp b o e), ?_⟩
  intro Aw S L s2 H2 acc hrw hfr hSL hfree hk2 hsame hyoung hok2 hos2 hba2 hkn hct
  have e0w : Env0 P w K mg base Aw outer s H := ⟨hfr, e0.mod, e0.bs, e0.bsz, e0.funs, e0.frf, e0.hok, e0.bare⟩
  obtain ⟨y, hy, hq⟩ := hbody Aw outer s H vs yl kn Q [(s1.heap.objs.size, go)] (hrw.deeper _) hsp
  have I1 : Inv (gcxOf P w K mg base N qual scope f cdv Aw outer s H noX []) [] (start N vs) H s1 := inv_startG Sc hrw.hd e0w hl r x
  have kp2 : ∀ b o, s1.heap.get? b = some o → s2.heap.get? b = some o := fun b o e => hk2 b o (Heap.get?_push_of_some _ e)
  have hfr2 : ∀ b o, s1.heap.get? b = some o → H b = none → H2 b = none := fun b o e n => hyoung b (by show b < (s1.heap.push go).objs.size; rw [hsz]; exact Nat.lt_succ_of_lt (Heap.lt_size e)) n
  have I2 : Inv (gcxOf P w K mg base N qual scope f cdv Aw outer s H noX []) [] (start N vs) H2 s2 :=
    I1.call' (ch := []) (hos2.trans eos.symm) ⟨fun b o e _ _ _ => kp2 b o e, fun b o e _ _ _ => ⟨o.slots, kp2 b o e⟩, fun b o e n _ => hfr2 b o e n, fun b o e _ => ⟨o, kp2 b o e⟩, fun b xs e => hsame _ _ e, fun b o u e => hsame _ _ e, fun b ps e => ⟨#[], by rw [hsame _ _ e]; simp⟩⟩ hok2 hba2 fun b z => by simp at z
  have yng : ∀ b, s1.heap.objs.size ≤ b → b ≠ s.heap.objs.size ∧ b ∉ frs outer ∧ s.heap.objs.size ≤ b := fun b hb => ⟨Nat.ne_of_gt (Nat.lt_of_lt_of_le hlt hb), I1.nofs hb, Nat.le_trans (Nat.le_of_lt hlt) hb⟩
  have hLd : ∀ d ∈ S :: L, s1.heap.objs.size < d := fun d hd => by
    have := hSL d hd
    have h' : (s1.heap.push go).objs.size ≤ d := this
    rw [hsz] at h'; exact h'
  have hgo2 : s2.heap.get? s1.heap.objs.size = some go := hk2 _ go (hgp _)
  have hYI : YI (gcxOf P w K mg base N qual scope f cdv Aw outer s H noX [(s1.heap.objs.size, go)]) S L s2 [] acc (start N vs) H2 s2 := by
    refine ⟨fun d hd => (hfree d hd).2.imp fun o z => z.1, hct, Inv.pinnedG I2 fun p hp => ?_⟩
    rw [List.append_nil] at hp
    rcases List.mem_append.mp hp with z | z
    · rw [List.mem_singleton.mp z]
      obtain ⟨y2, y3, _⟩ := yng s1.heap.objs.size (Nat.le_refl _)
      exact ⟨hgo2, hyoung _ (by show _ < (s1.heap.push go).objs.size; rw [hsz]; exact Nat.lt_succ_self _) (I1.hok.fresh (Nat.le_refl _)), y2, y3, hnc⟩
    · obtain ⟨hb, e⟩ := of_pinsAt z
      obtain ⟨z1, o, z2, z3⟩ := hfree p.1 hb
      rw [z2] at e
      cases e
      obtain ⟨y2, y3, _⟩ := yng p.1 (Nat.le_of_lt (hLd p.1 hb))
      exact ⟨z2, z1, y2, y3, z3⟩
  have hAp : Aprt (gcxOf P w K mg base N qual scope f cdv Aw outer s H noX [(s1.heap.objs.size, go)]) S L :=
    ⟨fun d hd => ⟨(yng d (Nat.le_of_lt (hLd d hd))).1, (yng d (Nat.le_of_lt (hLd d hd))).2.1⟩, hcl _, fun p hp z => by
      rw [List.mem_singleton.mp hp] at z
      exact absurd (hLd _ z) (Nat.lt_irrefl _)⟩
  have btw : ∀ {t₀ s' : Shared} {ip : List (Addr × Obj)} {acc : List V} {σ' : L2.St} {H' : Hp}, YI (gcxOf P w K mg base N qual scope f cdv Aw outer s H noX [(s1.heap.objs.size, go)]) S L t₀ ip acc σ' H' s' → Btw P w outer H s H' s' ∧ Mine S L t₀ s' H' := fun {t₀ s' ip acc σ' H'} hI =>
    ⟨⟨hI.inv.os, hI.inv.bare, hI.inv.base, hI.inv.hok⟩, fun d hd => hI.kept hd⟩
  refine seg_func ?_
  refine seg_imp (R := YR (gcxOf P w K mg base N qual scope f cdv Aw outer s H noX [(s1.heap.objs.size, go)]) S L Q fun e s' => False)
    (Y := YY (gcxOf P w K mg base N qual scope f cdv Aw outer s H noX [(s1.heap.objs.size, go)]) S L yl kn) (fun n s₀ r s' hR => ?_) (fun n s₀ v s' kap kap' hkk hY => ?_) sizeLine ?_
  · cases r with
    | error e => exact hR.elim
    | ok fl =>
      cases fl with
      | next => exact hR.elim
      | brk => exact hR.elim
      | cont => exact hR.elim
      | ret u =>
        obtain ⟨eu, ys, acc', ip, σ', H', hI, hQ⟩ := hR
        subst eu
        exact .inl ⟨.inl rfl, ys, acc', H', (btw hI).1, (btw hI).2, hI.at.1, hQ⟩
  · obtain ⟨ys, acc', xx, ip, σ', H', hn, rx, hI, hip, hyl, hwk⟩ := hY
    have I := hI.inv
    obtain ⟨m, ⟨lo, es, ep, hlo, hlr⟩, _⟩ := id I.loc
    have hgp' := I.pin (s1.heap.objs.size, go) (List.mem_append_left _ (List.mem_singleton.mpr rfl))
    refine ⟨ys, acc', xx, H', ((s1.heap.objs.size, go) :: ((gcxOf P w K mg base N qual scope f cdv Aw outer s H noX [(s1.heap.objs.size, go)]).env.locals, lo) :: ip), hn, rx, (btw hI).1, I.nolimit, hgen _ hgp'.1, ⟨go, List.mem_cons_self⟩, (btw hI).2, hI.at.1, fun p hp => ?_, hyl, fun s'' H'' acc'' b2 hpp hfr' hsm hkn' hct' => hkk _ _ (hwk s'' H'' acc'' ?_ hsm hkn' hct')⟩
    · rcases List.mem_cons.mp hp with z | hp
      · rw [z]
        exact ⟨hgp'.1, hgp'.2.1, hAp.pn (s1.heap.objs.size, go) (List.mem_singleton.mpr rfl), hgp'.2.2.2.1, hgp'.2.2.2.2⟩
      · rcases List.mem_cons.mp hp with z | hp
        · rw [z]
          refine ⟨hlo, I.free, fun z => (hAp.loc _ z).1 rfl, ?_, fun v q => ?_⟩
          · show s.heap.objs.size ∉ frs outer
            intro hb
            obtain ⟨_, o, ho, _⟩ := e0.funs.mem hb
            exact absurd (Heap.lt_size ho) (Nat.lt_irrefl _)
          · rw [hlr.1] at q; cases q
        · have z := I.pin p (List.mem_append_right _ (List.mem_append_right _ hp))
          exact ⟨z.1, z.2.1, hip p hp, z.2.2.2.1, z.2.2.2.2⟩
    · refine ⟨b2.os, b2.bare, b2.base, b2.hok, fun p hp => ?_, fun o ho => ?_, hfr'⟩
      · rcases List.mem_append.mp hp with z | z
        · rw [List.mem_singleton.mp z]
          exact hpp _ List.mem_cons_self
        · exact hpp p (List.mem_cons_of_mem _ (List.mem_cons_of_mem _ z))
      · have z := hpp ((gcxOf P w K mg base N qual scope f cdv Aw outer s H noX [(s1.heap.objs.size, go)]).env.locals, lo) (List.mem_cons_of_mem _ List.mem_cons_self)
        rw [hlo] at ho
        cases ho
        exact z
  · refine hy.run Aw S L yl kn [] _ sizeLine [] acc s2 _ [] _ _ id id s2 (start N vs) H2 _ ⟨hAp, fun p hp => (by simp at hp), over_func, rfl, rfl, rfl⟩ (Nat.add_zero _) ⟨rfl, rfl, fun n ys acc' t₀ s' fl hn hs => ?_, fun n t₀ e s' hx => ?_⟩ hYI (hq acc H2 hsame hkn)
    · cases fl with
      | next =>
        obtain ⟨σ', H', hI, hQ⟩ := hs
        exact seg_end (.ok (.ret .none)) ⟨rfl, ys, acc', [], σ', H', hI, hQ⟩
      | brk => obtain ⟨_, _, _, q⟩ := hs; exact False.elim q
      | cont => obtain ⟨_, _, _, q⟩ := hs; exact False.elim q
      | ret u => exact hs.elim
    · refine seg_wrap ?_
      rw [over_func]
      refine wpAny_mono (show wpAny (model P w) (Aw.deeper (envOfC qual scope s.heap.objs.size f cdv)) (leaving (envOfC qual scope s.heap.objs.size f cdv) e) (fun _ s'' => CX P w outer H s noX e s'' ∧ ∀ p ∈ [(s1.heap.objs.size, go)], s''.heap.get? p.1 = some p.2) (fun _ _ => False) s' from hx) (fun _ s'' q => ?_) fun _ s'' q => q.elim
      obtain ⟨⟨_, _, _, _, _, _, _, _, _, _, _, _, bad⟩, _⟩ := q
      exact bad.elim
end Hk

set_option Elab.async false
set_option linter.all false
set_option maxRecDepth 100000
set_option maxHeartbeats 1000000
/-! list(g): a generator of ours that one drains into a new list is one of HandS's kind (GMade). -/
namespace Hk
open PySem PySem.Spec PyProof.Rows GenW L2

/-- the list holds what was handed out -/
abbrev ylE : List V → List V → V → Hp → Prop := fun ys acc _ _ => acc = ys
abbrev knE : List V → List V → Hp → Prop := fun ys acc _ => acc = ys
/-- the wish of one who drains: it speaks of the list alone -/
abbrev qE (Q : List V → Hp → Prop) : List V → List V → Hp → Prop := fun _ acc H => acc.length ≤ sizeLine ∧ Q acc H
theorem un_but {fs : List Addr} {H H1 : Hp} {h h1 h2 : Heap} {S : Addr} (u : Un fs [] H H1 h h1) (hS : h.objs.size ≤ S) (k : ∀ b o, b ≠ S → h1.get? b = some o → h2.get? b = some o) : Un fs [] H H1 h h2 := by
  have ne : ∀ b o, h.get? b = some o → b ≠ S := fun b o e => Nat.ne_of_lt (Nat.lt_of_lt_of_le (Heap.lt_size e) hS)
  refine ⟨fun b o e n hb hx => k b o (ne b o e) (u.keep b o e n hb hx), fun b o e n hb hx => ?_, u.free, fun b o e hx => ?_, u.tups, u.frzs, u.tbls⟩
  · obtain ⟨sl, q⟩ := u.slot b o e n hb hx
    exact ⟨sl, k b _ (ne b o e) q⟩
  · obtain ⟨o', q⟩ := u.there b o e hx
    exact ⟨o', k b o' (ne b o e) q⟩
theorem hok_but {P : Program} {w : World} {H1 : Hp} {h1 h2 : Heap} {S : Addr} (x : HOk P w H1 h1) (hS : H1 S = none) (k : ∀ b o, b ≠ S → h1.get? b = some o → h2.get? b = some o) : HOk P w H1 h2 := fun b o e =>
  (x b o e).stay (fun c v hc q => k c v (by
    rcases hc with z | z
    · rw [z]; exact ne_of_none e hS
    · exact ne_of_none z hS) q) (fun _ q => q) fun _ _ q => q
theorem Cont.vals {S : Addr} {acc : List V} {h : Heap} (q : Cont S acc h) : ∃ (items : Array Value) (n : Nat), h.get? S = some (lstObj items n) ∧ Vals acc items.toList :=
  let ⟨its, n, r, e⟩ := q
  ⟨its.toArray, n, e, r⟩
section
variable {P : Program} {w : World} {outer : List Env} {H : Hp} {sc : Shared} {S a : Addr} {g : Nat}
theorem end_drained {Q : List V → Hp → Prop} (n : Nat) (s₀ : Shared) (r : Result) (s1 : Shared) (h : YEnd P w outer H sc S [] (qE Q) n s₀ r s1) : REnd P w outer H sc [] S a g Q noX n s₀ r s1 := by
  rcases h with ⟨hr, ys, acc, H1, B, mine, ct, hl, q⟩ | ⟨_, _, z⟩
  · obtain ⟨items, m, e, v⟩ := ct.vals
    exact .inl ⟨hr, H1, acc, items, m, B.os, B.bare, B.base, B.hok, (mine S List.mem_cons_self).choose_spec.2.2, e, v, hl, q⟩
  · exact z.elim
theorem item_drained (hS : sc.heap.objs.size ≤ S) (n : Nat) (s₀ : Shared) (v : Value) (s1 : Shared) (kap kap' : Resume → Shared → Prop) (hk : ∀ r s', kap r s' → kap' r s') (h : YItem P w outer H sc S [] a g ylE knE n s₀ v s1 kap) : L2.YItem sc S a g n s₀ v s1 kap' := by
  obtain ⟨ys, acc, x, H1, pp, hn, rx, B, lim, ig, -, mine, ct, hpp, hyl, hgo⟩ := h
  obtain rfl : acc = ys := hyl
  obtain ⟨items, m, e, vs⟩ := ct.vals
  have hH : H1 S = none := (mine S List.mem_cons_self).choose_spec.2.2
  refine ⟨B.os, B.bare, lim, ig, ⟨items, m, e, ?_⟩, fun s' z => hk _ _ ?_⟩
  · rw [← Array.length_toList, ← vs.length]
    exact hn
  · obtain ⟨m', e'⟩ := z.own _ _ e
    refine hgo s' H1 (acc ++ [x]) ⟨z.os.trans B.os, z.bare, un_but B.base hS z.keep, hok_but B.hok hH z.keep⟩ (fun p hp => ?_) (fun d hd => ?_) (Same.refl _) rfl ⟨items.toList ++ [v], m', vs.append (.cons rx .nil), ?_⟩
    · have hq := hpp p hp
      exact ⟨z.keep _ _ (fun z => hq.2.2.1 (List.mem_singleton.mpr z)) hq.1, hq.2.1⟩
    · cases List.mem_singleton.mp hd
      exact ⟨hH, _, e', fun _ q => nomatch q⟩
    · rw [e', ← Array.toList_push, Array.toArray_toList]
end
/-- a generator of ours, as HandS would have it -/
theorem gmade_of {P : Program} {w : World} {k : Nat} {outer : List Env} {H : Hp} {sc s : Shared} {Q : List V → Hp → Prop} {u : Value} (hok : HOk P w H sc.heap) (h : YMade P w k outer H sc ylE knE (qE Q) u s) : GMade P w k outer H sc [] Q noX u s := by
  obtain ⟨a, g, c, hu, ha, hlt, hg, hgs, hos, hb, hl, hkp, wake⟩ := h
  refine ⟨a, g, c, hu, ha, hlt, hg, hgs, hos, hb, hl, hkp, fun A S s2 hr hf hS hk ⟨m, e⟩ ho hb2 => ?_⟩
  have hcS : sc.heap.objs.size ≤ S := Nat.le_trans ha (Nat.le_trans (Nat.le_of_lt hlt) hS)
  have one : ∀ d ∈ [S], d = S := fun d hd => List.mem_singleton.mp hd
  exact seg_imp end_drained (item_drained hcS) _ (wake A S [] s2 H [] hr hf (fun d hd => one d hd ▸ hS) (fun d hd => one d hd ▸ ⟨hok.fresh hcS, _, e, fun _ q => nomatch q⟩) hk (Same.refl _) (fun _ _ q => q) (hok.kept fun b o q => hk b o (hkp b o q)) ho hb2 rfl ⟨[], m, .nil, e⟩)
end Hk

set_option Elab.async false
set_option linter.all false
set_option maxRecDepth 100000
set_option maxHeartbeats 1000000
/-! A generator as a value: list(g), and the comprehension that pulls its items. -/
namespace Hk
open PySem PySem.Spec PyProof.Rows GenW L2

abbrev TGy := L2.St → Hp → (List V → List V → V → Hp → Prop) → (List V → List V → Hp → Prop) → (List V → List V → Hp → Prop) → Prop
structure PGy (X : Cx) (k : Nat) (e : Expr) (tg : TGy) : Prop where
  run : ∀ (pins : List (Addr × Obj)) (s : Shared) (σ : L2.St) (H : Hp) (yl : List V → List V → V → Hp → Prop) (kn Q : List V → List V → Hp → Prop), Inv X pins σ H s → tg σ H yl kn Q →
    wpAny (model X.prog X.w) X.A (eval e X.env) (fun u s' => ∃ H1 sc, Inv X pins σ H1 sc ∧ YMade X.prog X.w k X.stack H1 sc yl kn Q u s') X.xe s
def tCallY (sp : SpY) (dvs : List V) (t : TA) : TGy := fun σ H yl kn Q => t σ H fun vs H1 => sp (vs ++ dvs) H1 yl kn Q
section
variable {X : Cx} {k : Nat} {f : Addr} {fd : FuncData} {ps : List Str} {sp : SpY} {dvs : List V} {ds : List Value} {x : Str} {p pos : Pos}
theorem pgy_call {e : Expr} {es : List Expr} {t : TA} (F : YFn X.prog X.w X.K X.mg X.base k f fd ps sp) (hr : Room k X.A) (hg : Gl X x) (hm : X.mg x = some (.ref f)) (hk : PySem.W.keepIn X.K (.ref f) = true) (hb : Binds X.K fd ps ds) (hd : Vals dvs ds)
    (ha : PA X (e :: es) t) (hdb : (x == ("__debug__" : Str)) = false := by decide) (he : starEach (e :: es) X.env = (false, eval e X.env) :: starEach es X.env := by rfl) (hpl : (backTo pos (starEach es X.env)).any (·.1) = false := by rfl) :
    PGy X k (.Call (.Name x p) (e :: es) [] pos) (tCallY sp dvs t) := by
  refine ⟨fun pins s σ H yl kn Q I h => wpAny_Call_Name_kw (ld_glob I hg hm ?_ hdb)⟩
  refine PySem.W.callWith_K (h₀ := X.base) I.ok.mod.kin hk (thn (ha.run pos pins s σ H _ I h) fun us s1 ⟨vs, H1, I1, r, q⟩ => ⟨I1.kIn, ?_⟩) he hpl
  have r2 : Vals (vs ++ dvs) (us ++ ds) := r.append hd
  have hl2 : (us ++ ds).length = ps.length := by rw [← r2.length]; exact F.len _ _ _ _ _ q
  refine wpAny_call (codeAny_mono (F.run X.A X.stack s1 H1 ⟨us, []⟩ (us ++ ds) (vs ++ dvs) yl kn Q hr I1.env0 (hb s1 us I1.kIn hl2) r2 q) fun r s' hq => ?_)
  cases r with
  | error e => exact hq.elim
  | ok fl =>
    cases fl with
    | ret u => exact ⟨H1, s1, I1, hq⟩
    | next => exact hq.elim
    | brk => exact hq.elim
    | cont => exact hq.elim
end
/-- a list that nobody tracked -/
theorem inv_found {X : Cx} {pins : List (Addr × Obj)} {σ : L2.St} {H H1 : Hp} {sc s' : Shared} {S : Addr} {acc : List V} (I : Inv X pins σ H sc) (B : Btw X.prog X.w X.stack H sc H1 s') (hS : sc.heap.objs.size ≤ S) (hn : H1 S = none) (hl : acc.length ≤ sizeLine)
    (c : Cont S acc s'.heap) : Inv X pins σ (upd H1 S (.lst acc)) s' :=
  let ⟨_, _, e, v⟩ := c.vals
  I.drained hS hl e v .nil B.os B.bare B.base B.hok hn
theorem inv_btw {X : Cx} {pins : List (Addr × Obj)} {σ : L2.St} {H H1 : Hp} {sc s' : Shared} (I : Inv X pins σ H sc) (B : Btw X.prog X.w X.stack H sc H1 s') : Inv X pins σ H1 s' :=
  I.call' (ch := []) B.os B.base B.hok B.bare fun b z => by simp at z
/-- list(g) -/
abbrev tgE (tg : TGy) : TGen := fun σ H Q => tg σ H ylE knE (qE Q)
def tListY (tg : TGy) : TE := tListG (tgE tg)
theorem pe_listY {X : Cx} {k : Nat} {p pos : Pos} {e : Expr} {tg : TGy} {nm : Str} (h : PGy X k e tg) (hr : Room (k + 3) X.A) (hg : Gl X nm) (hmg : X.mg nm = none) (hv : bootBuiltins nm = some (.type "list")) (hnm : nm ≠ "__name__" := by decide) (hdb : (nm == ("__debug__" : Str)) = false := by decide)
    (he : starEach [e] X.env = (false, eval e X.env) :: starEach [] X.env := by rfl) : PE X (.Call (.Name nm p) [e] [] pos) (tListY tg) :=
  pe_listG (E := noX) ⟨fun pins s σ H Q I q => wpAny_mono (h.run pins s σ H _ _ _ I q) (fun _ _ ⟨H1, sc, I1, m⟩ => ⟨H1, sc, [], I1, .nil, gmade_of I1.hok m⟩) fun _ _ z => z⟩
    (fun _ _ _ _ _ _ _ c => by obtain ⟨_, _, _, _, _, _, _, _, _, _, _, _, z⟩ := c; exact z.elim) (fun _ _ _ z => z.elim) hr hg hmg hv hnm hdb he

/-! ### [r for d, (q, x) in g for r in x] -/
theorem un_butL {fs : List Addr} {H H1 : Hp} {h h1 h2 : Heap} {L : List Addr} (u : Un fs [] H H1 h h1) (hL : ∀ c ∈ L, h.objs.size ≤ c) (k : ∀ b o, b ∉ L → h1.get? b = some o → h2.get? b = some o) : Un fs [] H H1 h h2 := by
  have ne : ∀ b o, h.get? b = some o → b ∉ L := fun b o e hb => absurd (Nat.lt_of_lt_of_le (Heap.lt_size e) (hL b hb)) (Nat.lt_irrefl _)
  refine ⟨fun b o e n hb hx => k b o (ne b o e) (u.keep b o e n hb hx), fun b o e n hb hx => ?_, u.free, fun b o e hx => ?_, u.tups, u.frzs, u.tbls⟩
  · obtain ⟨sl, q⟩ := u.slot b o e n hb hx
    exact ⟨sl, k b _ (ne b o e) q⟩
  · obtain ⟨o', q⟩ := u.there b o e hx
    exact ⟨o', k b o' (ne b o e) q⟩
theorem hok_butL {P : Program} {w : World} {H1 : Hp} {h1 h2 : Heap} {L : List Addr} (x : HOk P w H1 h1) (hL : ∀ c ∈ L, H1 c = none) (k : ∀ b o, b ∉ L → h1.get? b = some o → h2.get? b = some o) : HOk P w H1 h2 := fun b o e =>
  (x b o e).stay (fun c v hc q => k c v (fun hm => by
    rcases hc with z | z
    · rw [z] at hm; exact ne_of_none e (hL b hm) rfl
    · exact ne_of_none z (hL c hm) rfl) q) (fun _ q => q) fun _ _ q => q
/-- what the comprehension wants of an item -/
def ylC (K : PySem.W.Frag) (kn : List V → List V → Hp → Prop) : List V → List V → V → Hp → Prop := fun ys acc x H1 => ∃ t vd t2 vq l gots, x = .ref t ∧ SqT K H1 t [vd, .ref t2] ∧ SqT K H1 t2 [vq, .ref l] ∧ H1 l = some (.lst gots) ∧ acc.length + gots.length ≤ sizeLine ∧ kn (ys ++ [x]) (acc ++ gots) H1
def tLcY (K : PySem.W.Frag) (tg : TGy) : TE := fun σ H Q => ∃ kn : List V → List V → Hp → Prop, (∀ H1, kn [] [] H1) ∧ tg σ H (ylC K kn) kn fun ys acc H2 => acc.length ≤ sizeLine ∧ ∀ p, H2 p = none → Q (.ref p) (upd H2 p (.lst acc))
/-- at the heap: all but C is as it was -/
structure Kp (C : Addr) (s1 s2 : Shared) : Prop where
  eq : ∃ h t, s2 = { s1 with heap := h, toks := t }
  keep : ∀ b o, b ≠ C → s1.heap.get? b = some o → s2.heap.get? b = some o
theorem Kp.refl {C : Addr} {s : Shared} : Kp C s s := ⟨⟨s.heap, s.toks, rfl⟩, fun _ _ _ e => e⟩
theorem Kp.trans {C : Addr} {s1 s2 s3 : Shared} (a : Kp C s1 s2) (b : Kp C s2 s3) : Kp C s1 s3 := by
  obtain ⟨h1, t1, e1⟩ := a.eq
  obtain ⟨h2, t2, e2⟩ := b.eq
  exact ⟨⟨h2, t2, by rw [e2, e1]⟩, fun c o hc e => b.keep c o hc (a.keep c o hc e)⟩
theorem Kp.heap {C : Addr} {s : Shared} {h' : Heap} {t : Nat} (k : ∀ b o, b ≠ C → s.heap.get? b = some o → h'.get? b = some o) : Kp C s { s with heap := h', toks := t } := ⟨⟨h', t, rfl⟩, k⟩
section
variable {prog : Program} {w : World} {A : Around} {E : Value → Shared → Prop} {ce : Env}
structure CompEnv (ce : Env) (C : Addr) : Prop where
  loc : ce.locals = C
  kind : ce.scope.kind = .function
theorem store_raw {s : Shared} {C : Addr} {m : Str → Option Value} {x : Str} {pos : Pos} {v : Value} {Q : Unit → Shared → Prop} (ec : CompEnv ce C) (hx : ce.kindOf x = some .local) (hn : s.heap.Ns C m)
    (h : ∀ s2, Kp C s s2 → s2.heap.Ns C (fun y => if y = x then some v else m y) → Q () s2) : wpAny (model prog w) A (assign (.Name x pos) ce v) Q E s := by
  have hn' : s.heap.Ns ce.locals m := by rw [ec.loc]; exact hn
  refine wpAny_assign_Name (wpAny_storeName_local hx hn' (fun h' n' sb => ?_) (by rw [ec.kind]; rfl))
  rw [ec.loc] at n' sb
  exact h _ (Kp.heap fun b o hb e => (sb.2 b hb).trans e) n'
theorem load_raw {s : Shared} {C : Addr} {m : Str → Option Value} {x : Str} {pos : Pos} {v : Value} {Q : Value → Shared → Prop} (ec : CompEnv ce C) (hx : ce.kindOf x = some .local) (hd : (x == ("__debug__" : Str)) = false) (hn : s.heap.Ns C m) (hv : m x = some v) (h : Q v s) :
    wpAny (model prog w) A (eval (.Name x pos) ce) Q E s := wpAny_Name (wpAny_loadName_local ec.kind hx (by rw [ec.loc]; exact hn) hv h) hd
theorem unpack_raw {s : Shared} {C t t2 : Addr} {m : Str → Option Value} {d q x : Str} {pd pq px p1 p2 : Pos} {k1 k2} {vd vq vx : Value} {Q : Unit → Shared → Prop} (hh : A.handled = none) (ec : CompEnv ce C) (hd : ce.kindOf d = some .local) (hq : ce.kindOf q = some .local) (hx : ce.kindOf x = some .local)
    (hn : s.heap.Ns C m) (h1 : IsTup s.heap t #[vd, .ref t2]) (h2 : IsTup s.heap t2 #[vq, vx]) (hC1 : t ≠ C) (hC2 : t2 ≠ C)
    (h : ∀ s2 m', Kp C s s2 → s2.heap.Ns C m' → m' x = some vx → Q () s2) :
    wpAny (model prog w) A (assign (.Tuple [.Name d pd, .Tuple [.Name q pq, .Name x px] k2 p2] k1 p1) ce (.ref t)) Q E s := by
  refine assign_Tuple_tuple hh h1 rfl rfl fun h' hx' => ?_
  have kp1 : Kp C s { s with heap := h' } := Kp.heap (t := s.toks) fun b o _ e => hx' b o (Nat.ne_of_lt (Heap.lt_size e)) e
  have n1 : h'.Ns C m := by
    obtain ⟨o, es, ep, ho, r⟩ := hn
    exact ⟨o, es, ep, hx' C o (Nat.ne_of_lt (Heap.lt_size ho)) ho, r⟩
  have n1' : ({ s with heap := h' } : Shared).heap.Ns C m := n1
  refine assignInOrder_cons (store_raw ec hd n1' fun s2 kp2 n2 => ?_)
  have h2' : IsTup s2.heap t2 #[vq, vx] := by
    obtain ⟨o, ho, r⟩ := h2
    exact ⟨o, (kp1.trans kp2).keep t2 o hC2 ho, r⟩
  refine assignInOrder_cons ?_
  refine assign_Tuple_tuple (x1 := k2) hh h2' rfl rfl fun h3 hx3 => ?_
  have kp3 : Kp C s2 { s2 with heap := h3 } := Kp.heap (t := s2.toks) fun b o _ e => hx3 b o (Nat.ne_of_lt (Heap.lt_size e)) e
  have n3 : ({ s2 with heap := h3 } : Shared).heap.Ns C (fun y => if y = d then some vd else m y) := by
    obtain ⟨o, es, ep, ho, r⟩ := n2
    exact ⟨o, es, ep, hx3 C o (Nat.ne_of_lt (Heap.lt_size ho)) ho, r⟩
  refine assignInOrder_cons (store_raw ec hq n3 fun s4 kp4 n4 => ?_)
  refine assignInOrder_cons (store_raw ec hx n4 fun s5 kp5 n5 => ?_)
  refine assignInOrder_nil (assignInOrder_nil (h s5 _ ((kp1.trans kp2).trans (kp3.trans (kp4.trans kp5))) n5 ?_))
  show (if x = x then some vx else _) = _
  rw [if_pos rfl]
/-- the inner loop: every item behind the list at D -/
theorem inner_raw {R : Result → Shared → Prop} {s : Shared} {C D l : Addr} {m : Str → Option Value} {its gots : List Value} {c : Nat} {r x : Str} {pr pr' px : Pos} {t0 i0 : Expr} {scope : Scope} {pos : Pos}
    (hh : A.handled = none) (ec : CompEnv ce C) (hr : ce.kindOf r = some .local) (hrd : (r == ("__debug__" : Str)) = false) (hn : s.heap.Ns C m) (hl : s.heap.IsList l gots.toArray) (hlC : l ≠ C) (hlD : l ≠ D) (hCD : C ≠ D)
    (hD : s.heap.get? D = some (lstObj its.toArray c)) (hz : its.length + gots.length ≤ sizeLine)
    (hR : ∀ s2 c', (∃ h t, s2 = { s with heap := h, toks := t }) → (∀ b o, b ∉ [D, C] → s.heap.get? b = some o → s2.heap.get? b = some o) → (∃ m', s2.heap.Ns C m') → s2.heap.get? D = some (lstObj (its ++ gots).toArray c') → R (.ok .next) s2) :
    codeAny (model prog w) A (.compStart (.ListComp (.Name r pr) [⟨t0, i0, [], 0⟩, ⟨.Name r pr', .Name x px, [], 0⟩] scope pos) 1 (.ref s.heap.objs.size) (.ref D) ce) R { s with heap := s.heap.push { cls := .type "list_iterator", data := .fields #[.ref l, .int 0 0] } } := by
  generalize hit : s.heap.objs.size = it
  have hltC : C ≠ it := by rw [← hit]; exact Nat.ne_of_lt hn.lt
  have hltD : D ≠ it := by rw [← hit]; exact Nat.ne_of_lt (Heap.lt_size hD)
  have hltl : l ≠ it := by
    obtain ⟨o, ho, _⟩ := hl
    rw [← hit]; exact Nat.ne_of_lt (Heap.lt_size ho)
  have i0' : (s.heap.push { cls := .type "list_iterator", data := .fields #[.ref l, .int 0 0] }).IsListIter it l 0 := ⟨_, by rw [← hit]; exact Heap.get?_push_size _ rfl, rfl, rfl⟩
  have h0 : codeAny (model prog w) A (.compLoop (.ListComp (.Name r pr) [⟨t0, i0, [], 0⟩, ⟨.Name r pr', .Name x px, [], 0⟩] scope pos) 1 (.ref it) (.ref D) ce) R { s with heap := s.heap.push { cls := .type "list_iterator", data := .fields #[.ref l, .int 0 0] } } := by
    refine compLoop2_in (fun n s2 => ∃ j c', n = gots.length - j ∧ j ≤ gots.length ∧ (∃ h t, s2 = { s with heap := h, toks := t }) ∧ (∀ b o, b ∉ [D, C] → s.heap.get? b = some o → s2.heap.get? b = some o) ∧ (∃ m', s2.heap.Ns C m') ∧ s2.heap.IsListIter it l j ∧
      s2.heap.get? D = some (lstObj (its ++ gots.take j).toArray c')) ?_ (gots.length - 0) ⟨0, c, rfl, Nat.zero_le _, ⟨_, s.toks, rfl⟩, fun b o _ e => Heap.get?_push_of_some _ e, ⟨m, hn.push _⟩, i0', by
        rw [List.take_zero, List.append_nil]; exact Heap.get?_push_of_some _ hD⟩
    rintro n s2 ⟨j, c', rfl, hj, ⟨h2, t2, e2⟩, kp, ⟨m2, n2⟩, it2, d2⟩
    have hl2 : s2.heap.IsList l gots.toArray := by
      obtain ⟨o, ho, r⟩ := hl
      exact ⟨o, kp l o (by simp [hlC, hlD]) ho, r⟩
    by_cases hjl : j < gots.length
    · have hx : gots.toArray[j]? = some gots[j] := by simp [hjl]
      refine wpAny_pyNext_list_item it2 hl2 hx fun h3 it3 sb3 => ?_
      refine wpAny_pure ?_
      have n3 : ({ s2 with heap := h3 } : Shared).heap.Ns C m2 := n2.sameBut sb3 hltC
      refine store_raw ec hr n3 fun s4 kp4 n4 => wpAny_tests_nil ?_
      rw [if_pos rfl]
      refine load_raw ec hr hrd n4 (by rw [if_pos rfl]) ?_
      have d4 : s4.heap.get? D = some (lstObj (its ++ gots.take j).toArray c') := kp4.keep D _ (Ne.symm hCD) ((sb3.2 D hltD).trans d2)
      have hsz : (its ++ gots.take j).toArray.size ≤ sizeLine := by
        simp only [List.size_toArray, List.length_append, List.length_take]; omega
      refine append_at d4 (fun h5 sb5 d5 => ?_) hsz
      obtain ⟨h4, t4, e4⟩ := kp4.eq
      refine ⟨gots.length - (j + 1), by omega, j + 1, c' + 1, rfl, hjl, ⟨h5, s4.toks, by rw [e4, e2]⟩, fun b o hb e => ?_, ⟨_, n4.sameBut sb5 hCD⟩, ?_, ?_⟩
      · have hbD : b ≠ D := fun z => hb (by simp [z])
        have hbC : b ≠ C := fun z => hb (by simp [z])
        have hbi : b ≠ it := by rw [← hit]; exact Nat.ne_of_lt (Heap.lt_size e)
        exact (sb5.2 b hbD).trans (kp4.keep b o hbC ((sb3.2 b hbi).trans (kp b o hb e)))
      · obtain ⟨o, ho, r⟩ := it3
        exact ⟨o, (sb5.2 it (Ne.symm hltD)).trans (kp4.keep it o (Ne.symm hltC) ho), r⟩
      · have e1 : (its ++ gots.take j).toArray.push gots[j] = (its ++ gots.take (j + 1)).toArray := by
          rw [List.push_toArray, List.append_assoc, List.take_add_one, List.getElem?_eq_getElem hjl]; rfl
        rw [e1] at d5
        exact d5
    · have hj' : j = gots.length := by omega
      refine wpAny_pyNext_list_end hh it2 hl2 (by simp [hj']) fun h3 sb3 => ?_
      rw [hj', List.take_length] at d2
      refine hR _ c' ⟨h3, s2.toks, by rw [e2]⟩ (fun b o hb e => sb3 b o (by rw [← hit]; exact Nat.ne_of_lt (Heap.lt_size e)) (kp b o hb e)) ⟨m2, n2.extBut sb3 hltC⟩ (sb3 D _ hltD d2)
  exact compStart1_ok h0 (wpAny_pyIter_listiter i0' h0)
end
theorem pe_lcY {X : Cx} {k : Nat} {iter : Expr} {tg : TGy} {scope : Scope} {r d q x : Str} {pr pr' pd pq px px' p1 p2 pos : Pos} {k1 k2 : Nat} (hc : X.calm = true) (h : PGy X k iter tg) (hroom : Room (k + 1) X.A) (hkind : scope.kind = .function)
    (huniq : ∀ y ∈ scope.names, y.2 = .local → scope.names.lookup y.1 = some .local) (hnf : ∀ y ∈ scope.names, y.2 ≠ .free) (hpush : ∀ h, pushCells h scope.names = h)
    (lr : scope.names.lookup r = some .local) (ld : scope.names.lookup d = some .local) (lq : scope.names.lookup q = some .local) (lx : scope.names.lookup x = some .local) (hrd : (r == ("__debug__" : Str)) = false) (hxd : (x == ("__debug__" : Str)) = false)
    (hs : ∀ y, foldedSetIterable iter X.env y = pure y) (hs1 : ∀ env y, foldedSetIterable (.Name x px') env y = pure y) :
    PE X (.ListComp (.Name r pr) [⟨.Tuple [.Name d pd, .Tuple [.Name q pq, .Name x px] k2 p2] k1 p1, iter, [], 0⟩, ⟨.Name r pr', .Name x px', [], 0⟩] scope pos) (tLcY X.K tg) := by
  refine ⟨fun pins s σ H Q I hq => ?_⟩
  obtain ⟨kn, hkn0, hq⟩ := hq
  rw [eval_ListComp]
  refine wpAny_comprehension_free (use := none) rfl hs (closure_ok fun y hy e => absurd e (hnf y hy)) hkind huniq (thn (h.run pins s σ H _ _ _ I hq) fun xv s1 ⟨H1, sc, I1, hG⟩ => ?_)
  obtain ⟨a, g, cd, rfl, ha1, ha2, hg, hgs, hos, hb, hl, hkp, wake⟩ := hG
  refine wpAny_pyIter_gen hg (wpAny_newObj_type (newEnv_comp ?_) (by show 0 ≤ sizeLine; decide))
  have hcs : sc.heap.objs.size ≤ s1.heap.objs.size := Nat.le_trans ha1 (Nat.le_of_lt ha2)
  have szC : (s1.heap.push { cls := .type "list", data := .seq ([] : List Value).toArray }).objs.size = s1.heap.objs.size + 1 := Heap.size_push _ _
  simp only [hpush]
  have hD4 : ((s1.heap.push { cls := .type "list", data := .seq ([] : List Value).toArray }).push { cls := .type "dict", data := .dict #[] }).get? s1.heap.objs.size = some { cls := .type "list", data := .seq ([] : List Value).toArray } := Heap.get?_push_of_some _ (Heap.get?_push_size _ rfl)
  have hC4 : ((s1.heap.push { cls := .type "list", data := .seq ([] : List Value).toArray }).push { cls := .type "dict", data := .dict #[] }).Ns (s1.heap.push { cls := .type "list", data := .seq ([] : List Value).toArray }).objs.size (fun _ => none) := Heap.Ns.new ..
  have kp4 : ∀ b o, s1.heap.get? b = some o → ((s1.heap.push { cls := .type "list", data := .seq ([] : List Value).toArray }).push { cls := .type "dict", data := .dict #[] }).get? b = some o := fun b o e => Heap.get?_push_of_some _ (Heap.get?_push_of_some _ e)
  generalize hh4 : (s1.heap.push { cls := .type "list", data := .seq ([] : List Value).toArray }).push { cls := .type "dict", data := .dict #[] } = h4 at hD4 hC4 kp4 ⊢
  rw [szC] at hC4
  have ec : CompEnv (compEnvC scope (cellsFrom ((s1.heap.push { cls := .type "list", data := .seq ([] : List Value).toArray }).objs.size + 1) scope.names (cloFrom X.env.cells scope.names [])) (s1.heap.push { cls := .type "list", data := .seq ([] : List Value).toArray }).objs.size X.env) (s1.heap.objs.size + 1) := ⟨szC, hkind⟩
  have kl : ∀ {y : Str}, scope.names.lookup y = some .local → (compEnvC scope (cellsFrom ((s1.heap.push { cls := .type "list", data := .seq ([] : List Value).toArray }).objs.size + 1) scope.names (cloFrom X.env.cells scope.names [])) (s1.heap.push { cls := .type "list", data := .seq ([] : List Value).toArray }).objs.size X.env).kindOf y = some .local := fun e => lookup_relabel_local e
  show codeAny _ _ (.compStart _ 0 (.ref a) (.ref s1.heap.objs.size) (compEnvC scope (cellsFrom ((s1.heap.push { cls := .type "list", data := .seq ([] : List Value).toArray }).objs.size + 1) scope.names (cloFrom X.env.cells scope.names [])) (s1.heap.push { cls := .type "list", data := .seq ([] : List Value).toArray }).objs.size X.env))
    (compPost (model X.prog X.w) X.A X.xe none (EP X pins σ Q) (.ref s1.heap.objs.size) (s1.heap.push { cls := .type "list", data := .seq ([] : List Value).toArray }).objs.size) { s1 with heap := h4 }
  generalize hce : compEnvC scope (cellsFrom ((s1.heap.push { cls := .type "list", data := .seq ([] : List Value).toArray }).objs.size + 1) scope.names (cloFrom X.env.cells scope.names [])) (s1.heap.push { cls := .type "list", data := .seq ([] : List Value).toArray }).objs.size X.env = ce at ec kl ⊢
  rw [szC]
  have hDs : s1.heap.objs.size < h4.objs.size := Heap.lt_size hD4
  have hCs : s1.heap.objs.size + 1 < h4.objs.size := hC4.lt
  have aD : a ≠ s1.heap.objs.size := Nat.ne_of_lt ha2
  have aC : a ≠ s1.heap.objs.size + 1 := Nat.ne_of_lt (Nat.lt_succ_of_lt ha2)
  have hcl : cStatics < s1.heap.objs.size := let ⟨_, hn, _⟩ := hl; hn.lt
  generalize hDe : s1.heap.objs.size = D at *
  generalize hCe : D + 1 = C at *
  have hCD : C ≠ D := by omega
  have hLs : ∀ c ∈ [D, C], sc.heap.objs.size ≤ c := fun c hc' => by
    rcases List.mem_cons.mp hc' with z | z
    · rw [z]; exact hcs
    · rw [List.mem_singleton.mp z]; omega
  have nst : cStatics ∉ [D, C] := fun z => by
    rcases List.mem_cons.mp z with z | z
    · exact absurd z (Nat.ne_of_lt hcl)
    · exact absurd (List.mem_singleton.mp z) (Nat.ne_of_lt (by rw [← hCe]; exact Nat.lt_succ_of_lt hcl))
  have lim4 : h4.NoLimit := hl.keeps kp4
  have hHf : ∀ c, D ≤ c → H1 c = none := fun c hc' => I1.hok.fresh (Nat.le_trans hcs hc')
  have loop : codeAny (model X.prog X.w) X.A (.compLoop (.ListComp (.Name r pr) [⟨.Tuple [.Name d pd, .Tuple [.Name q pq, .Name x px] k2 p2] k1 p1, iter, [], 0⟩, ⟨.Name r pr', .Name x px', [], 0⟩] scope pos) 0 (.ref a) (.ref D) ce)
      (compPost (model X.prog X.w) X.A X.xe none (EP X pins σ Q) (.ref D) C) { s1 with heap := h4 } := by
    refine compLoop2_out (hs1 ce) (fun n s' => ∃ m, s'.heap.Ns C m ∧ s'.heap.IsGen a g ∧ s'.heap.NoLimit ∧ ∃ gs, s'.gens[g]? = some gs ∧
      gs.Goes (model X.prog X.w) X.A.in1 (YEnd X.prog X.w X.stack H1 sc D [C] fun ys acc H2 => acc.length ≤ sizeLine ∧ ∀ p, H2 p = none → Q (.ref p) (upd H2 p (.lst acc))) (YItem X.prog X.w X.stack H1 sc D [C] a g (ylC X.K kn) kn) n (.send .none) (s'.setGen g .running))
      ?_ sizeLine ⟨_, hC4, hg.keeps kp4, lim4, _, hgs, rfl, ?_⟩
    · rintro n s5 ⟨m5, n5, g5, lim5, gs, hgs5, hgo5⟩
      have hgl : g < s5.gens.size := (Array.getElem?_eq_some_iff.mp hgs5).1
      refine wpAny_gsz (n := g + 1) hgl (next_genG (A := X.A) (F := fun _ s₀ s1 => YFin X.prog X.w X.stack H1 sc D [C] (fun ys acc H2 => acc.length ≤ sizeLine ∧ ∀ p, H2 p = none → Q (.ref p) (upd H2 p (.lst acc))) s₀ s1) (Er := fun _ _ => False) (I1.ok.hd hc) lim5 (by have := hroom.dp; omega) g5 hgs5 hgo5
        (fun v s6 gs' hb' hv => ?_) (fun s6 hp h' hk => ?_) fun e s1 he => he.elim)
      · intro hsz
        obtain ⟨ys, acc, xx, H2, pp, hn', rx, B, lim6, ig, ⟨go, hgo⟩, mine, ⟨its, c, ri, ei⟩, hpp, ⟨t, vd, t2, vq, l, gots, ex, h1, h2, h3, hle, hkn⟩, hk⟩ := hv
        subst ex
        cases rx
        have I6 : Inv X pins σ H2 s6 := inv_btw I1 B
        obtain ⟨_, hD0, hD6, HD⟩ := mine D List.mem_cons_self
        obtain ⟨oC, hC0, hC6, HC⟩ := mine C (List.mem_cons_of_mem _ (List.mem_singleton.mpr rfl))
        have hC0' : s5.heap.get? C = some oC := hC0
        have n6 : s6.heap.Ns C m5 := by
          obtain ⟨o, es, ep, ho, z⟩ := n5
          rw [hC0'] at ho
          cases ho
          exact ⟨oC, es, ep, hC6, z⟩
        obtain ⟨i1, r1, t1, _⟩ := I6.tuple h1
        obtain ⟨i2, r2, t2', _⟩ := I6.tuple h2
        obtain ⟨il, rl, pl, _⟩ := I6.list (SqL.of h3)
        have hlen := ri.length
        have hlen2 := rl.length
        cases r1 with
        | cons ra r1 =>
        cases r1 with
        | cons rb r1 =>
        cases r1
        cases rb
        cases r2 with
        | cons rc r2 =>
        cases r2 with
        | cons re r2 =>
        cases r2
        cases re
        have notC : ∀ {b : Addr} {zs : Array Value}, IsTup s6.heap b zs → b ≠ C := fun {b zs} ⟨o, ho, _, n, hd'⟩ z => by
          obtain ⟨o', es, ep, ho', hd'', _⟩ := n6
          rw [z, ho'] at ho
          cases ho
          rw [hd'] at hd''
          cases hd''
        have hlC : l ≠ C := fun z => by rw [z, HC] at h3; cases h3
        have hlD : l ≠ D := fun z => by rw [z, HD] at h3; cases h3
        obtain ⟨og, nm, qn, hog, hoc, hod, hosl⟩ := id ig
        refine go_of (s := s6.setGen g gs') hog hoc hod (by decide) ?_
        refine unpack_raw (s := s6.setGen g gs') (I1.ok.hd hc) ec (kl ld) (kl lq) (kl lx) n6 t1 t2' (notC t1) (notC t2') fun s7 m7 kp7 n7 hx7 => wpAny_tests_nil ?_
        rw [if_pos rfl]
        refine load_raw ec (kl lx) hxd n7 hx7 ?_
        have pl7 : s7.heap.IsList l il.toArray := by
          obtain ⟨o, ho, z⟩ := pl.isList
          exact ⟨o, kp7.keep l o hlC ho, z⟩
        refine wpAny_pyIter_list pl7 ?_
        have ei7 : s7.heap.get? D = some (lstObj its.toArray c) := kp7.keep D _ (Ne.symm hCD) ei
        refine inner_raw (I1.ok.hd hc) ec (kl lr) hrd n7 pl7 hlC hlD hCD ei7 (by omega) fun s8 c' ⟨h8, tk8, e8⟩ kp8 ⟨m8, n8⟩ d8 => ?_
        have kp68 : ∀ b o, b ∉ [D, C] → s6.heap.get? b = some o → s8.heap.get? b = some o := fun b o hb' e => kp8 b o hb' (kp7.keep b o (fun z => hb' (by simp [z])) e)
        obtain ⟨h7, tk7, e7⟩ := kp7.eq
        have g8 : s8.gens = (s6.setGen g gs').gens := by rw [e8, e7]
        have o8 : s8.os = s6.os := by rw [e8, e7]; rfl
        have bare8 : AllBare s8.gens := by rw [g8]; exact allBare_setGen B.bare hb'
        have HL : ∀ c ∈ [D, C], H2 c = none := fun c hc' => by
          rcases List.mem_cons.mp hc' with z | z
          · rw [z]; exact HD
          · rw [List.mem_singleton.mp z]; exact HC
        have ha : a ∉ [D, C] := by simp [aD, aC]
        have K8 := hk (s8.setGen g .running) H2 (acc ++ gots) ⟨o8.trans B.os, allBare_setGen bare8 rfl, un_butL B.base hLs kp68, hok_butL B.hok HL kp68⟩ (fun p hp => ?_) (fun c hc' => ?_) (Same.refl _) hkn ⟨its ++ il, c', ri.append rl, d8⟩
        · have hsz1 : g < s8.gens.size := by
            rw [g8]
            exact hsz
          cases n with
          | zero => exact K8.elim
          | succ n => exact ⟨n, Nat.lt_succ_self n, m8, n8, ⟨og, nm, qn, kp68 a og ha hog, hoc, hod, hosl⟩, (let ⟨mc, hns, hnn⟩ := lim6; ⟨mc, hns.at' fun o e => kp68 _ o nst e, hnn⟩), gs', by rw [g8]; exact setGen_at (by rw [g8, setGen_size] at hsz1; exact hsz1), K8⟩
        · obtain ⟨z1, z2, z3, _⟩ := hpp p hp
          exact ⟨kp68 _ _ z3 z1, z2⟩
        · refine ⟨HL c hc', ?_⟩
          rcases List.mem_cons.mp hc' with z | z
          · rw [z]; exact ⟨_, d8, fun v e => by cases e⟩
          · rw [List.mem_singleton.mp z]
            obtain ⟨o, es, ep, ho, hd', _⟩ := n8
            exact ⟨o, ho, fun v e => by rw [hd'] at e; cases e⟩
      · intro hsz
        obtain ⟨ys, acc, H2, B, mine, ⟨its, c, ri, ei⟩, hle, hQ⟩ := hp
        obtain ⟨_, hD0, hD6, HD⟩ := mine D List.mem_cons_self
        obtain ⟨oC, hC0, hC6, HC⟩ := mine C (List.mem_cons_of_mem _ (List.mem_singleton.mpr rfl))
        have hC0' : s5.heap.get? C = some oC := hC0
        obtain ⟨o, es, ep, ho, z⟩ := n5
        rw [hC0'] at ho
        cases ho
        refine ⟨m5, ⟨oC, es, ep, hk _ _ hC6, z⟩, fun h'' sb => ⟨.ref D, _, inv_found I1 ⟨B.os, allBare_setGen B.bare rfl, ?_, ?_⟩ hcs HD hle ⟨its, c, ri, (sb.2 D (Ne.symm hCD)).trans (hk _ _ ei)⟩, rfl, hQ D HD⟩⟩
        · exact un_butL B.base (L := [C]) (fun c hc' => hLs c (List.mem_cons_of_mem _ hc')) fun b o hb' e => (sb.2 b (by simpa using hb')).trans (hk b o e)
        · exact hok_butL B.hok (L := [C]) (fun c hc' => by rw [List.mem_singleton.mp hc']; exact HC) fun b o hb' e => (sb.2 b (by simpa using hb')).trans (hk b o e)
    · refine wake X.A.in1 D [C] _ H1 [] hroom.in1 I1.ok.frames (fun c hc' => ?_) (fun c hc' => ?_) kp4 (Same.refl _) (fun _ _ n => n) (I1.hok.kept fun b o e => kp4 b o (hkp b o e)) hos (allBare_setGen (s := { s1 with heap := _ }) hb rfl) (hkn0 H1) ⟨[], 0, .nil, hD4⟩
      · rcases List.mem_cons.mp hc' with z | z
        · rw [z]; exact Nat.le_refl _
        · rw [List.mem_singleton.mp z]; omega
      · rcases List.mem_cons.mp hc' with z | z
        · rw [z]; exact ⟨hHf D (Nat.le_refl _), _, hD4, fun v e => by cases e⟩
        · rw [List.mem_singleton.mp z]
          obtain ⟨o, es, ep, ho, hd', _⟩ := hC4
          exact ⟨hHf C (by omega), o, ho, fun v e => by rw [hd'] at e; cases e⟩
  exact codeAny_compStart_list loop (wpAny_pyIter_gen (s := { s1 with heap := h4 }) (hg.keeps kp4) loop)
end Hk

set_option Elab.async false
set_option linter.all false
set_option maxRecDepth 100000
set_option maxHeartbeats 1000000
/-! match on a text. -/
namespace Hk
open PySem PySem.Spec PyProof.Rows L2
section
variable {X : Cx}
structure PM (X : Cx) (p : Pattern) (ws : List Str) : Prop where
  run : ∀ (pins : List (Addr × Obj)) (s : Shared) (σ : L2.St) (H : Hp) (z : Str) (t : Tok) (Q : Option (List (Str × Value)) → Shared → Prop), Inv X pins σ H s → (∀ s', Inv X pins σ H s' → Q (if ws.contains z = true then some [] else none) s') →
    wpAny (model X.prog X.w) X.A (matchPattern p X.env (.str z t)) Q X.xe s
structure PMs (X : Cx) (ps : List Pattern) (ws : List Str) : Prop where
  run : ∀ (pins : List (Addr × Obj)) (s : Shared) (σ : L2.St) (H : Hp) (z : Str) (t : Tok) (Q : Option (List (Str × Value)) → Shared → Prop), Inv X pins σ H s → (∀ s', Inv X pins σ H s' → Q (if ws.contains z = true then some [] else none) s') →
    wpAny (model X.prog X.w) X.A (matchFirst ps X.env (.str z t)) Q X.xe s
theorem pm_val {x : Str} {j : Nat} {p pos : Pos} : PM X (.MatchValue (.Constant (.str x) j p) pos) [x] := by
  refine ⟨fun pins s σ H z t Q I h => wpAny_matchPattern_Value ?_⟩
  refine thn (pe_str.run pins s σ H (fun v H' => v = .str x ∧ H' = H) I ⟨rfl, rfl⟩) fun u s1 ⟨v, H1, I1, r, e, eH⟩ => ?_
  subst e
  subst eH
  refine thn (op_eq pins s1 σ H1 (.str z) (.str x) (.str z t) u (fun v H' => v = .bl (decide (V.str z = V.str x)) ∧ H' = H1) I1 ⟨t, rfl⟩ r ⟨rfl, rfl, rfl⟩) fun c s2 ⟨v, H2, I2, r2, e2, eH⟩ => ?_
  subst e2
  subst eH
  cases r2
  refine wpAny_truthy_bool ?_
  have q := h s2 I2
  have e : [x].contains z = decide (V.str z = V.str x) := by
    rw [Bool.eq_iff_iff]; simp
  rw [e] at q
  cases hd : decide (V.str z = V.str x) with
  | true => rw [hd] at q; exact q
  | false => rw [hd] at q; exact q
theorem pms_nil : PMs X [] [] := ⟨fun _ _ _ _ _ _ _ I h => wpAny_matchFirst_nil (h _ I)⟩
theorem pms_cons {p : Pattern} {ps : List Pattern} {ws vs : List Str} (hp : PM X p ws) (hr : PMs X ps vs) : PMs X (p :: ps) (ws ++ vs) := by
  refine ⟨fun pins s σ H z t Q I h => wpAny_matchFirst_cons (hp.run pins s σ H z t _ I fun s1 I1 => ?_)⟩
  have e : (ws ++ vs).contains z = (ws.contains z || vs.contains z) := by
    rw [Bool.eq_iff_iff]; simp
  rw [e] at h
  cases hc : ws.contains z with
  | true =>
    rw [if_pos rfl]
    rw [hc] at h
    exact h s1 I1
  | false =>
    rw [if_neg Bool.false_ne_true]
    rw [hc] at h
    exact hr.run pins s1 σ H z t Q I1 h
theorem pm_or {ps : List Pattern} {pos : Pos} {ws : List Str} (h : PMs X ps ws) (hn : namesOfAll (ps.take 1) = [] := by rfl) : PM X (.MatchOr ps pos) ws := by
  refine ⟨fun pins s σ H z t Q I hq => wpAny_matchPattern_Or (h.run pins s σ H z t _ I fun s1 I1 => ?_)⟩
  have q := hq s1 I1
  cases hc : ws.contains z with
  | true =>
    rw [hc] at q
    rw [if_pos rfl] at q ⊢
    rw [hn]
    exact q
  | false =>
    rw [hc] at q
    rw [if_neg Bool.false_ne_true] at q ⊢
    exact q
structure PMC (X : Cx) (cs : List MatchCase) (tm : Str → TS) : Prop where
  run : ∀ (pins : List (Addr × Obj)) (s : Shared) (σ : L2.St) (H : Hp) (z : Str) (t : Tok) (first : Bool) (D : Ends), Inv X pins σ H s → tm z D σ H → wpAny (model X.prog X.w) X.A (matchCases cs X.env (.str z t) first) (SP X pins D) X.xe s
def tmNil : Str → TS := fun _ D σ H => D.nx σ H
theorem pmc_nil : PMC X [] tmNil := ⟨fun _ _ σ H _ _ _ _ I h => wpAny_matchCases_nil ⟨σ, H, I, h⟩⟩
def tmCons (ws : List Str) (t : TS) (r : Str → TS) : Str → TS := fun z D σ H => if ws.contains z = true then t D σ H else r z D σ H
theorem pmc_cons {p : Pattern} {body : List Stmt} {rest : List MatchCase} {ws : List Str} {t : TS} {r : Str → TS} (hp : PM X p ws) (hb : PSs X body t) (hr : PMC X rest r) : PMC X (⟨p, none, body⟩ :: rest) (tmCons ws t r) := by
  refine ⟨fun pins s σ H z tk first D I h => wpAny_matchCases_cons (hp.run pins s σ H z tk _ I fun s1 I1 => ?_)⟩
  unfold tmCons at h
  cases hc : ws.contains z with
  | true =>
    rw [hc, if_pos rfl] at h
    rw [if_pos rfl]
    exact wpAny_assignInOrder_none (hb.run pins s1 σ H D I1 h)
  | false =>
    rw [hc, if_neg Bool.false_ne_true] at h
    rw [if_neg Bool.false_ne_true]
    exact hr.run pins s1 σ H z tk false D I1 h
def tMatch (te : TE) (tm : Str → TS) : TS := fun D σ H => te σ H fun v H1 => ∃ z, v = .str z ∧ tm z D σ H1
theorem ps_match {e : Expr} {cs : List MatchCase} {pos : Pos} {te : TE} {tm : Str → TS} (he : PE X e te) (hm : PMC X cs tm) : PS X (.Match e cs pos) (tMatch te tm) := by
  refine ⟨fun pins s σ H D I h => wpAny_Match (thn (he.run pins s σ H _ I h) fun u s1 ⟨v, H1, I1, r, z, e, q⟩ => ?_)⟩
  subst e
  obtain ⟨t, rfl⟩ := r
  exact hm.run pins s1 σ H1 z t true D I1 q
end
end Hk

set_option Elab.async false
set_option linter.all false
set_option maxRecDepth 100000
set_option maxHeartbeats 1000000
/-! Sets of texts, and of tuples of texts. -/
namespace Hk
open PySem PySem.Spec PyProof.Rows L2

/-- a kind of things in sets -/
structure Kd (P : Program) (w : World) where
  κ : Type
  is : Heap → κ → Value → Prop
  hash : κ → Int
  ex : SetTable → List (Value × κ) → Prop
  draws : κ → Nat
def rowG {P : Program} {w : World} (k : Kd P w) (p : Value × k.κ) : Int × Value := (k.hash p.2, p.1)
/-- the set at a has the things L -/
structure SetG {P : Program} {w : World} (k : Kd P w) (h : Heap) (a : Addr) (L : List (Value × k.κ)) : Prop where
  body : ∃ o es ep t, h.get? a = some o ∧ o.ExactSet ∧ o.data = .set es ep t ∧ es.toList = L.map (rowG k) ∧ t.fits es.size = true ∧ Ris t.place.toList ∧ (w.params.followText "set-order" = true ∨ t.led = true) ∧ k.ex t L
  nd : (L.map (·.2)).Nodup
  ok : ∀ p ∈ L, k.is h p.2 p.1
  few : L.length < 64
/-- what one asks of a kind -/
structure KdOk {P : Program} {w : World} (k : Kd P w) : Prop where
  keep : ∀ {h h' : Heap} {x : k.κ} {v : Value}, k.is h x v → (∀ b o, h.get? b = some o → h'.get? b = some o) → k.is h' x v
  pyHash : ∀ {A : Around} {E : Value → Shared → Prop} {s : Shared} {x : k.κ} {v : Value} {Q : Int → Shared → Prop}, A.units < cLine → k.is s.heap x v → Q (k.hash x) { s with toks := s.toks + k.draws x } → wpAny (model P w) A (pyHash v) Q E s
  fresh : ∀ led, k.ex (.fresh 0 0 led) []
  inj : ∀ {h : Heap} {x y : k.κ} {v : Value}, k.is h x v → k.is h y v → x = y
  add : ∀ {A : Around} {E : Value → Shared → Prop} {s : Shared} {a : Addr} {x : k.κ} {v : Value} {L : List (Value × k.κ)} {Q : Bool → Shared → Prop}, A.units < cLine → SetG k s.heap a L → k.is s.heap x v → L.length + 1 < 64 →
    (∀ b h' L', Heap.SameBut a s.heap h' → SetG k h' a L' → (x ∈ L.map (·.2) → L' = L) → (x ∉ L.map (·.2) → L'.Perm ((v, x) :: L)) → Q b { s with heap := h' }) → wpAny (model P w) A (setAddHashed a v (k.hash x)) Q E s
theorem rows_len {α β : Type} {es : Array α} {L : List β} {f : β → α} (h : es.toList = L.map f) : es.size = L.length := by
  have q := congrArg List.length h
  rw [Array.length_toList, List.length_map] at q
  exact q
/-- rows in another order -/
theorem rows_perm {α β : Type} {f : β → α} {l : List α} : ∀ {L : List β}, l.Perm (L.map f) → ∃ L' : List β, l = L'.map f ∧ L'.Perm L := by
  intro L h
  generalize hm : L.map f = m at h
  induction h generalizing L with
  | nil =>
    cases L with
    | nil => exact ⟨[], rfl, .nil⟩
    | cons x r => cases hm
  | @cons x l1 l2 hp ih =>
    cases L with
    | nil => cases hm
    | cons y r =>
      rw [List.map_cons] at hm
      injection hm with e1 e2
      obtain ⟨L', e, p⟩ := ih e2
      exact ⟨y :: L', by rw [List.map_cons, e, e1], p.cons y⟩
  | @swap x y l =>
    cases L with
    | nil => cases hm
    | cons u r =>
      cases r with
      | nil => cases hm
      | cons v r =>
        simp only [List.map_cons] at hm
        injection hm with e1 e2
        injection e2 with e2 e3
        exact ⟨v :: u :: r, by rw [← e1, ← e2, ← e3]; rfl, .swap u v r⟩
  | @trans l1 l2 l3 h1 h2 ih1 ih2 =>
    obtain ⟨L1, e1, p1⟩ := ih2 hm
    obtain ⟨L2, e2, p2⟩ := ih1 e1.symm
    exact ⟨L2, e2, p2.trans p1⟩

/-! ### texts -/
@[reducible] def txtKd (P : Program) (w : World) : Kd P w where
  κ := Str
  is := fun _ x v => (PySem.strKind P w).is x v = true
  hash := (PySem.strKind P w).hash
  ex := fun _ _ => True
  draws := fun _ => 1
section
variable {P : Program} {w : World} {A : Around} {E : Value → Shared → Prop} {s : Shared}
theorem txt_elems {h : Heap} {L : List (Value × Str)} (ok : ∀ p ∈ L, (txtKd P w).is h p.2 p.1) : ElemsOf (PySem.strKind P w) (L.map (rowG (txtKd P w))) := fun e he => by
  obtain ⟨p, hp, rfl⟩ := List.mem_map.mp he
  refine ⟨⟨p.2, ok p hp, rfl⟩, ?_⟩
  obtain ⟨t, e⟩ := Value.isStrOf_shape (ok p hp)
  show p.1.scannable = true
  rw [e]; rfl
theorem txt_store {o : Obj} {a : Addr} {es es1 : Array (Int × Value)} {ep : Nat} {t t1 : SetTable} {L1 : List (Value × Str)} (ho : s.heap.get? a = some o) (hex : o.ExactSet) (hd : o.data = .set es ep t) (r1 : es1.toList = L1.map (rowG (txtKd P w))) (f1 : t1.fits es1.size = true)
    (ri : Ris t1.place.toList) (le : w.params.followText "set-order" = true ∨ t1.led = true) (nd : (L1.map (·.2)).Nodup) (ok : ∀ p ∈ L1, (txtKd P w).is s.heap p.2 p.1) (few : L1.length < 64) : SetG (txtKd P w) (s.heap.update a (Obj.putSet es1 t1)) a L1 :=
  ⟨⟨_, es1, ep + 1, t1, store_at ho hd, ⟨hex.1, hex.2.1, hex.2.2⟩, rfl, r1, f1, ri, le, trivial⟩, nd, ok, few⟩
theorem txt_add {a : Addr} {x : Str} {v : Value} {L : List (Value × Str)} {Q : Bool → Shared → Prop} (R : SetG (txtKd P w) s.heap a L) (hv : (txtKd P w).is s.heap x v) (hfew : L.length + 1 < 64)
    (hQ : ∀ b h' L', Heap.SameBut a s.heap h' → SetG (txtKd P w) h' a L' → (x ∈ L.map (·.2) → L' = L) → (x ∉ L.map (·.2) → L'.Perm ((v, x) :: L)) → Q b { s with heap := h' }) : wpAny (model P w) A (setAddHashed a v ((txtKd P w).hash x)) Q E s := by
  obtain ⟨o, es, ep, t, ho, hex, hd, hr, hf, hri, hl, _⟩ := R.body
  obtain ⟨tk, ev⟩ := Value.isStrOf_shape hv
  have hsc : v.scannable = true := by rw [ev]; rfl
  have hel : ElemsOf (PySem.strKind P w) es.toList := by rw [hr]; exact txt_elems R.ok
  have hsz := rows_len hr
  have few := R.few
  have hb : es.size < scanBound := by unfold scanBound; omega
  unfold setAddHashed setAddHashedIn
  refine wpAny_holding (wpAny_bind (wpAny_setState_of ho hd hf ?_))
  dsimp only
  rw [byScan_of hsc hb hel]
  simp only [↓reduceIte]
  unfold setAddByScan
  refine wpAny_bind (wpAny_bind (wpAny_rule ?_))
  refine wpAny_bind (wpAny_setScan_of hv ho hd hf hel ?_)
  have found : ∀ p ∈ L, (PySem.strKind P w).is x p.1 = true ↔ p.2 = x := fun p hp => by
    obtain ⟨t', e'⟩ := Value.isStrOf_shape (R.ok p hp)
    rw [e']
    show (p.2 == x) = true ↔ _
    exact beq_iff_eq
  cases hfi : List.findIdx? (fun e => (PySem.strKind P w).is x e.2) es.toList with
  | some j =>
    dsimp only
    obtain ⟨hj, pj, _⟩ := List.findIdx?_eq_some_iff_getElem.mp hfi
    have hmem : es.toList[j] ∈ L.map (rowG (txtKd P w)) := by rw [← hr]; exact List.getElem_mem hj
    obtain ⟨p, hp, ep'⟩ := List.mem_map.mp hmem
    have hx : x ∈ L.map (·.2) := List.mem_map.mpr ⟨p, hp, (found p hp).mp (by rw [← ep'] at pj; exact pj)⟩
    exact wpAny_pure (wpAny_pure (hQ false s.heap L (Heap.SameBut.refl a s.heap) R (fun _ => rfl) fun z => absurd hx z))
  | none =>
    dsimp only
    have hx : x ∉ L.map (·.2) := fun z => by
      obtain ⟨p, hp, e⟩ := List.mem_map.mp z
      have hmem : rowG (txtKd P w) p ∈ es.toList := by rw [hr]; exact List.mem_map.mpr ⟨p, hp, rfl⟩
      have c := List.findIdx?_eq_none_iff.mp hfi _ hmem
      have c2 := (found p hp).mpr e
      have c' : (PySem.strKind P w).is x p.1 = false := c
      rw [c2] at c'
      cases c'
    have hgw : ∀ (b : Bool) {s₁ : Shared} {Q' : Unit → Shared → Prop}, Q' () s₁ → wpAny (model P w) A (match b with | true => rule "set.scan.the-table-gave-way" | false => pure ()) Q' E s₁ :=
      fun b s₁ Q' q => by cases b <;> first | exact wpAny_pure q | exact wpAny_rule q
    have pm := layNew_perm t es ((PySem.strKind P w).hash x) v
    have f1 := layNew_fits t es ((PySem.strKind P w).hash x) v
    have r1 := layNew_ris t es ((PySem.strKind P w).hash x) v hri
    have l1 := layNew_led t es ((PySem.strKind P w).hash x) v
    generalize layNew t es ((PySem.strKind P w).hash x) v = Z at pm f1 r1 l1 ⊢
    obtain ⟨es1, t1, wd, gave⟩ := Z
    dsimp only at pm f1 r1 l1 ⊢
    rw [Array.toList_push, hr] at pm
    obtain ⟨L1, e1, p1⟩ := rows_perm (f := rowG (txtKd P w)) (L := (v, x) :: L) (l := es1.toList) (pm.trans (List.perm_append_singleton _ _))
    have nd1 : (L1.map (·.2)).Nodup := (p1.map (·.2)).nodup_iff.mpr (List.nodup_cons.mpr ⟨hx, R.nd⟩)
    have ok1 : ∀ p ∈ L1, (txtKd P w).is s.heap p.2 p.1 := fun p hp => by
      rcases List.mem_cons.mp (p1.mem_iff.mp hp) with z | z
      · rw [z]; exact hv
      · exact R.ok p z
    have few1 : L1.length < 64 := by rw [p1.length_eq]; exact hfew
    have led1 : ∀ pl : Bool, w.params.followText "set-order" = true ∨ ({ t1 with plain := pl } : SetTable).led = true := fun _ => hl.imp id fun z => by show t1.led = true; rw [l1]; exact z
    have hb1 : es1.size ≤ sizeLine := by rw [rows_len e1, sizeLine_eq]; omega
    have tail : ∀ t2 : SetTable, t2.fits es1.size = true → Ris t2.place.toList → (w.params.followText "set-order" = true ∨ t2.led = true) →
        wpAny (model P w) A (do
          storeSet a es1 t2
          if (!wd && t2.tooFull) = true then do
              (match (relayAll t2 es1 (SetTable.grown es1.size)).2.2 with | true => rule "set.scan.the-table-gave-way" | false => pure ())
              storeSet a (relayAll t2 es1 (SetTable.grown es1.size)).1 (relayAll t2 es1 (SetTable.grown es1.size)).2.1
              pure (some true)
            else pure (some true)) (fun r s' => r = some true ∧ Q true s') E s := fun t2 f2 r2 l2 => by
      refine wpAny_bind (wpAny_storeSet_of ho hd ?_ hb1)
      have G1 := txt_store (P := P) (w := w) ho hex hd e1 f2 r2 l2 nd1 ok1 few1
      have sb1 := Heap.SameBut.update s.heap a (Obj.putSet es1 t2)
      split
      · have pm2 := relayAll_perm t2 es1 (SetTable.grown es1.size)
        have f3 := relayAll_fits t2 es1 (SetTable.grown es1.size)
        have r3 := relayAll_ris t2 es1 (SetTable.grown es1.size)
        have l3 := relayAll_led t2 es1 (SetTable.grown es1.size)
        generalize relayAll t2 es1 (SetTable.grown es1.size) = Z at pm2 f3 r3 l3 ⊢
        obtain ⟨es2, t3, gv⟩ := Z
        dsimp only at pm2 f3 r3 l3 ⊢
        rw [e1] at pm2
        obtain ⟨L2, e2, p2⟩ := rows_perm pm2
        have ho1 := store_at (es' := es1) (t' := t2) ho hd
        refine wpAny_bind (hgw _ ?_)
        refine wpAny_bind (wpAny_storeSet_of ho1 rfl ?_ (by rw [rows_len e2, p2.length_eq, ← rows_len e1]; exact hb1))
        refine wpAny_pure ⟨rfl, hQ true _ L2 (sb1.trans (Heap.SameBut.update _ a _)) ?_ (fun z => absurd z hx) fun _ => p2.trans p1⟩
        exact ⟨⟨_, es2, _, t3, store_at ho1 rfl, ⟨hex.1, hex.2.1, hex.2.2⟩, rfl, e2, f3, r3, l2.imp id (fun z => by rw [l3]; exact z), trivial⟩, (p2.map (·.2)).nodup_iff.mpr nd1, fun p hp => ok1 p (p2.mem_iff.mp hp), by rw [p2.length_eq]; exact few1⟩
      · exact wpAny_pure ⟨rfl, hQ true _ L1 sb1 G1 (fun z => absurd z hx) fun _ => p1⟩
    refine wpAny_bind (hgw _ ?_)
    split
    · refine wpAny_bind ?_
      rw [hashByValue_scannable 8 hsc]
      refine wpAny_pure ?_
      refine wpAny_mono (tail _ ?_ ?_ ?_) (fun r s' hr' => ?_) fun _ _ z => z
      · first | (split <;> first | exact f1 | exact SetTable.fits_plain_off f1) | exact f1
      · first | (split <;> exact r1) | exact r1
      · first | (split <;> first | exact led1 _ | exact hl.imp id (fun z => by rw [l1]; exact z)) | exact hl.imp id (fun z => by rw [l1]; exact z)
      · obtain ⟨er, q⟩ := hr'
        subst er
        exact wpAny_pure q
    · refine wpAny_bind (wpAny_pure ?_)
      simp only [↓reduceIte]
      refine wpAny_mono (tail _ f1 r1 (hl.imp id fun z => by rw [l1]; exact z)) (fun r s' hr' => ?_) fun _ _ z => z
      obtain ⟨er, q⟩ := hr'
      subst er
      exact wpAny_pure q
theorem txt_ok : KdOk (txtKd P w) where
  keep := fun h _ => h
  pyHash := fun _ hv h => (PySem.strKind P w).pyHash hv h
  fresh := fun _ => trivial
  inj := fun h1 h2 => (PySem.strKind P w).inj _ _ _ h1 h2
  add := fun _ R hv few hQ => txt_add R hv few hQ
end
end Hk

set_option Elab.async false
set_option linter.all false
set_option maxRecDepth 100000
set_option maxHeartbeats 1000000
/-! Tuples of texts as a set's things. -/
namespace Hk
open PySem PySem.Spec PyProof.Rows L2

abbrev TupT (P : Program) (w : World) (h : Heap) (x : List Str) (v : Value) : Prop := ∃ b, v = .ref b ∧ IsTupleKey (PySem.strKind P w) h x b
@[reducible] def tupKd (P : Program) (w : World) : Kd P w where
  κ := List Str
  is := TupT P w
  hash := tupleKeyHash (PySem.strKind P w)
  ex := fun t L => TabOk t (L.map fun p => tupleKeyHash (PySem.strKind P w) p.2) ∧ L.length * 5 < t.mask * 3
  draws := fun x => x.length + 1
section
variable {P : Program} {w : World} {A : Around} {E : Value → Shared → Prop} {s : Shared}
theorem texts_in : ∀ {x : List Str} {vs : List Value}, ItemsAre (PySem.strKind P w) x vs → ∀ v ∈ vs, ∃ z t, v = Value.str z t
  | _, _, .nil => fun _ m => (List.not_mem_nil m).elim
  | _, _, .cons h r => List.forall_mem_cons.mpr ⟨⟨_, Value.isStrOf_shape h⟩, texts_in r⟩
/-- a loop whose every turn leaves all as it is -/
theorem loop_still {α β : Type} {r : β} {f : α → β → Sem (ForInStep β)} {Q : β → Shared → Prop} (h : Q r s) : ∀ {l : List α}, (∀ y ∈ l, ∀ Q' : ForInStep β → Shared → Prop, Q' (.yield r) s → wpAny (model P w) A (f y r) Q' E s) → wpAny (model P w) A (forIn l r f) Q E s
  | [], _ => wpAny_pure h
  | y :: l, hf => by
    rw [List.forIn_cons]
    exact wpAny_bind (hf y (.head l) _ (loop_still h fun z m => hf z (.tail y m)))
theorem cls_tup {x : List Str} {b : Addr} {Q : Bool → Shared → Prop} (hk : IsTupleKey (PySem.strKind P w) s.heap x b) (h : Q false s) : wpAny (model P w) A (ofAClassStatement 8 (.ref b)) Q E s := by
  obtain ⟨o, items, n, ho, -, hd, hi⟩ := id hk
  have texts := texts_in hi
  rw [ofAClassStatement]
  refine wpAny_bind (wpAny_typeOf hk.typeIs ?_)
  refine wpAny_bind (m := pure true) (wpAny_pure ?_)
  refine wpAny_bind (m := seqItems? (.ref b)) (wpAny_seqItems ho hd (wpAny_bind ?_))
  rw [← Array.forIn_toList]
  refine loop_still ?_ fun y m Q' q => ?_
  · exact wpAny_pure h
  · obtain ⟨z, t, rfl⟩ := texts y m
    exact wpAny_bind (m := pure false) (wpAny_pure (wpAny_pure q))
theorem val_tup {x : List Str} {b : Addr} {Q : Bool → Shared → Prop} (hk : IsTupleKey (PySem.strKind P w) s.heap x b) (h : ∀ r, Q r s) : wpAny (model P w) A (hashByValue 8 (.ref b)) Q E s := by
  obtain ⟨o, items, n, ho, -, hd, hi⟩ := id hk
  have texts := texts_in hi
  rw [hashByValue]
  refine wpAny_bind (wpAny_specialOf hk.typeIs F.slot_tuple_hash.lookup ?_)
  refine wpAny_bind (m := seqItems? (.ref b)) (wpAny_seqItems ho hd (wpAny_bind ?_))
  show wpAny _ _ (forIn items _ _) _ _ s
  rw [← Array.forIn_toList]
  match items.toList, texts with
  | [], _ => exact wpAny_pure (wpAny_pure (h _))
  | v :: vs, texts =>
    obtain ⟨z, t, rfl⟩ := texts v (.head vs)
    rw [List.forIn_cons]
    exact wpAny_bind (wpAny_bind (wpAny_pure (wpAny_pure (wpAny_pure (wpAny_pure (h _))))))
theorem unseen {x : List Str} {b : Addr} {Q : Bool → Shared → Prop} (hk : IsTupleKey (PySem.strKind P w) s.heap x b) {ys : List Value} (hy : ∀ y ∈ ys, ∃ z, TupT P w s.heap z y) (h : Q false s) : wpAny (model P w) A (searchCouldBeSeen (.ref b) ys) Q E s := by
  refine wpAny_bind (loop_still ?_ fun y m Q' q => ?_)
  · exact wpAny_pure h
  obtain ⟨z, c, rfl, hc⟩ := hy y m
  cases hv : (b == c || (carriedByValue (.ref b) && carriedByValue (.ref c)))
  · refine wp_if_neg (by rw [hv]; decide) ?_
    exact wpAny_bind (wpAny_eqIsQuiet_tuple hk (wpAny_bind (wpAny_eqIsQuiet_tuple hc (wpAny_bind (cls_tup hk (wpAny_bind (cls_tup hc (wpAny_pure q))))))))
  · exact wp_if_pos hv (wpAny_pure q)

/-! ### the search -/
abbrev stepN (m : Nat) (h : Int) (c : Nat) : SetTable.Probe := nth m (runAt m (SetTable.bits h % (m + 1)) (SetTable.bits h)) c
theorem step_add (m : Nat) (h : Int) (c q : Nat) : nth m (stepN m h c) q = stepN m h (c + q) := (nth_add m c _ q).symm
theorem step_dummy (m : Nat) (h : Int) (c : Nat) : (stepN m h c).dummy = none := by
  have key : ∀ (n : Nat) (p : SetTable.Probe), p.dummy = none → (nth m p n).dummy = none := by
    intro n
    induction n with
    | zero => exact fun p hp => hp
    | succ n ih =>
      intro p hp
      refine ih (adv m p) ?_
      unfold adv
      split <;> exact hp
  exact key c _ rfl
theorem probe_at {t : SetTable} {hs : List Int} (T : TabOk t hs) (hashAt : Nat → Int) {h : Int} {K c : Nat} (hKf : K < 10 * SetTable.turns t.mask) (hK : way t.mask h K ∉ t.place.toList) (hKb : ∀ k, k < K → way t.mask h k ∈ t.place.toList) (hc : c ≤ K) :
    (∃ d i, c ≤ d ∧ d < K ∧ t.place.toList[i]? = some (way t.mask h d) ∧ hashAt i = h ∧ (∀ d' i', c ≤ d' → d' < d → t.place.toList[i']? = some (way t.mask h d') → hashAt i' ≠ h) ∧ t.probe hashAt h (stepN t.mask h c) = some (.candidate (way t.mask h d) i (stepN t.mask h (d + 1)))) ∨
    ((∀ d' i', c ≤ d' → d' < K → t.place.toList[i']? = some (way t.mask h d') → hashAt i' ≠ h) ∧ t.probe hashAt h (stepN t.mask h c) = some (.empty (way t.mask h K) none)) := by
  have e : ∀ q, (nth t.mask (stepN t.mask h c) q).j = way t.mask h (c + q) := fun q => congrArg SetTable.Probe.j (step_add t.mask h c q)
  rcases go_spec t T.ris T.dm hashAt h (10 * SetTable.turns t.mask) (K - c) (stepN t.mask h c) (step_dummy _ _ _) (by omega) (fun q hq => by rw [e]; exact hKb _ (by omega)) (by rw [e, show c + (K - c) = K by omega]; exact hK) with ⟨q, i, h1, h2, h3, h4, h5⟩ | ⟨h4, h5⟩
  · rw [e] at h2 h5
    rw [step_add] at h5
    refine .inl ⟨c + q, i, by omega, by omega, h2, h3, fun d' i' a1 a2 a3 => h4 (d' - c) i' (by omega) (by rw [e, show c + (d' - c) = d' by omega]; exact a3), h5⟩
  · rw [e, show c + (K - c) = K by omega] at h5
    exact .inr ⟨fun d' i' a1 a2 a3 => h4 (d' - c) i' (by omega) (by rw [e, show c + (d' - c) = d' by omega]; exact a3), h5⟩
variable {a : Addr} {L : List (Value × List Str)}
theorem row_at {es : Array (Int × Value)} (hr : es.toList = L.map (rowG (tupKd P w))) {i : Nat} {p : Value × List Str} (h : L[i]? = some p) : es[i]? = some ((tupKd P w).hash p.2, p.1) := by
  rw [← Array.getElem?_toList, hr, List.getElem?_map, h]; rfl
/-- all that a set of ours holds are tuples of texts -/
theorem stored_tup {es : Array (Int × Value)} (hr : es.toList = L.map (rowG (tupKd P w))) (ok : ∀ p ∈ L, TupT P w s.heap p.2 p.1) (h : Int) : ∀ y ∈ (es.filter (·.1 == h)).toList.map (·.2), ∃ z, TupT P w s.heap z y := fun y m => by
  have low : y ∈ (L.map (rowG (tupKd P w))).map (·.2) := hr ▸ (List.map_subset _ (by rw [Array.toList_filter]; exact List.filter_sublist.subset)) m
  simp only [List.map_map, List.mem_map] at low
  obtain ⟨p, hp, rfl⟩ := low
  exact ⟨p.2, ok p hp⟩
/-- a place of the way that is taken, by the i-th of what is in the set: it is the one that is looked for, or the way goes on -/
theorem at_taken {o : Obj} {es : Array (Int × Value)} {ep : Nat} {t : SetTable} (ho : s.heap.get? a = some o) (hd : o.data = .set es ep t) (hr : es.toList = L.map (rowG (tupKd P w))) (hf : t.fits es.size = true) (ris : Ris t.place.toList) {b : Addr} {x : List Str}
    (hx : IsTupleKey (PySem.strKind P w) s.heap x b) (hu : A.units < cLine) {i j f : Nat} {nx : SetTable.Probe} {p : Value × List Str} (hp : L[i]? = some p) (here : t.place.toList[i]? = some j) (hpt : TupT P w s.heap p.2 p.1) {Q : SetFound → Shared → Prop}
    (yes : p.2 = x → Q (.there none) s) (no : p.2 ≠ x → wpAny (model P w) A (setSearchFrom a (.ref b) ((tupKd P w).hash x) true f (some nx)) Q E s) :
    wpAny (model P w) A (searchRest a (.ref b) ((tupKd P w).hash x) true f es t j i nx) Q E s := by
  obtain ⟨u, px⟩ := p
  obtain ⟨c, rfl, hc⟩ := hpt
  have row := row_at hr hp
  have live := slot_live ris here
  rw [searchRest, row]
  refine wpAny_bind (wpAny_holding (wpAny_eqBool_tuple hu hc hx (wpAny_bind (wpAny_setState_of ho hd hf ?_))))
  by_cases e : px = x
  · exact wp_if_pos (decide_eq_true e) (wpAny_pure (yes e))
  · have ne : ¬ decide (px = x) = true := fun z => e (of_decide_eq_true z)
    simp only [sameMem, live, row, ne, if_false, if_true, Bool.false_eq_true]
    repeat first
      | exact no e
      | refine wpAny_bind (wpAny_isSame_ref_self ?_)
      | refine wpAny_bind (wpAny_pure ?_)
      | simp only [if_true, ne, if_false, Bool.false_eq_true]
/-- from the c-th step of the way on -/
theorem seek {o : Obj} {es : Array (Int × Value)} {ep : Nat} {t : SetTable} (ho : s.heap.get? a = some o) (hd : o.data = .set es ep t) (hr : es.toList = L.map (rowG (tupKd P w))) (hf : t.fits es.size = true) (T : TabOk t (L.map fun p => (tupKd P w).hash p.2))
    (ok : ∀ p ∈ L, TupT P w s.heap p.2 p.1) {b : Addr} {x : List Str} (hx : IsTupleKey (PySem.strKind P w) s.heap x b) (hu : A.units < cLine) {K : Nat} (hKf : K < 10 * SetTable.turns t.mask)
    (hK : way t.mask ((tupKd P w).hash x) K ∉ t.place.toList) (hKb : ∀ c, c < K → way t.mask ((tupKd P w).hash x) c ∈ t.place.toList) {Q : SetFound → Shared → Prop}
    (hin : x ∈ L.map (·.2) → Q (.there none) s) (hout : x ∉ L.map (·.2) → Q (.free (way t.mask ((tupKd P w).hash x) K) false) s) :
    ∀ (f c : Nat) (stand : Option SetTable.Probe), stand.getD (t.probeStart ((tupKd P w).hash x)) = stepN t.mask ((tupKd P w).hash x) c → c ≤ K → K - c < f →
      (∀ (i : Nat) p, L[i]? = some p → p.2 = x → ∃ d, c ≤ d ∧ d < K ∧ t.place.toList[i]? = some (way t.mask ((tupKd P w).hash x) d)) →
      wpAny (model P w) A (setSearchFrom a (.ref b) ((tupKd P w).hash x) true f stand) Q E s
  | 0, _, _, _, _, lt, _ => (Nat.not_lt_zero _ lt).elim
  | f + 1, c, stand, hst, hc, lt, later => by
    have row : ∀ {i : Nat} {p}, L[i]? = some p → p.2 = x → (es[i]?.map (·.1)).getD 0 = (tupKd P w).hash x := fun hp e => by rw [row_at hr hp, ← e]; rfl
    have some_at : ∀ {j i : Nat}, t.place.toList[i]? = some j → ∃ p, L[i]? = some p := fun {j i} h => by
      have n := (List.getElem?_eq_some_iff.mp h).1
      have m := T.sz
      rw [List.length_map] at m
      exact ⟨_, List.getElem?_eq_getElem (by rw [Array.length_toList] at n; omega)⟩
    rw [setSearchFrom_succ]
    refine wpAny_bind (wpAny_setState_of ho hd hf (wp_if_neg (by unfold SetTable.gaveWay; rw [mask_odd T.mok]; decide) ?_))
    try refine wpAny_bind (wpAny_pure ?_)
    rw [hst]
    rcases probe_at T (fun i => (es[i]?.map (·.1)).getD 0) hKf hK hKb hc with ⟨d, i, cd, dK, here, -, before, step⟩ | ⟨before, step⟩ <;> rw [step]
    · obtain ⟨p, hp⟩ := some_at here
      have pL := List.mem_of_getElem? hp
      have taken := at_taken (E := E) (f := f) (nx := stepN t.mask ((tupKd P w).hash x) (d + 1)) ho hd hr hf T.ris hx hu hp here (ok p pL) (fun e => hin (e ▸ List.mem_map_of_mem pL)) fun ne => by
        refine seek ho hd hr hf T ok hx hu hKf hK hKb hin hout f (d + 1) _ rfl dK (by omega) fun i' p' hp' e => ?_
        obtain ⟨d', cd', dK', h'⟩ := later i' p' hp' e
        refine ⟨d', Nat.lt_of_le_of_ne (Nat.le_of_not_lt fun z => before d' i' cd' z h' (row hp' e)) fun z => ?_, dK', h'⟩
        subst z
        have same : i = i' := by simpa using (slot_live T.ris here).symm.trans (slot_live T.ris h')
        subst same
        cases hp.symm.trans hp'
        exact ne e
      cases l : t.led
      · exact wp_if_pos rfl (wpAny_bind (unseen hx (stored_tup hr ok _) (wp_if_neg Bool.false_ne_true (by first | exact taken | exact wpAny_bind (wpAny_pure taken)))))
      · exact wp_if_neg Bool.false_ne_true (by first | exact taken | exact wpAny_bind (wpAny_pure taken))
    · refine wpAny_pure (hout fun m => ?_)
      obtain ⟨p, pL, e⟩ := List.mem_map.mp m
      obtain ⟨i, hp⟩ := List.mem_iff_getElem?.mp pL
      obtain ⟨d', cd', dK', h'⟩ := later i p hp e
      exact before d' i cd' dK' h' (row hp e)
theorem tup_keep {h h' : Heap} {x : List Str} {v : Value} (t : TupT P w h x v) (k : ∀ b o, h.get? b = some o → (∀ es ep t, o.data ≠ .set es ep t) → h'.get? b = some o) : TupT P w h' x v := by
  obtain ⟨b, e, o, items, n, ho, hc, hd, hi⟩ := t
  exact ⟨b, e, o, items, n, k b o ho (fun es ep t z => by rw [hd] at z; cases z), hc, hd, hi⟩
theorem but_keep {h h' : Heap} {o : Obj} {es : Array (Int × Value)} {ep : Nat} {t : SetTable} (ho : h.get? a = some o) (hd : o.data = .set es ep t) (sb : Heap.SameBut a h h') : ∀ b o, h.get? b = some o → (∀ es ep t, o.data ≠ .set es ep t) → h'.get? b = some o := fun b u e hn => by
  by_cases hb : b = a
  · rw [hb, ho] at e
    cases e
    exact absurd hd (hn es ep t)
  · exact (sb.2 b hb).trans e
theorem tab_plain {t : SetTable} {hs : List Int} (T : TabOk t hs) (b : Bool) : TabOk { t with plain := b } hs := ⟨T.ris, T.dm, T.sz, T.mok, T.bd, T.reach⟩
theorem tab_fits {t : SetTable} {hs : List Int} {n : Nat} (T : TabOk t hs) (e : n = hs.length) (hl : n ≤ t.mask) : t.fits n = true := by
  have h1 := T.sz
  unfold SetTable.fits SetTable.fill
  rw [T.dm, Bool.and_eq_true, beq_iff_eq, decide_eq_true_eq]
  show t.place.size = n ∧ t.place.size + 0 ≤ t.mask
  omega
theorem order_of (L : List (Value × List Str)) {es : Array (Int × Value)} {order : Array Nat} (hr : es.toList = L.map (rowG (tupKd P w))) (hp : order.toList.Perm (List.range L.length)) :
    ∃ L2 : List (Value × List Str), (order.filterMap (es[·]?)).toList = L2.map (rowG (tupKd P w)) ∧ L2.Perm L ∧ (L2.map fun p => (tupKd P w).hash p.2) = order.toList.map fun i => (es.map (·.1)).getD i 0 := by
  have hsz := rows_len hr
  refine ⟨order.toList.filterMap fun i => L[i]?, ?_, ?_, ?_⟩
  · rw [Array.toList_filterMap, List.map_filterMap]
    congr 1
    funext i
    rw [← Array.getElem?_toList, hr, List.getElem?_map]
  · have h1 := hp.filterMap fun i => L[i]?
    rwa [List.filterMap_getElem?_range_length] at h1
  · have hi : ∀ i ∈ order.toList, i < L.length := fun i hi => List.mem_range.mp (hp.mem_iff.mp hi)
    generalize order.toList = l at hi
    induction l with
    | nil => rfl
    | cons i l ih =>
      have h0 := hi i List.mem_cons_self
      rw [List.filterMap_cons_some (List.getElem?_eq_getElem h0), List.map_cons, List.map_cons, ih fun j hj => hi j (List.mem_cons_of_mem _ hj)]
      congr 1
      have e5 : (es.map (·.1))[i]? = some ((tupKd P w).hash (L[i]).2) := by
        rw [Array.getElem?_map, row_at hr (List.getElem?_eq_getElem h0)]; rfl
      simp [Array.getD_eq_getD_getElem?, e5]
theorem tup_relay {o : Obj} {es : Array (Int × Value)} {ep : Nat} {t : SetTable} (ho : s.heap.get? a = some o) (hex : o.ExactSet) (hd : o.data = .set es ep t) (hr : es.toList = L.map (rowG (tupKd P w))) (hf : t.fits es.size = true) (nd : (L.map (·.2)).Nodup)
    (ok : ∀ p ∈ L, TupT P w s.heap p.2 p.1) (ld : w.params.followText "set-order" = true ∨ t.led = true) (few : L.length < 64) {wanted M : Nat} (hw : SetTable.sizeAbove wanted - 1 = M) (hM : MaskOk M) (hw2 : SetTable.sizeAbove wanted ≤ 128) (hn : L.length * 5 < M * 3) {Q : Unit → Shared → Prop}
    (hQ : ∀ h' L', Heap.SameBut a s.heap h' → SetG (tupKd P w) h' a L' → L'.Perm L → Q () { s with heap := h' }) : wpAny (model P w) A (setRelay a wanted) Q E s := by
  have hsl := rows_len hr
  have hml : (es.map (·.1)).size = L.length := by rw [Array.size_map, hsl]
  obtain ⟨t', order, e, hp, T, em, el, _, ed⟩ := relaid_ok t (hs := es.map (·.1)) (wanted := wanted) hw hM (by rw [hml]; omega)
  rw [hml] at hp
  obtain ⟨L2, r1, r2, r3⟩ := order_of L hr hp
  rw [← r3] at T
  have hs2 := rows_len r1
  rw [setRelay_eq]
  refine wpAny_bind (wpAny_setState_of ho hd hf ?_)
  dsimp only
  refine wp_if_neg (by rw [sizeLine_eq]; omega) ?_
  try refine wpAny_bind (wpAny_pure ?_)
  rw [e]
  dsimp only
  refine wpAny_bind (wp_if_neg (by rw [hs2, r2.length_eq, hsl]; simp) ?_)
  try refine wpAny_bind (wpAny_pure ?_)
  refine wpAny_pure ?_
  dsimp only
  refine wpAny_storeSet_of ho hd ?_ (by rw [hs2, r2.length_eq, sizeLine_eq]; omega)
  have sb : Heap.SameBut a s.heap (s.heap.update a (Obj.putSet (order.filterMap (es[·]?)) t')) := Heap.SameBut.update ..
  refine hQ _ L2 sb ⟨⟨_, _, _, t', store_at ho hd, ⟨hex.1, hex.2.1, hex.2.2⟩, rfl, r1, ?_, T.ris, by rw [el]; exact ld, T, ?_⟩, (r2.map (·.2)).nodup_iff.mpr nd, fun p hpm => tup_keep (ok p (r2.mem_iff.mp hpm)) (but_keep ho hd sb), by rw [r2.length_eq]; exact few⟩ r2
  · refine tab_fits T (by rw [List.length_map, hs2]) ?_
    rw [hs2, r2.length_eq, em]; omega
  · rw [r2.length_eq, em]; exact hn
theorem tup_add {x : List Str} {v : Value} {Q : Bool → Shared → Prop} (hu : A.units < cLine) (R : SetG (tupKd P w) s.heap a L) (hv : TupT P w s.heap x v) (hfew : L.length + 1 < 64)
    (hQ : ∀ b h' L', Heap.SameBut a s.heap h' → SetG (tupKd P w) h' a L' → (x ∈ L.map (·.2) → L' = L) → (x ∉ L.map (·.2) → L'.Perm ((v, x) :: L)) → Q b { s with heap := h' }) : wpAny (model P w) A (setAddHashed a v ((tupKd P w).hash x)) Q E s := by
  obtain ⟨o, es, ep, t, ho, hex, hd, hr, hf, hri, hl, T, hroom⟩ := R.body
  obtain ⟨b, rfl, hx⟩ := hv
  have hsl := rows_len hr
  have hlm : (L.map fun p => (tupKd P w).hash p.2).length = L.length := List.length_map _
  unfold setAddHashed
  refine wpAny_holding ?_
  rw [show (100000 : Nat) = 99999 + 1 from rfl, setAddHashedIn_succ]
  refine wpAny_bind (wpAny_setState_of ho hd hf ?_)
  dsimp only
  refine wp_if_neg (by simp [byScan, Value.scannable]) ?_
  try refine wpAny_bind (wpAny_pure ?_)
  obtain ⟨K, hKf, hK, hKb⟩ := T.first (by rw [hlm]; omega) ((tupKd P w).hash x)
  have hbig : K < 100000 := by
    have : 10 * SetTable.turns t.mask ≤ 1420 := by
      unfold SetTable.turns
      rcases T.mok with e | e | e <;> omega
    omega
  refine wpAny_bind ?_
  unfold setSearch
  refine seek (K := K) ho hd hr hf T R.ok hx hu hKf hK hKb (fun hm => ?_) (fun hm => ?_) 100000 0 none rfl (Nat.zero_le _) (by omega) fun i p hp hk => ?_
  · dsimp only
    exact wpAny_pure (hQ false s.heap L (Heap.SameBut.refl a s.heap) R (fun _ => rfl) fun z => absurd hm z)
  · dsimp only
    refine wpAny_bind (wpAny_setState_of ho hd hf ?_)
    dsimp only
    obtain ⟨q1, q2, q3, q4, q5, _, _, _, q9⟩ := T.put hK hKb
    generalize hpt : t.put (way t.mask ((tupKd P w).hash x) K) = pt at q1 q3 q4 q5 q9 ⊢
    obtain ⟨t1, p⟩ := pt
    dsimp only at q1 q3 q4 q5 q9 ⊢
    subst q1
    generalize SetTable.below t.place (way t.mask ((tupKd P w).hash x) K) = p at q2 q3 ⊢
    have pm : (L.take p ++ (Value.ref b, x) :: L.drop p).Perm ((Value.ref b, x) :: L) := by
      have z : (L.take p ++ (Value.ref b, x) :: L.drop p).Perm ((Value.ref b, x) :: (L.take p ++ L.drop p)) := List.perm_middle
      rwa [List.take_append_drop] at z
    have hin : (SetTable.insertAt es p ((tupKd P w).hash x, Value.ref b)).toList = (L.take p ++ (Value.ref b, x) :: L.drop p).map (rowG (tupKd P w)) := by
      rw [SetTable.toList_insertAt, hr, List.map_append, List.map_cons, List.map_take, List.map_drop]; rfl
    have hhs : (L.take p ++ (Value.ref b, x) :: L.drop p).map (fun p => (tupKd P w).hash p.2) = (L.map fun p => (tupKd P w).hash p.2).take p ++ (tupKd P w).hash x :: (L.map fun p => (tupKd P w).hash p.2).drop p := by
      rw [List.map_append, List.map_cons, List.map_take, List.map_drop]
    have q3' : TabOk t1 ((L.take p ++ (Value.ref b, x) :: L.drop p).map fun p => (tupKd P w).hash p.2) := by rw [hhs]; exact q3
    have nd1 : ((L.take p ++ (Value.ref b, x) :: L.drop p).map (·.2)).Nodup := (pm.map (·.2)).nodup_iff.mpr (List.nodup_cons.mpr ⟨hm, R.nd⟩)
    have hlen := pm.length_eq
    rw [List.length_cons] at hlen
    have hes := rows_len hin
    generalize SetTable.insertAt es p ((tupKd P w).hash x, Value.ref b) = es1 at hin hes ⊢
    generalize L.take p ++ (Value.ref b, x) :: L.drop p = L1 at pm hlen q3' nd1 hin hes
    have ok1 : ∀ q ∈ L1, TupT P w s.heap q.2 q.1 := fun q hq => by
      rcases List.mem_cons.mp (pm.mem_iff.mp hq) with z | z
      · rw [z]; exact ⟨b, rfl, hx⟩
      · exact R.ok q z
    have fin : ∀ t2 : SetTable, TabOk t2 (L1.map fun p => (tupKd P w).hash p.2) → t2.mask = t.mask → t2.led = t.led → t2.tooFull = t1.tooFull →
        wpAny (model P w) A (do
          storeSet a es1 t2
          if (!false && t2.tooFull) = true then setRelay a (SetTable.grown (es.size + 1))
          return true) Q E s := fun t2 T2 m2 l2 f2 => by
      refine wpAny_bind (wpAny_storeSet_of ho hd ?_ (by rw [hes, hlen, sizeLine_eq]; omega))
      have sb : Heap.SameBut a s.heap (s.heap.update a (Obj.putSet es1 t2)) := Heap.SameBut.update ..
      have ho1 := store_at (es' := es1) (t' := t2) ho hd
      generalize s.heap.update a (Obj.putSet es1 t2) = h1 at sb ho1 ⊢
      have ok2 : ∀ q ∈ L1, TupT P w h1 q.2 q.1 := fun q hq => tup_keep (ok1 q hq) (but_keep ho hd sb)
      have ld2 : w.params.followText "set-order" = true ∨ t2.led = true := by rw [l2]; exact hl
      have fit2 : t2.fits es1.size = true := tab_fits T2 (by rw [List.length_map, hes]) (by rw [hes, hlen, m2]; rcases T.mok with e | e | e <;> rw [e] at hroom ⊢ <;> omega)
      by_cases hfu : t1.tooFull = true
      · rw [f2, hfu]
        first
          | refine wp_if_pos rfl (wpAny_bind ?_)
          | refine wpAny_bind (wp_if_pos rfl ?_)
        have hfull : (L.length + 1) * 5 ≥ t.mask * 3 := by
          have z := hfu
          unfold SetTable.tooFull at z
          rw [decide_eq_true_eq, q9, q4, hlm] at z
          exact z
        have two : (t.mask = 7 ∧ L.length = 4) ∨ (t.mask = 31 ∧ L.length = 18) := by
          rcases T.mok with e | e | e
          · rw [e] at hfull hroom; exact .inl ⟨e, by omega⟩
          · rw [e] at hfull hroom; exact .inr ⟨e, by omega⟩
          · rw [e] at hfull hroom; omega
        have go : ∀ M, SetTable.sizeAbove (SetTable.grown (es.size + 1)) - 1 = M → MaskOk M → SetTable.sizeAbove (SetTable.grown (es.size + 1)) ≤ 128 → (L.length + 1) * 5 < M * 3 →
            wpAny (model P w) A (setRelay a (SetTable.grown (es.size + 1))) (fun _ s' => wpAny (model P w) A (pure true) Q E s') E { s with heap := h1 } := fun M a1 a2 a3 a4 =>
          tup_relay (s := { s with heap := h1 }) ho1 ⟨hex.1, hex.2.1, hex.2.2⟩ rfl hin fit2 nd1 ok2 ld2 (by rw [hlen]; exact hfew) a1 a2 a3 (by rw [hlen]; exact a4) fun h2 L2 sb2 R2 pm2 =>
            wpAny_pure (hQ true h2 L2 (sb.trans sb2) R2 (fun z => absurd z hm) fun _ => pm2.trans pm)
        rcases two with ⟨_, e2⟩ | ⟨_, e2⟩
        · exact go 31 (by rw [hsl, e2, size_20]) (.inr (.inl rfl)) (by rw [hsl, e2, size_20]; decide) (by omega)
        · exact go 127 (by rw [hsl, e2, size_76]) (.inr (.inr rfl)) (by rw [hsl, e2, size_76]; decide) (by omega)
      · rw [f2]
        have hfu' : t1.tooFull = false := by
          cases z : t1.tooFull with
          | true => exact absurd z hfu
          | false => rfl
        rw [hfu']
        have hroom1 : L1.length * 5 < t2.mask * 3 := by
          have z := hfu
          unfold SetTable.tooFull at z
          rw [decide_eq_true_eq, q9, q4, hlm] at z
          rw [hlen, m2]; omega
        have G1 : SetG (tupKd P w) h1 a L1 := ⟨⟨_, es1, _, t2, ho1, ⟨hex.1, hex.2.1, hex.2.2⟩, rfl, hin, fit2, T2.ris, ld2, T2, hroom1⟩, nd1, ok2, by rw [hlen]; exact hfew⟩
        first
          | exact wp_if_neg Bool.false_ne_true (wpAny_pure (hQ true h1 L1 sb G1 (fun z => absurd z hm) fun _ => pm))
          | exact wpAny_bind (wp_if_neg Bool.false_ne_true (wpAny_pure (wpAny_pure (hQ true h1 L1 sb G1 (fun z => absurd z hm) fun _ => pm))))
    have cont : ∀ r : Bool, wpAny (model P w) A (do
          storeSet a es1 (if r = true then t1 else { t1 with plain := false })
          if (!false && (if r = true then t1 else { t1 with plain := false }).tooFull) = true then setRelay a (SetTable.grown (es.size + 1))
          return true) Q E s := fun r => by
      cases r with
      | true => exact fin t1 q3' q4 q5 rfl
      | false => exact fin { t1 with plain := false } (tab_plain q3' false) q4 q5 rfl
    by_cases hpl : t1.plain = true
    · first
        | (refine wpAny_bind ?_; refine wp_if_pos hpl ?_; exact val_tup hx cont)
        | exact wp_if_pos hpl (wpAny_bind (val_tup hx cont))
    · first
        | (refine wpAny_bind ?_; refine wp_if_neg hpl ?_; exact wpAny_pure (cont true))
        | exact wp_if_neg hpl (wpAny_bind (wpAny_pure (cont true)))
  · have hi : (L.map fun p => (tupKd P w).hash p.2)[i]? = some ((tupKd P w).hash x) := by rw [List.getElem?_map, hp, ← hk]; rfl
    have hil : i < t.place.toList.length := by
      have h1 : i < L.length := (List.getElem?_eq_some_iff.mp hp).1
      have h2 := T.sz
      rw [hlm] at h2
      rw [Array.length_toList]
      omega
    have hj := List.getElem?_eq_getElem hil
    obtain ⟨c, hc, e⟩ := T.before hK hi hj
    exact ⟨c, Nat.zero_le _, hc, by rw [hj, e]⟩
theorem tup_ok : KdOk (tupKd P w) where
  keep := fun h k => tup_keep h fun b o e _ => k b o e
  pyHash := fun hu ⟨b, e, hk⟩ h => by rw [e]; exact wpAny_pyHash_tuple hu hk h
  fresh := fun _ => ⟨⟨List.Pairwise.nil, rfl, rfl, .inl rfl, fun x hx => (by cases hx), fun i h j hi => (by simp at hi)⟩, by show 0 * 5 < 7 * 3; decide⟩
  inj := fun ⟨b, e, h1⟩ ⟨b', e', h2⟩ => by
    rw [e] at e'
    cases e'
    exact h1.inj h2
  add := fun hu R hv few hQ => tup_add hu R hv few hQ
end
end Hk

set_option Elab.async false
set_option linter.all false
set_option maxRecDepth 100000
set_option maxHeartbeats 3200000
/-! set(xs) of a list or a tuple; its length, its members in order. -/
namespace Hk
open PySem PySem.Spec PyProof.Rows L2

/-- what is in the set behind the first i -/
structure Has {κ : Type} (ks : List (Value × κ)) (i : Nat) (L : List (Value × κ)) : Prop where
  sub : ∀ p ∈ L, p ∈ ks.take i
  all : ∀ p ∈ ks.take i, p.2 ∈ L.map (·.2)
  len : L.length ≤ i
theorem Has.step {κ : Type} {ks L L' : List (Value × κ)} {i : Nat} {x : Value × κ} (g : Has ks i L) (h : ks[i]? = some x) (c1 : x.2 ∈ L.map (·.2) → L' = L) (c2 : x.2 ∉ L.map (·.2) → L'.Perm (x :: L)) : Has ks (i + 1) L' := by
  have one : ∀ p, p ∈ ks.take (i + 1) ↔ p ∈ ks.take i ∨ p = x := fun p => by simp [List.take_add_one, h]
  by_cases c : x.2 ∈ L.map (·.2)
  · cases c1 c
    exact ⟨fun p m => (one p).mpr (.inl (g.sub p m)), fun p m => ((one p).mp m).elim (g.all p) fun e => e ▸ c, Nat.le_succ_of_le g.len⟩
  · have pm := c2 c
    have two : ∀ y, y ∈ L'.map (·.2) ↔ y = x.2 ∨ y ∈ L.map (·.2) := fun y => by rw [(pm.map _).mem_iff]; exact List.mem_cons
    exact ⟨fun p m => (one p).mpr ((List.mem_cons.mp (pm.mem_iff.mp m)).elim .inr fun z => .inl (g.sub p z)), fun p m => (two _).mpr (((one p).mp m).elim (fun z => .inr (g.all p z)) fun e => .inl (e ▸ rfl)), pm.length_eq ▸ Nat.succ_le_succ g.len⟩
section
variable {P : Program} {w : World} {A : Around} {E : Value → Shared → Prop} {s : Shared} {k : Kd P w}
theorem SetG.stay {h h' : Heap} {a : Addr} {L : List (Value × k.κ)} (R : SetG k h a L) (ha : ∀ o, h.get? a = some o → h'.get? a = some o) (ht : ∀ p ∈ L, k.is h' p.2 p.1) : SetG k h' a L := by
  obtain ⟨o, es, ep, t, ho, r⟩ := R.body
  exact ⟨⟨o, es, ep, t, ha o ho, r⟩, R.nd, ht, R.few⟩
/-- the loop of set.update, i items being in the set at S; h0: a heap that stays, in which the items stand -/
theorem set_loop (K : KdOk k) {I : Addr} {fp wr : List Addr} {G : Array GenState → Array GenState → Prop} {Pv : Nat → Value → Prop} {St : Nat → Shared → Prop} {R : Result → Shared → Prop} (S : Addr) (hSf : S ∉ fp) (ks : List (Value × k.κ)) (W : WalksS P w A.in1 I fp wr G ks.length Pv St)
    (hfew : ks.length < 64) (hval : ∀ i v, Pv i v → ∃ p, ks[i]? = some p ∧ v = p.1) (h0 : Heap) (hk : ∀ p ∈ ks, k.is h0 p.2 p.1) (hS0 : h0.get? S = none) (hw0 : ∀ b ∈ wr, h0.get? b = none) (hu : A.in1.units < cLine)
    (i : Nat) (s : Shared) (L : List (Value × k.κ)) (le : i ≤ ks.length) (st : St i s) (old : ∀ b o, h0.get? b = some o → s.heap.get? b = some o) (hS : SetG k s.heap S L) (g : Has ks i L)
    (last : ∀ s' L, Moved (S :: wr) G s s' → SetG k s'.heap S L → Has ks ks.length L → (∀ b o, h0.get? b = some o → s'.heap.get? b = some o) → R (.ok (.ret .none)) s') :
    codeAny (model P w) A (.builtin "set.update.loop" ⟨[.ref S, .ref I], []⟩) R s := by
  have keep : ∀ {s'}, Moved wr G s s' → (∀ b o, h0.get? b = some o → s'.heap.get? b = some o) ∧ SetG k s'.heap S L := fun mv => by
    have z : ∀ b o, h0.get? b = some o → _ := fun b o e => mv.heap b o (fun m => nomatch (hw0 b m).symm.trans e) (old b o e)
    exact ⟨z, hS.stay (fun o e => mv.heap S o (fun m => hSf (W.sub _ m)) e) fun p m => K.keep (hk p (List.mem_of_mem_take (g.sub p m))) z⟩
  have wide : ∀ {s'}, Moved wr G s s' → Moved (S :: wr) G s s' := fun mv => mv.mono fun _ => List.mem_cons_of_mem S
  refine codeAny_builtin F.entry_set_update_loop (Around.under_plainId F.plain_set_update_loop _ ▸ ?_)
  refine wpAny_bind (m := pyNext (.ref I)) ?_
  rcases Nat.lt_or_ge i ks.length with lt | ge
  · refine W.item i s _ _ lt st fun v s1 hv st1 mv => ?_
    obtain ⟨p, hp, rfl⟩ := hval i v hv
    obtain ⟨old1, hS1⟩ := keep mv
    have is : k.is s1.heap p.2 p.1 := K.keep (hk p (List.mem_of_getElem? hp)) old1
    refine wpAny_bind (m := holding [p.1] (setAdd S p.1)) (wpAny_holding (wpAny_holding (wpAny_bind (K.pyHash hu is ?_))))
    refine K.add (s := { s1 with toks := s1.toks + k.draws p.2 }) hu hS1 is (Nat.lt_of_le_of_lt (Nat.succ_le_succ g.len) (Nat.lt_of_le_of_lt lt hfew)) fun b h2 L2 sb hS2 c1 c2 => ?_
    have neS : ∀ b ∈ fp, b ≠ S := fun b m e => hSf (e ▸ m)
    refine wpAny_pure ⟨plainId_quiet F.plain_set_update_loop _, set_loop K S hSf ks W hfew hval h0 hk hS0 hw0 hu (i + 1) _ L2 lt (W.frame _ s1 _ _ st1 (Nat.le_add_right _ _) fun b m o e => (sb.2 b (neS b m)).trans e) (fun b o e => (sb.2 b fun z => nomatch (z ▸ e).symm.trans hS0).trans (old1 b o e)) hS2 (g.step hp c1 c2) fun s3 L3 mv3 => last s3 L3 ?_⟩
    exact Moved.trans W.gtrans ((wide mv).then_heap (Nat.le_add_right _ _) fun b o m e => (sb.2 b fun z => m (z ▸ .head _)).trans e) mv3
  · cases Nat.le_antisymm le ge
    refine W.done s _ _ st fun s1 mv => wpAny_pure ?_
    exact last s1 L (wide mv) (keep mv).2 g (keep mv).1
  termination_by ks.length - i
abbrev newSet (w : World) : Obj := { cls := .type "set", dict := none, data := .set #[] 0 (.fresh 0 0 (!w.params.followText "set-order")) }
theorem set_fresh (K : KdOk k) {h : Heap} {a : Addr} (ho : h.get? a = some (newSet w)) : SetG k h a [] :=
  ⟨⟨_, #[], 0, _, ho, ⟨rfl, rfl, rfl⟩, rfl, rfl, rfl, List.Pairwise.nil, (by
    show _ ∨ (!w.params.followText "set-order") = true
    cases w.params.followText "set-order"
    · exact .inr rfl
    · exact .inl rfl), K.fresh _⟩, List.nodup_nil, fun p hp => (by cases hp), by show 0 < 64; decide⟩
/-- the items stand one behind the other in a thing of class T -/
def SeqAt (T : String) (h : Heap) (l : Addr) (items : Array Value) : Prop := ∃ o, h.get? l = some o ∧ o.cls = .type T ∧ ∃ n, o.data = .seq items n
/-- what set(..) asks of the class T: none of the classes with a short way; its iterator (of class IT) walks the items -/
structure Feed (P : Program) (w : World) (T IT : String) : Prop where
  sub1 : isSubtype (.type T) (.type "set") = pure false
  sub2 : isSubtype (.type T) (.type "frozenset") = pure false
  dict : (Value.type T == Value.type "dict") = false
  iter : ∀ {A : Around} {E : Value → Shared → Prop} {s : Shared} {l : Addr} {items : Array Value} {Q : Value → Shared → Prop}, SeqAt T s.heap l items → Q (.ref s.heap.objs.size) { s with heap := s.heap.push { cls := .type IT, data := .fields #[.ref l, .int 0 0] } } →
    wpAny (model P w) A (pyIter (.ref l)) Q E s
  walk : ∀ {A : Around}, A.handled = none → ∀ (I l : Addr), l ≠ I → ∀ items : Array Value, ∃ St : Nat → Heap → Prop, Walks P w A I [I, l] [I] items.size (fun i v => items[i]? = some v) St ∧
    ∀ h : Heap, h.get? I = some { cls := .type IT, data := .fields #[.ref l, .int 0 0] } → SeqAt T h l items → St 0 h
theorem feed_list : Feed P w "list" "list_iterator" := ⟨F.sub_list_set, F.sub_list_frozenset, rfl, fun h q => wpAny_pyIter_list h q, fun hh I l ne items => ⟨_, Walks.list hh I l ne items, fun _ e x => ⟨⟨_, e, rfl, rfl⟩, x⟩⟩⟩
theorem feed_tuple : Feed P w "tuple" "tuple_iterator" := ⟨F.sub_tuple_set, F.sub_tuple_frozenset, rfl, fun h q => wpAny_pyIter_tuple h q, fun hh I l ne items => ⟨_, Walks.tuple hh I l ne items, fun _ e x => ⟨⟨_, e, rfl, rfl⟩, x⟩⟩⟩
/-- the class set is called: a new empty one, then its __init__ -/
theorem set_begun {v : Value} {Q : Value → Shared → Prop}
    (h : codeAny (model P w) A.in1 (.call (.builtin "set.__init__") ⟨[.ref s.heap.objs.size, v], []⟩) (wants (fun r s2 => r = .none ∧ Q (.ref s.heap.objs.size) s2) E) { s with heap := s.heap.push (newSet w) }) : wpAny (model P w) A (call (.type "set") [v]) Q E s := by
  have T := F.called_set
  obtain ⟨_, _, _⟩ := T.mro
  have := T.made; have := T.sub; have := T.notType; have := T.canCreate; have := T.init.lookup; have := T.init.bind (.ref s.heap.objs.size); have := F.typeCall_set_1 v
  have is : Shared.TypeIs { s with heap := s.heap.push (newSet w) } (.ref s.heap.objs.size) "set" := ⟨_, Heap.get?_push_size _ rfl, rfl⟩
  refine wpAny_call (codeAny_of_tree (wpAny_pure ⟨Code.quiet_builtin _ (by decide +kernel), codeAny_builtin F.entry_type_call (by
    rw [Around.under_plain (weight_type_call_type "set" [v] []) rfl]
    repeat (any_goals (first | assumption | wp_step))
    refine codeAny_mono (code_set_led1 v (E := E) (Q₁ := fun u s1 => u = .ref s.heap.objs.size ∧ s1 = { s with heap := s.heap.push (newSet w) }) ⟨rfl, rfl⟩) fun r s1 q => ?_
    match r, q with
    | .error _, q => exact q
    | .ok (.ret _), ⟨e1, e2⟩ =>
      subst e1 e2
      repeat (any_goals (first | assumption | wp_step))
      refine codeAny_mono h fun r s2 q => ?_
      match r, q with
      | .error _, q => exact q
      | .ok (.ret _), ⟨e1, q⟩ =>
        subst e1
        repeat (any_goals (first | assumption | wp_step)))⟩))
/-- set(xs), xs a list or a tuple -/
theorem call_set_seq {T IT : String} (Fd : Feed P w T IT) (K : KdOk k) {l : Addr} {items : Array Value} (ks : List (Value × k.κ)) {Q : Value → Shared → Prop} (hh : A.handled = none) (hl : SeqAt T s.heap l items) (hit : items.toList = ks.map (·.1)) (hk : ∀ p ∈ ks, k.is s.heap p.2 p.1) (hfew : ks.length < 64) (hu : A.units + 3 < cLine)
    (h : ∀ (h' : Heap) (tk : Nat) L, SetG k h' s.heap.objs.size L → Has ks ks.length L → (∀ b o, s.heap.get? b = some o → h'.get? b = some o) → Q (.ref s.heap.objs.size) { s with heap := h', toks := tk }) :
    wpAny (model P w) A (call (.type "set") [.ref l]) Q E s := by
  have n0 := rows_len hit
  have grow : ∀ {b o}, s.heap.get? b = some o → (s.heap.push (newSet w)).get? b = some o := fun e => Heap.get?_push_of_some _ e
  have size1 : (s.heap.push (newSet w)).objs.size = s.heap.objs.size + 1 := Heap.size_push ..
  have at0 : (s.heap.push (newSet w)).get? s.heap.objs.size = some (newSet w) := Heap.get?_push_size _ rfl
  obtain ⟨⟨ocls, odict, odata, oslots⟩, ho, hc, n, hd⟩ := hl
  dsimp only at hc hd
  subst hc hd
  have ho1 := grow ho
  have lt := Heap.lt_size ho
  have ne1 : l ≠ (s.heap.push (newSet w)).objs.size := size1 ▸ Nat.ne_of_lt (Nat.lt_succ_of_lt lt)
  have fresh : ∀ b, s.heap.objs.size ≤ b → s.heap.get? b = none := fun b hb => Heap.get?_none_of_le hb
  have apart : s.heap.objs.size ∉ [(s.heap.push (newSet w)).objs.size, l] := fun m => by
    rcases List.mem_cons.mp m with e | e
    · exact absurd (e.trans size1) (Nat.ne_of_lt (Nat.lt_succ_self _))
    · exact absurd (List.mem_singleton.mp e) (Nat.ne_of_gt lt)
  obtain ⟨St, W, W0⟩ := Fd.walk (A := A.in1.in1.in1) (by simp [hh]) _ l ne1 items
  have sub1 := Fd.sub1; have sub2 := Fd.sub2; have nod := Fd.dict
  refine set_begun (codeAny_call_builtin F.called_set.init.plain F.entry_set_init (check_set_init_1 ⟨_, at0, rfl⟩ ?_))
  unfold Builtin.«set.__init__» noKeywords Builtin.Frozenset.updateFrom
  generalize hPI : pyIter = PI
  wp_walk
  subst hPI
  refine Fd.iter ⟨_, ho1, rfl, n, rfl⟩ (wpAny_bind (wpAny_runValue ?_))
  refine set_loop K s.heap.objs.size apart ks (n0 ▸ W.toS) hfew (fun i v e => ?_) s.heap hk (fresh _ (Nat.le_refl _)) (fun b m => fresh b (List.mem_singleton.mp m ▸ size1 ▸ Nat.le_succ _)) hu 0 _ [] (Nat.zero_le _)
    (W0 _ (Heap.get?_push_size _ rfl) ⟨_, Heap.get?_push_of_some _ ho1, rfl, n, rfl⟩) (fun b o e => Heap.get?_push_of_some _ (grow e)) (set_fresh K (Heap.get?_push_of_some _ at0)) ⟨fun p z => (by cases z), fun p z => (by simp at z), Nat.le_refl _⟩ fun s2 L mv R g kp => ?_
  · have q := congrArg (fun z => z[i]?) hit
    simp only [Array.getElem?_toList, e, List.getElem?_map] at q
    obtain ⟨p, hp, e1⟩ := Option.map_eq_some_iff.mp q.symm
    exact ⟨p, hp, e1.symm⟩
  · have z : s2 = { s with heap := s2.heap, toks := s2.toks } := by
      obtain ⟨_, g2, d2, _, o2⟩ := s2
      have e1 : g2 = s.gens := mv.gens
      have e2 : d2 = s.drawn := mv.drawn
      have e3 : o2 = s.os := mv.os
      rw [e1, e2, e3]
    refine wpAny_pure (wpAny_pure ⟨rfl, ?_⟩)
    rw [z]
    exact h _ _ L R g kp
end
end Hk

set_option Elab.async false
set_option linter.all false
set_option maxRecDepth 100000
set_option maxHeartbeats 3200000
/-! A set's length, its members in order. -/
namespace Hk
open PySem PySem.Spec PyProof.Rows L2
section
variable {P : Program} {w : World} {A : Around} {E : Value → Shared → Prop} {s : Shared} {k : Kd P w}
theorem set_len {a : Addr} {L : List (Value × k.κ)} {Q : Value → Shared → Prop} (R : SetG k s.heap a L) (h : Q (.int L.length (s.toks + 1)) { s with toks := s.toks + 1 + 1 }) : wpAny (model P w) A (call (.builtin "len") [.ref a]) Q E s := by
  obtain ⟨o, es, ep, t, ho, hex, hd, hr, hf, _⟩ := R.body
  have hsz := rows_len hr
  have few := R.few
  refine PySem.call_len_set ho hex hd hf (by omega) ?_
  rw [hsz]
  exact h
/-- its members in order -/
theorem set_sorted {a : Addr} {L : List (Value × k.κ)} {Q : Value → Shared → Prop} (enc : k.κ → PyData) (R : SetG k s.heap a L) (hh : A.handled = none) (hrd : ∀ p ∈ L, Reads s.heap p.1 (enc p.2) []) (hal : PySem.W.AllAlike ((L.map (·.2)).map enc)) (hso : PySem.W.Sortable ((L.map (·.2)).map enc))
    (hu : ∀ p ∈ L, A.units + 2 + (enc p.2).depth < cLine)
    (hQ : ∀ s' p (out : List Value) (c : Nat) (bs : List k.κ), (∀ b o, s.heap.get? b = some o → s'.heap.get? b = some o) → s'.gens = s.gens → s'.os = s.os → s.heap.objs.size ≤ p → s'.heap.get? p = some (seqObj "list" out.toArray c) → out.length < 64 →
      bs.Perm (L.map (·.2)) → PySem.W.EachIs (fun v x => (v, x) ∈ L) out (bs.mergeSort (PySem.W.dataLe false enc)) → Q (.ref p) s') : wpAny (model P w) A (call (.builtin "sorted") [.ref a]) Q E s := by
  obtain ⟨o, es, ep, t, ho, hex, hd, hr, hf, hri, hled, _⟩ := R.body
  have hsz := rows_len hr
  have few := R.few
  refine Calls.call_function_entry kind_sorted plain_sorted entry_sorted (args_sorted1 _) ?_
  unfold Builtin.«sorted»
  refine wpAny_bind (m := checkCount "sorted" 1 1 _) (wpAny_pure ?_)
  refine wpAny_bind (collect_set (A := A.in1) hh ⟨o, ho, hex.1, hd⟩ hf (by unfold scanBound; omega) hri hled fun s1 vs k1 hz g1 o1 pm => ?_)
  have e1 : es.toList.map (·.2) = L.map (·.1) := by
    rw [hr, List.map_map]; rfl
  rw [e1] at pm
  obtain ⟨L1, ev, pL⟩ := rows_perm pm
  have hvl : vs.length < 64 := by rw [ev, List.length_map, pL.length_eq]; exact few
  refine wpAny_bind (wpAny_newList ?_ (by rw [sizeLine_eq]; omega))
  have hoL : (s1.heap.push (seqObj "list" vs.toArray 0)).get? s1.heap.objs.size = some (seqObj "list" vs.toArray 0) := Heap.get?_push_size _ rfl
  have each : ∀ {Rl : Value → k.κ → Prop} (M : List (Value × k.κ)), (∀ p ∈ M, Rl p.1 p.2) → PySem.W.EachIs Rl (M.map (·.1)) (M.map (·.2)) := fun {Rl} M hM => by
    induction M with
    | nil => exact .nil
    | cons p M ih => exact .cons (hM p List.mem_cons_self) (ih fun q hq => hM q (List.mem_cons_of_mem _ hq))
  have pk : (L1.map (·.2)).Perm (L.map (·.2)) := pL.map (·.2)
  refine wpAny_bind (wpAny_holding (PySem.W.list_sort_data (R := fun v x => (v, x) ∈ L) (enc := enc) (vs := vs) (bs := L1.map (·.2)) (s := { s1 with heap := s1.heap.push (seqObj "list" vs.toArray 0) }) hoL (by rw [ev]; exact each L1 fun p hp => pL.mem_iff.mp hp) (by
      rw [ev]
      refine each L1 fun p hp => ?_
      exact ⟨[], PyProof.Rows.Reads.keeps (fun b u e => Heap.get?_push_of_some _ (k1 b u e)) (hrd p (pL.mem_iff.mp hp)), fun hm => by cases hm⟩)
    (fun d hd' d' hd'' => hal d (((pk.map enc).mem_iff).mp hd') d' (((pk.map enc).mem_iff).mp hd'')) (hso.imp (fun z d hd' => z d (((pk.map enc).mem_iff).mp hd')) fun z d hd' => z d (((pk.map enc).mem_iff).mp hd')) (by rw [List.length_map, pL.length_eq, sizeLine_eq]; omega)
    (fun x hx => by
      obtain ⟨p, hp, e⟩ := List.mem_map.mp (pk.mem_iff.mp hx)
      rw [← e]
      exact hu p hp) fun out hlo hout => ?_))
  obtain ⟨c, hc⟩ := sortedHeap_at (vs := vs) (out := out.toArray) hoL
  refine wpAny_pure ⟨_, rfl, hQ _ s1.heap.objs.size out c (L1.map (·.2)) (fun b u e => ?_) g1 o1 hz hc (by rw [hlo, List.length_map, pL.length_eq]; exact few) pk hout⟩
  have q := k1 b u e
  have hlt := Heap.lt_size q
  show (sortedHeap (s1.heap.push (seqObj "list" vs.toArray 0)) s1.heap.objs.size vs out.toArray).get? b = some u
  rw [sortedHeap_old (Nat.ne_of_lt hlt) (by rw [size_push']; exact Nat.lt_succ_of_lt hlt)]
  exact Heap.get?_push_of_some _ q
end
end Hk


set_option Elab.async false
set_option linter.all false
set_option maxRecDepth 100000
set_option maxHeartbeats 1000000
/-! len(set(e)), sorted(set(e)), sorted(e). -/
namespace Hk
open PySem PySem.Spec PyProof.Rows L2

/-- how a kind's things stand in a heap that is tracked -/
structure Br (X : Cx) (k : Kd X.prog X.w) (enc : k.κ → PyData) : Prop where
  is : ∀ {pins : List (Addr × Obj)} {s : Shared} {σ : L2.St} {H : Hp} {v : V} {u : Value} {b : k.κ}, Inv X pins σ H s → Dp X.K H v (enc b) → RelV v u → k.is s.heap b u ∧ Reads s.heap u (enc b) []
  dep : ∀ b, (enc b).depth ≤ 5
section
variable {X : Cx} {pins : List (Addr × Obj)} {s : Shared} {σ : L2.St} {H : Hp}
theorem br_txt : Br X (txtKd X.prog X.w) PyData.str where
  is := fun I d r => by
    cases d
    obtain ⟨t, rfl⟩ := r
    exact ⟨strKind_is _ _ _ _, .str _ t⟩
  dep := fun b => by show 0 ≤ 5; decide
theorem texts_are {P : Program} {w : World} : ∀ {x : List Str} {vs : List Value}, Vals (x.map V.str) vs → ItemsAre (PySem.strKind P w) x vs ∧ ∀ h, ReadsAll h vs (x.map PyData.str) []
  | [], vs, r => by cases r; exact ⟨.nil, fun _ => .nil⟩
  | z :: x, vs, r => by
    cases r with
    | cons r1 r2 =>
      obtain ⟨t, rfl⟩ := r1
      obtain ⟨i1, i2⟩ := texts_are (P := P) (w := w) r2
      exact ⟨.cons (strKind_is _ _ _ _) i1, fun h => .cons (.str z t) (i2 h)⟩
theorem depth_strs : ∀ x : List Str, PyData.depthAll (x.map PyData.str) = 0
  | [] => rfl
  | z :: x => by
    have := depth_strs x
    simp only [List.map_cons, PyData.depthAll, PyData.depth, this]; rfl
abbrev encT (x : List Str) : PyData := .tuple (x.map PyData.str)
theorem br_tup : Br X (tupKd X.prog X.w) encT where
  is := fun {pins s σ H v u b} I d r => by
    obtain ⟨a, xs, rfl, h1, h2⟩ := dp_tup d
    cases r
    rw [DpAll.to_strs h2] at h1
    obtain ⟨its, rv, ht, _⟩ := I.tuple h1
    obtain ⟨i1, i2⟩ := texts_are (P := X.prog) (w := X.w) rv
    obtain ⟨o, ho, hc, n, hd⟩ := ht
    exact ⟨⟨a, rfl, o, its.toArray, n, ho, hc, hd, i1⟩, .tuple ho hc hd (i2 _)⟩
  dep := fun b => by
    have := depth_strs b
    simp only [encT, PyData.depth, this]
    omega
/-- the items, each with its thing -/
theorem items_of {k : Kd X.prog X.w} {enc : k.κ → PyData} {G : Hp} (B : Br X k enc) (I : Inv X pins σ H s) (sm : Same G H) : ∀ {bs : List k.κ} {xs : List V} {us : List Value}, DpAll X.K G xs (bs.map enc) → Vals xs us →
    ∃ ks : List (Value × k.κ), us = ks.map (·.1) ∧ bs = ks.map (·.2) ∧ ∀ p ∈ ks, k.is s.heap p.2 p.1 ∧ Reads s.heap p.1 (enc p.2) [] ∧ ∃ v, RelV v p.1 ∧ Dp X.K G v (enc p.2)
  | [], xs, us, d, r => by
    cases d
    cases r
    exact ⟨[], rfl, rfl, fun p hp => by cases hp⟩
  | b :: bs, xs, us, d, r => by
    cases d with
    | cons d1 d2 =>
      cases r with
      | cons r1 r2 =>
        obtain ⟨ks, e1, e2, h⟩ := items_of B I sm d2 r2
        obtain ⟨i1, i2⟩ := B.is I (Dp.up sm _ _ d1) r1
        refine ⟨(_, b) :: ks, by rw [e1]; rfl, by rw [e2]; rfl, fun p hp => ?_⟩
        rcases List.mem_cons.mp hp with z | z
        · rw [z]; exact ⟨i1, i2, _, r1, d1⟩
        · exact h p z
/-- what set(e) leaves -/
def SetPost (X : Cx) (pins : List (Addr × Obj)) (σ : L2.St) (k : Kd X.prog X.w) (enc : k.κ → PyData) (Q : List k.κ → Hp → Hp → Prop) (u : Value) (s' : Shared) : Prop :=
  ∃ (S : Addr) (H1 G1 : Hp) (ks L : List (Value × k.κ)), u = .ref S ∧ Inv X pins σ H1 s' ∧ SetG k s'.heap S L ∧ Has ks ks.length L ∧ (∀ q ∈ ks, Reads s'.heap q.1 (enc q.2) [] ∧ ∃ v, RelV v q.1 ∧ Dp X.K G1 v (enc q.2)) ∧ Q (ks.map (·.2)) G1 H1
def tSet (K : PySem.W.Frag) {κ : Type} (enc : κ → PyData) (te : TE) (σ : L2.St) (H : Hp) (Q : List κ → Hp → Hp → Prop) : Prop := te σ H fun v H1 => ∃ (G1 : Hp) (bs : List κ), Same G1 H1 ∧ (DD K (.list (bs.map enc)) v G1 ∨ DD K (.tuple (bs.map enc)) v G1) ∧ bs.length < 64 ∧ Q bs G1 H1
/-- set(e) -/
theorem eval_set {k : Kd X.prog X.w} {enc : k.κ → PyData} {e : Expr} {te : TE} {p pos : Pos} {Q : List k.κ → Hp → Hp → Prop} (K : KdOk k) (B : Br X k enc) (hc : X.calm = true) (hr : Room 0 X.A) (he : PE X e te) (hg : Gl X "set") (hm : X.mg "set" = none) (I : Inv X pins σ H s)
    (hst : starEach [e] X.env = (false, eval e X.env) :: starEach [] X.env) (h : tSet X.K enc te σ H Q) : wpAny (model X.prog X.w) X.A (eval (.Call (.Name "set" p) [e] [] pos) X.env) (SetPost X pins σ k enc Q) X.xe s := by
  have hcl : X.A.units + 3 < cLine := by have := hr.un; omega
  refine wpAny_Call_Name_kw (ld_blt I hg hm (show bootBuiltins "set" = some (.type "set") by decide +kernel) ?_ (by decide) (by decide))
  refine PyProof.Rows.callWith_type1 ?_ hst rfl
  rw [hst]
  show wpAny _ _ (spliced ((false, eval e X.env) :: backTo pos (starEach [] X.env))) _ _ s
  refine Calls.spliced_cons (thn (he.run pins s σ H _ I h) fun u s1 ⟨v, H1, I1, rv, G1, bs, sm, hd, h64, q⟩ => Calls.spliced_nil ?_)
  have fin : ∀ (xs : List V) (its : List Value), DpAll X.K G1 xs (bs.map enc) → Vals xs its → ∃ ks : List (Value × k.κ), its = ks.map (·.1) ∧ (∀ p ∈ ks, k.is s1.heap p.2 p.1) ∧ ks.length < 64 ∧
      ∀ (h' : Heap) (tk : Nat) L, SetG k h' s1.heap.objs.size L → Has ks ks.length L → (∀ b o, s1.heap.get? b = some o → h'.get? b = some o) → SetPost X pins σ k enc Q (.ref s1.heap.objs.size) { s1 with heap := h', toks := tk } := fun xs its hx hv => by
    obtain ⟨ks, e1, e2, hk⟩ := items_of B I1 sm hx hv
    have hlen : ks.length = bs.length := by rw [e2, List.length_map]
    exact ⟨ks, e1, fun p hp => (hk p hp).1, by omega, fun h' tk L hS hH hkp => ⟨_, H1, G1, ks, L, rfl, I1.kept (t' := tk) hkp, hS, hH, fun q hq => ⟨PyProof.Rows.Reads.keeps (fun b o e => hkp b o e) (hk q hq).2.1, (hk q hq).2.2⟩, by rw [← e2]; exact q⟩⟩
  rcases hd with hd | hd
  · obtain ⟨l, xs, rfl, h1, h2⟩ := dp_list hd
    cases rv
    obtain ⟨its, rv2, pl, _⟩ := I1.list (sm.seq h1)
    obtain ⟨ks, e1, hk, h64', go⟩ := fin xs its h2 rv2
    exact call_set_seq feed_list K ks (I1.ok.hd hc) pl.isList (by simpa using e1) hk h64' hcl go
  · obtain ⟨l, xs, rfl, h1, h2⟩ := dp_tup hd
    cases rv
    obtain ⟨its, rv2, pt, _⟩ := I1.tuple (Hk.Same.seqT sm h1)
    obtain ⟨ks, e1, hk, h64', go⟩ := fin xs its h2 rv2
    exact call_set_seq feed_tuple K ks (I1.ok.hd hc) pt (by simpa using e1) hk h64' hcl go
theorem has_mem {κ : Type} {ks L : List (Value × κ)} (g : Has ks ks.length L) (x : κ) : x ∈ L.map (·.2) ↔ x ∈ ks.map (·.2) := by
  constructor
  · intro hx
    obtain ⟨p, hp, e⟩ := List.mem_map.mp hx
    exact List.mem_map.mpr ⟨p, List.mem_of_mem_take (g.sub p hp), e⟩
  · intro hx
    obtain ⟨p, hp, e⟩ := List.mem_map.mp hx
    rw [← e]
    exact g.all p (by rw [List.take_length]; exact hp)
theorem nodup_perm {α : Type} {a b : List α} (ha : a.Nodup) (hb : b.Nodup) (h : ∀ x, x ∈ a ↔ x ∈ b) : a.Perm b := (List.perm_ext_iff_of_nodup ha hb).mpr h
def tLenSet (K : PySem.W.Frag) {κ : Type} (enc : κ → PyData) (te : TE) : TE := fun σ H Q => tSet K enc te σ H fun bs _ H1 => ∀ n : Nat, (bs.Nodup → n = bs.length) → Q (.int n) H1
theorem pe_lenSet {k : Kd X.prog X.w} {enc : k.κ → PyData} {e : Expr} {te : TE} {p p' pos pos' : Pos} (K : KdOk k) (B : Br X k enc) (hc : X.calm = true) (hr : Room 0 X.A) (he : PE X e te) (hg : Gl X "set") (hm : X.mg "set" = none) (hg2 : Gl X "len") (hm2 : X.mg "len" = none)
    (hst : starEach [e] X.env = (false, eval e X.env) :: starEach [] X.env := by rfl) (hst2 : starEach [.Call (.Name "set" p) [e] [] pos] X.env = (false, eval (.Call (.Name "set" p) [e] [] pos) X.env) :: starEach [] X.env := by rfl) :
    PE X (.Call (.Name "len" p') [.Call (.Name "set" p) [e] [] pos] [] pos') (tLenSet X.K enc te) := by
  refine ⟨fun pins s σ H Q I h => ?_⟩
  refine wpAny_Call_Name_kw (ld_blt I hg2 hm2 (show bootBuiltins "len" = some (.builtin "len") by decide +kernel) ?_ (by decide) (by decide))
  refine PyProof.Rows.callWith_builtin1 ?_ hst2 rfl
  rw [hst2]
  show wpAny _ _ (spliced ((false, eval (.Call (.Name "set" p) [e] [] pos) X.env) :: backTo pos' (starEach [] X.env))) _ _ s
  refine Calls.spliced_cons (thn (eval_set K B hc hr he hg hm I hst h) fun u s1 ⟨S, H1, G1, ks, L, eu, I1, hS, hH, hk, q⟩ => Calls.spliced_nil ?_)
  subst eu
  refine set_len hS ?_
  refine ⟨.int L.length, H1, I1.tok _, ⟨_, rfl⟩, q L.length fun nd => ?_⟩
  have pm := nodup_perm hS.nd nd (has_mem hH)
  have e := pm.length_eq
  rw [List.length_map, List.length_map] at e
  rw [List.length_map]
  exact e
/-- sorted(set(e)): cs are the things, each once -/
def tSortSet (K : PySem.W.Frag) {κ : Type} (enc : κ → PyData) (te : TE) : TE := fun σ H Q => tSet K enc te σ H fun bs G1 H1 => PySem.W.AllAlike (bs.map enc) ∧ PySem.W.Sortable (bs.map enc) ∧
  ∀ (p : Addr) (vs : List V) (cs : List κ), H1 p = none → cs.Nodup → (∀ b, b ∈ cs ↔ b ∈ bs) → DpAll K G1 vs ((cs.mergeSort (PySem.W.dataLe false enc)).map enc) → Q (.ref p) (upd H1 p (.lst vs))
theorem each_vals {K : PySem.W.Frag} {κ : Type} {enc : κ → PyData} {H1 : Hp} : ∀ {out : List Value} {bs : List κ}, PySem.W.EachIs (fun u x => ∃ v, RelV v u ∧ Dp K H1 v (enc x)) out bs → ∃ vs, Vals vs out ∧ DpAll K H1 vs (bs.map enc)
  | _, _, .nil => ⟨[], .nil, .nil⟩
  | _, _, .cons ⟨v, h1, h2⟩ t => by
    obtain ⟨vs, h3, h4⟩ := each_vals t
    exact ⟨v :: vs, .cons h1 h3, .cons h2 h4⟩
theorem each_imp {α β : Type} {R R' : α → β → Prop} : ∀ {l : List α} {m : List β}, PySem.W.EachIs R l m → (∀ a b, R a b → R' a b) → PySem.W.EachIs R' l m
  | _, _, .nil, _ => .nil
  | _, _, .cons h t, f => .cons (f _ _ h) (each_imp t f)
theorem pe_sortSet {k : Kd X.prog X.w} {enc : k.κ → PyData} {e : Expr} {te : TE} {p p' pos pos' : Pos} (K : KdOk k) (B : Br X k enc) (hc : X.calm = true) (hr : Room 0 X.A) (he : PE X e te) (hg : Gl X "set") (hm : X.mg "set" = none) (hg2 : Gl X "sorted") (hm2 : X.mg "sorted" = none)
    (hst : starEach [e] X.env = (false, eval e X.env) :: starEach [] X.env := by rfl) (hst2 : starEach [.Call (.Name "set" p) [e] [] pos] X.env = (false, eval (.Call (.Name "set" p) [e] [] pos) X.env) :: starEach [] X.env := by rfl) :
    PE X (.Call (.Name "sorted" p') [.Call (.Name "set" p) [e] [] pos] [] pos') (tSortSet X.K enc te) := by
  refine ⟨fun pins s σ H Q I h => ?_⟩
  refine wpAny_Call_Name_kw (ld_blt I hg2 hm2 (show bootBuiltins "sorted" = some (.builtin "sorted") by decide +kernel) ?_ (by decide) (by decide))
  refine PyProof.Rows.callWith_builtin1 ?_ hst2 rfl
  rw [hst2]
  show wpAny _ _ (spliced ((false, eval (.Call (.Name "set" p) [e] [] pos) X.env) :: backTo pos' (starEach [] X.env))) _ _ s
  refine Calls.spliced_cons (thn (eval_set K B hc hr he hg hm I hst h) fun u s1 ⟨S, H1, G1, ks, L, eu, I1, hS, hH, hk, hal, hso, q⟩ => Calls.spliced_nil ?_)
  subst eu
  have sub : ∀ p ∈ L, p ∈ ks := fun p hp => List.mem_of_mem_take (hH.sub p hp)
  have mem : ∀ d, d ∈ (L.map (·.2)).map enc → d ∈ (ks.map (·.2)).map enc := fun d hd => by
    obtain ⟨x, hx, e⟩ := List.mem_map.mp hd
    exact List.mem_map.mpr ⟨x, (has_mem hH x).mp hx, e⟩
  refine set_sorted enc hS (I1.ok.hd hc) (fun p hp => (hk p (sub p hp)).1) (fun d hd d' hd' => hal d (mem d hd) d' (mem d' hd')) (hso.imp (fun z d hd => z d (mem d hd)) fun z d hd => z d (mem d hd)) (fun p hp => by
    have h1 := B.dep p.2
    have h2 := hr.un
    omega) fun s' a out c bs kp eg eo hsz ea hlen pm eout => ?_
  obtain ⟨vs, hv, hd⟩ := each_vals (each_imp eout fun u x hm => (hk (u, x) (sub _ hm)).2)
  have bare : AllBare s'.gens := by rw [eg]; exact I1.bare
  have I2 : Inv X pins σ H1 s' := I1.call' (ch := []) eo (Un.kept kp) (I1.hok.kept kp) bare fun b z => by simp at z
  have hn : H1 a = none := I1.hok.fresh hsz
  have lenv := hv.length
  have B2 : Btw X.prog X.w X.stack H1 s1 H1 s' := ⟨eo, bare, Un.kept kp, I1.hok.kept kp⟩
  exact ⟨.ref a, _, inv_found I1 B2 hsz hn (by rw [sizeLine_eq]; omega) ⟨out, c, hv, ea⟩, rfl, q a vs bs hn (pm.nodup_iff.mpr hS.nd) (fun b => (pm.mem_iff).trans (has_mem hH b)) hd⟩
end
end Hk

set_option Elab.async false
set_option linter.all false
set_option maxRecDepth 100000
set_option maxHeartbeats 1000000
/-! sorted(e) of a list, a tuple, a dict with tuples as keys. -/
namespace Hk
open PySem PySem.Spec PyProof.Rows L2
section
variable {X : Cx} {κ : Type} {enc : κ → PyData}
/-- what can be sorted -/
structure Srt (K : PySem.W.Frag) (enc : κ → PyData) (bs : List κ) : Prop where
  al : PySem.W.AllAlike (bs.map enc)
  so : PySem.W.Sortable (bs.map enc)
  dep : ∀ b ∈ bs, (enc b).depth ≤ 5
  len : bs.length ≤ 1000000
/-- the tuples of a heap: they stay anyhow -/
def tupsOf (H : Hp) : Hp := fun b => match H b with | some (.tup xs) => some (.tup xs) | _ => none
/-- reading with no list in it -/
def Flat (enc : κ → PyData) : Prop := ∀ {X : Cx} {pins : List (Addr × Obj)} {s : Shared} {σ : L2.St} {H : Hp} {v : V} {u : Value} {b : κ}, Inv X pins σ H s → Dp X.K H v (enc b) → RelV v u → Reads s.heap u (enc b) []
def SortTo (K : PySem.W.Frag) (enc : κ → PyData) (bs : List κ) (G H : Hp) (Q : VK) : Prop := ∀ p vs, H p = none → DpAll K G vs ((bs.mergeSort (PySem.W.dataLe false enc)).map enc) → Q (.ref p) (upd H p (.lst vs))
theorem sorted_core (hF : Flat enc) (hc : X.calm = true) (hr : Room 0 X.A) {pins : List (Addr × Obj)} {σ : L2.St} {H : Hp} {s : Shared} {u : Value} {Q : VK} {G : Hp} {bs : List κ} (sm : Same G H) (S : Srt X.K enc bs)
    (hcol : wpAny (model X.prog X.w) X.A.in1 (collect u) (fun vs s1 => ∃ ws, Vals ws vs ∧ Inv X pins σ H s1 ∧ DpAll X.K G ws (bs.map enc)) X.xe s) (q : SortTo X.K enc bs G H Q) : wpAny (model X.prog X.w) X.A (call (.builtin "sorted") [u]) (EP X pins σ Q) X.xe s := by
  refine Calls.call_function_entry kind_sorted plain_sorted entry_sorted (args_sorted1 _) ?_
  unfold Builtin.«sorted»
  refine wpAny_bind (m := checkCount "sorted" 1 1 _) (wpAny_pure ?_)
  refine wpAny_bind (wpAny_mono hcol (fun vs s1 ⟨ws, hv, I1, hd⟩ => ?_) fun _ _ z => z)
  have hlen : vs.length = bs.length := by rw [← hv.length, DpAll.len hd, List.length_map]
  have hl6 := S.len
  refine wpAny_bind (wpAny_newList ?_ (by rw [sizeLine_eq]; omega))
  have hoL : (s1.heap.push (seqObj "list" vs.toArray 0)).get? s1.heap.objs.size = some (seqObj "list" vs.toArray 0) := Heap.get?_push_size _ rfl
  have eachR : ∀ {ws : List V} {vs : List Value} {bs : List κ}, Vals ws vs → DpAll X.K G ws (bs.map enc) → PySem.W.EachIs (fun u x => Reads s1.heap u (enc x) [] ∧ ∃ v, RelV v u ∧ Dp X.K G v (enc x)) vs bs := by
    intro ws vs bs
    induction bs generalizing ws vs with
    | nil =>
      intro h1 h2
      cases h2
      cases h1
      exact .nil
    | cons b bs ih =>
      intro h1 h2
      cases h2 with
      | cons d1 d2 =>
        cases h1 with
        | cons r1 r2 => exact .cons ⟨hF I1 (Dp.up sm _ _ d1) r1, _, r1, d1⟩ (ih r2 d2)
  have er := eachR hv hd
  refine wpAny_bind (wpAny_holding (PySem.W.list_sort_data (R := fun u x => ∃ v, RelV v u ∧ Dp X.K G v (enc x)) (enc := enc) (vs := vs) (bs := bs) (s := { s1 with heap := s1.heap.push (seqObj "list" vs.toArray 0) }) hoL (each_imp er fun _ _ z => z.2)
    (each_imp er fun a b z => ⟨[], PyProof.Rows.Reads.keeps (fun b u e => Heap.get?_push_of_some _ e) z.1, fun hm => by cases hm⟩) S.al S.so (by rw [sizeLine_eq]; omega) (fun b hb => by
      have h1 := S.dep b hb
      have h2 := hr.un
      show X.A.in1.units + 1 + (enc b).depth < cLine
      show X.A.units + 1 + 1 + (enc b).depth < cLine
      omega) fun out hlo hout => ?_))
  obtain ⟨c, hcc⟩ := sortedHeap_at (vs := vs) (out := out.toArray) hoL
  obtain ⟨zs, hz, hdz⟩ := each_vals hout
  have hn : H s1.heap.objs.size = none := I1.hok.fresh (Nat.le_refl _)
  have lz := hz.length
  refine wpAny_pure ⟨_, rfl, .ref s1.heap.objs.size, upd H s1.heap.objs.size (.lst zs), I1.laid (t' := s1.toks) (fun b u e => ?_) (Nat.le_refl _) (show ObjOk X.prog X.w _ _ _ (.lst zs) from ⟨by rw [sizeLine_eq]; omega, out, c, hz, hcc⟩), rfl, q _ zs hn hdz⟩
  have hb := Heap.lt_size e
  show (sortedHeap (s1.heap.push (seqObj "list" vs.toArray 0)) s1.heap.objs.size vs out.toArray).get? b = some u
  rw [sortedHeap_old (Nat.ne_of_lt hb) (by rw [size_push']; exact Nat.lt_succ_of_lt hb)]
  exact Heap.get?_push_of_some _ e
/-- sorted(xs) -/
def rSort (K : PySem.W.Frag) (enc : κ → PyData) : List V → Hp → VK → Prop := fun xs H Q => ∃ (G : Hp) (v : V) (bs : List κ), xs = [v] ∧ Same G H ∧ (DD K (.list (bs.map enc)) v G ∨ DD K (.tuple (bs.map enc)) v G) ∧ Srt K enc bs ∧ SortTo K enc bs G H Q
theorem call_sort (hF : Flat enc) (hc : X.calm = true) (hr : Room 0 X.A) : CallR X (.builtin "sorted") (rSort X.K enc) := by
  intro pins s σ H xs us Q I r h
  obtain ⟨G, v, bs, rfl, sm, hd, S, q⟩ := h
  obtain ⟨u, rfl, rv⟩ := r.one
  refine sorted_core hF hc hr sm S ?_ q
  have hl6 := S.len
  rcases hd with hd | hd
  · obtain ⟨a, ys, rfl, h1, h2⟩ := dp_list hd
    cases rv
    obtain ⟨its, hv, ⟨o, n, ho, hc, -, hdat⟩, _⟩ := I.list (sm.seq h1)
    have hlen : its.length = bs.length := by rw [← hv.length, DpAll.len h2, List.length_map]
    exact PySem.wpAny_collect_seq a (.inl rfl) ho hc hdat (fun h' k => ⟨ys, hv, I.kept (t' := s.toks) k, h2⟩) (by rw [sizeLine_eq, List.size_toArray]; omega)
  · obtain ⟨a, ys, rfl, h1, h2⟩ := dp_tup hd
    cases rv
    obtain ⟨its, hv, ⟨o, ho, hc, n, hdat⟩, _⟩ := I.tuple (Hk.Same.seqT sm h1)
    have hlen : its.length = bs.length := by rw [← hv.length, DpAll.len h2, List.length_map]
    exact PySem.wpAny_collect_seq a (.inr rfl) ho hc hdat (fun h' k => ⟨ys, hv, I.kept (t' := s.toks) k, h2⟩) (by rw [sizeLine_eq, List.size_toArray]; omega)
theorem ev_sort {σ : L2.St} {G : Hp} {ta : TE} {bs : List κ} {K : PySem.W.Frag} (h : EvP ta σ G (fun v G' => DD K (.list (bs.map enc)) v G' ∨ DD K (.tuple (bs.map enc)) v G')) (S : Srt K enc bs) : EvM (tCB (rSort K enc) (tCons ta tNil)) σ G (fun o G' => ∃ xs, o = .lst xs ∧ DpAll K G' xs ((bs.mergeSort (PySem.W.dataLe false enc)).map enc)) := fun H s Q q =>
  h H s _ fun v G1 H1 g1 hd => ⟨G1, v, bs, rfl, g1.sub, hd, S, fun p vs hp hv => q p _ G1 _ (g1.mnew hp) (g1.free0 hp) (g1.freeG hp) upd_same ⟨vs, rfl, hv⟩⟩
/-- sorted(d), d a dict with tuples as keys that stays -/
def rSortDT (K : PySem.W.Frag) (enc : κ → PyData) : List V → Hp → VK → Prop := fun xs H Q => ∃ (d : Addr) (kvs : List (List Key × V)) (bs : List κ), xs = [.ref d] ∧ Rd H d (.dT kvs) ∧ (∀ cs, IsKeys H kvs cs → DpAll K (tupsOf H) (cs.map V.ref) (bs.map enc)) ∧ Srt K enc bs ∧ SortTo K enc bs (tupsOf H) H Q
end
end Hk

set_option Elab.async false
set_option linter.all false
set_option maxRecDepth 100000
set_option maxHeartbeats 1000000
/-! Dicts with tuples as keys: made by a comprehension, frozen, walked by items, sorted. -/
namespace Hk
open PySem PySem.Spec PyProof.Rows L2
section
variable {X : Cx} {pins : List (Addr × Obj)} {σ : L2.St} {H : Hp} {s : Shared}
/-- the store of a comprehension, the key a tuple -/
theorem storeT {E : Value → Shared → Prop} {D b : Addr} {kvs : List (List Key × V)} {k : List Key} {v : V} {r : Value} {Q : Unit → Shared → Prop} (hu : X.A.units + 1 < cLine) (I : Inv X pins σ H s) (hD : H D = some (.dT kvs)) (hz : kvs.length < sizeLine) (eb : H b = some (.tup (k.map kV)))
    (rv : RelV v r) (h : ∀ s', Inv X pins σ (upd H D (.dT (putK kvs k v))) s' → Q () s') : wpAny (model X.prog X.w) X.A (dictSet D (.ref b) r) Q E s := by
  obtain ⟨z, hd, xs, rel, dd⟩ := dt_of I.hok hD
  have hl : (putK kvs k v).length ≤ sizeLine := by have := length_putK kvs k v; omega
  refine wpAny_dictSet_heap (hsz := by rw [← Paired.length rel]; exact z) (show X.A.units < cLine by omega) (key_of I.hok eb) dd fun h' dd' hs => h _ ?_
  obtain ⟨q, es, ep, hq, h2, h3, h4, _, h5⟩ := dd'
  refine d_write I (by rw [hD]; exact True.intro) hs ⟨q, hq⟩ ⟨hl, hd, _, (rel.put k eb rv).keeps fun c ys ec => ?_, q, es, ep, hq, h2, h3, h4, h5⟩
  rw [upd_ne (ne_of ec hD (fun z => nomatch z))]
  exact ec
/-- {k: v for target in iter if ..}, the keys tuples: D the new dict -/
def tDcT (wi : TI) (g : TG) (tt : TT) (tk tv : TE) (vs : List Nat) : TE := fun σ H Q => wi σ H fun J H1 => ∀ D, H1 D = none → ∃ W : Nat → Nat → Hp → Prop, (∃ m, W 0 m (upd H1 D (.dT []))) ∧ ∀ i m H, W i m H →
  (J.stop i H ∧ Q (.ref D) H) ∨ (J.go i H ∧ ∃ Nx : Hp → Prop, (∀ H', Nx H' → ∃ m', m' < m ∧ W (i + 1) m' H') ∧ ∀ x H', J.yld i H x H' → g x (wipe σ vs) H' fun σ2 H2 => wipe σ2 vs = wipe σ vs ∧ tt σ2 H2 fun b H3 =>
    if b = true then tk σ2 H3 fun y H4 => tv σ2 H4 fun z H5 => ∃ kvs k q, y = .ref q ∧ H5 q = some (.tup (k.map kV)) ∧ H5 D = some (.dT kvs) ∧ kvs.length < sizeLine ∧ Nx (upd H5 D (.dT (putK kvs k z))) else Nx H3)
/-- what stands at a block of a comprehension: the sub-terms within it -/
abbrev InBlk (X : Cx) (scope : Scope) (G : Cx → Prop) : Prop := ∀ (s : Shared) (H : Hp) (C : Addr) (cl : List (Str × Addr)) (fp : List Addr), G (X.blk s H scope (compEnvC scope cl C X.env) fp)
/-- the loop of the block as it stands: i items are behind it, n counts down -/
structure Rnd (Y : Cx) (fp : List Addr) (tn : Nat → Heap → Prop) (W : Nat → Nat → Hp → Prop) (ρ : L2.St) (i n : Nat) (H : Hp) (s : Shared) : Prop where
  inv : Inv Y [] ρ H s
  out : tn i s.heap
  free : ∀ b ∈ fp, H b = none
  meas : W i n H
section
variable {scope : Scope} {ce : Env} {fp : List Addr} {s0 : Shared} {H0 : Hp}
theorem blk_fp {ρ : L2.St} {H : Hp} {s : Shared} (I : Inv (X.blk s0 H0 scope ce fp) [] ρ H s) (h : ∀ b ∈ fp, H b = none) (b : Addr) (hb : b ∈ fp) : FpOk (X.blk s0 H0 scope ce fp) [] H b :=
  ⟨h b hb, (I.ok.exf b hb).1, I.ok.exfs b hb, .inl hb, (I.ok.exf b hb).2, fun _ z => (List.not_mem_nil z).elim⟩
/-- a turn's end: the iterators stand as they stood when the item was out -/
theorem Rnd.next {tn : Nat → Heap → Prop} {W : Nat → Nat → Hp → Prop} {ρ ρ' : L2.St} {vs : List Nat} {it : Addr} {J : It} {tg : Expr} {i n : Nat} {H : Hp} {s s' : Shared} (T : Turn X.prog X.w X.K tg J fp it tn) (st : tn i s.heap) (e : wipe ρ' vs = wipe ρ vs)
    (I : Inv (X.blk s0 H0 scope ce fp) ([] ++ pinsAt fp s.heap) ρ' H s') (w : W i n H) : Rnd (X.blk s0 H0 scope ce fp) fp tn W (wipe ρ vs) i n H s' := by
  have pin : ∀ b ∈ fp, ∀ o, s.heap.get? b = some o → s'.heap.get? b = some o ∧ H b = none := fun b hb o q => (I.pin (b, o) (List.mem_append_right _ (mem_pinsAt hb q))).imp id And.left
  refine ⟨(I.unpinned (pins := [])).weak (by rw [← e, wipe_length]) fun j v q => ?_, T.keep _ _ _ st fun b hb o q => (pin b hb o q).1, fun b hb => ?_, w⟩
  · exact (wipe_some (e ▸ q)).1
  · exact (T.obj _ _ st b hb).elim fun o q => (pin b hb o q.1).2
theorem dcT_loop {kx vx tg iter : Expr} {ifs : List Expr} {pos : Pos} {it D : Addr} {tn : Nat → Heap → Prop} {J : It} {g : TG} {tt : TT} {tk tv : TE} {vs : List Nat} {ρ : L2.St} {W : Nat → Nat → Hp → Prop} {Fin : Hp → Prop} {R : Result → Shared → Prop}
    (hc : X.calm = true) (hu : X.A.units + 1 < cLine) (T : Turn X.prog X.w X.K tg J fp it tn) (pg : PG (X.blk s0 H0 scope ce fp) tg g) (pt : PTs (X.blk s0 H0 scope ce fp) ifs tt) (pk : PE (X.blk s0 H0 scope ce fp) kx tk) (pe : PE (X.blk s0 H0 scope ce fp) vx tv)
    (turn : ∀ i m H, W i m H → (J.stop i H ∧ Fin H) ∨ (J.go i H ∧ ∃ Nx : Hp → Prop, (∀ H', Nx H' → ∃ m', m' < m ∧ W (i + 1) m' H') ∧ ∀ x H', J.yld i H x H' → g x (wipe ρ vs) H' fun σ2 H2 => wipe σ2 vs = wipe ρ vs ∧ tt σ2 H2 fun b H3 =>
      if b = true then tk σ2 H3 fun y H4 => tv σ2 H4 fun z H5 => ∃ kvs k q, y = .ref q ∧ H5 q = some (.tup (k.map kV)) ∧ H5 D = some (.dT kvs) ∧ kvs.length < sizeLine ∧ Nx (upd H5 D (.dT (putK kvs k z))) else Nx H3))
    (last : ∀ H s, Inv (X.blk s0 H0 scope ce fp) [] (wipe ρ vs) H s → Fin H → R (.ok .next) s) {m : Nat} {H : Hp} {s : Shared} (r : Rnd (X.blk s0 H0 scope ce fp) fp tn W (wipe ρ vs) 0 m H s) :
    codeAny (model X.prog X.w) X.A (.compLoop (.DictComp kx vx [⟨tg, iter, ifs, 0⟩] scope pos) 0 (.ref it) (.ref D) ce) R s := by
  refine compLoop_anyD (fun n s => ∃ i H, Rnd (X.blk s0 H0 scope ce fp) fp tn W (wipe ρ vs) i n H s) (fun n s ⟨i, H, r⟩ => ?_) m ⟨0, H, r⟩
  have ok := blk_fp r.inv r.free
  rcases turn i n H r.meas with ⟨stop, fin⟩ | ⟨go, Nx, less, body⟩
  · exact thnF (T.done (X.blk s0 H0 scope ce fp) rfl rfl rfl hc i [] s _ H _ r.inv ok r.out stop) fun _ s1 ⟨e, I1⟩ => by cases e; exact last H s1 I1 fin
  refine thnF (T.item (X.blk s0 H0 scope ce fp) rfl rfl rfl hc i [] s _ H _ r.inv ok r.out go) fun _ s1 ⟨u, e, q⟩ => ?_
  cases e
  refine thnF q fun _ s2 ⟨x, H2, I2, rx, y, st, fr⟩ => thnF (pg.run _ s2 _ H2 x u _ (I2.pinned (blk_fp I2 fr) (T.obj _ _ st)) rx (body x H2 y)) fun _ s3 ⟨ρ3, H3, I3, same, q⟩ => ?_
  have more : ∀ {s' H'}, Inv (X.blk s0 H0 scope ce fp) ([] ++ pinsAt fp s2.heap) ρ3 H' s' → Nx H' → ∃ m', m' < n ∧ ∃ i H, Rnd (X.blk s0 H0 scope ce fp) fp tn W (wipe ρ vs) i m' H s' := fun I nx =>
    let ⟨m', lt, w⟩ := less _ nx
    ⟨m', lt, i + 1, _, .next T st same I w⟩
  refine thnF (pt.run _ s3 ρ3 H3 _ I3 q) fun b s4 ⟨H4, I4, q⟩ => ?_
  cases b
  · exact more I4 q
  · refine thnF (pk.run _ s4 ρ3 H4 _ I4 q) fun key s5 ⟨kv, H5, I5, rk, q⟩ => thnF (pe.run _ s5 ρ3 H5 _ I5 q) fun val s6 ⟨v, H6, I6, rv, kvs, k, b, ek, eb, eD, few, nx⟩ => ?_
    cases ek
    cases rk
    exact storeT (X := (X.blk s0 H0 scope ce fp)) hu I6 eD few eb rv fun s7 I7 => more I7 nx
end
theorem dcT_core {pins : List (Addr × Obj)} {s : Shared} {σ : L2.St} {H : Hp} {Q : VK} {kx vx tg iter : Expr} {ifs : List Expr} {scope : Scope} {own : List (Str × Nat)} {pos pos' : Pos} {wi : TI} {g : TG} {tt : TT} {tk tv : TE} {use : Option (Value → Sem Unit)} {Qf : Value → Shared → Prop} (hc : X.calm = true) (hu : X.A.units + 1 < cLine) (hN : X.N.Nodup) (I : Inv X pins σ H s) (hi : PI X tg iter wi) (ok : BlkOk X.N X.env.scope scope own)
    (hg : InBlk X scope fun Y => PG Y tg g) (ht : InBlk X scope fun Y => PTs Y ifs tt) (hk : InBlk X scope fun Y => PE Y kx tk) (he : InBlk X scope fun Y => PE Y vx tv) (hs : ∀ x, foldedSetIterable iter X.env x = pure x)
    (h : tDcT wi g tt tk tv (own.map (·.2)) σ H Q)
    (hRR : ∀ D C s' m H', Inv X pins σ H' s' → Q (.ref D) H' → s'.heap.Ns C m → FpOk X pins H' C → compPost (model X.prog X.w) X.A X.xe use Qf (.ref D) C (.ok .next) s') :
    wpAny (model X.prog X.w) X.A (comprehension (.DictComp kx vx [⟨tg, iter, ifs, 0⟩] scope pos) scope X.env pos' (newDict) false (eval iter X.env) use) Qf X.xe s := by
  refine wpAny_comprehension_free (use := use) rfl hs (closure_ok fun y hy e => (ok.free y hy e).elim (fun k => I.ok.has _ (.inl k)) fun k => I.ok.has _ (.inr k)) ok.kind (fun y hy e => e ▸ ok.uniq y hy)
    (thn (hi.run pins s σ H _ I h) fun _ _ hx => thn hx fun _ s1 ⟨it, fp, tn, J, H1, ev, I1, T, st, f1, q⟩ => ?_)
  subst ev
  refine wpAny_newObj_type (newEnv_comp ?_)
  have free1 : H1 s1.heap.objs.size = none := I1.hok.fresh (Nat.le_refl _)
  obtain ⟨W, ⟨m, w⟩, turn⟩ := q _ free1
  have kp : ∀ b o, s1.heap.get? b = some o → (s1.heap.push { cls := .type "dict", data := .dict #[] }).get? b = some o := fun b o e => Heap.get?_push_of_some _ e
  have I2 : Inv X pins σ (upd H1 s1.heap.objs.size (.dT [])) { s1 with heap := s1.heap.push { cls := .type "dict", data := .dict #[] } } := I1.laid (t' := s1.toks) kp (Nat.le_refl _) (dt_empty s1.heap I1.big)
  have f2 : ∀ b ∈ fp, FpOk X pins (upd H1 s1.heap.objs.size (.dT [])) b ∧ b < (s1.heap.push { cls := .type "dict", data := .dict #[] }).objs.size := fun b hb => by
    obtain ⟨o, e, -⟩ := T.obj _ _ st b hb
    have lt := Heap.lt_size e
    exact ⟨⟨(upd_ne (Nat.ne_of_lt lt)).trans (f1 b hb).1, (f1 b hb).2⟩, Heap.lt_size (kp b o e)⟩
  have I3 := block_start I2 ok hN f2
  have st3 := T.keep _ _ _ st fun b _ o e => pushCells_keeps scope.names _ _ _ (Heap.get?_push_of_some { cls := .type "dict", data := .dict #[] } (kp b o e))
  have loop := dcT_loop (m := m) (R := compPost (model X.prog X.w) X.A X.xe use Qf (.ref s1.heap.objs.size) (s1.heap.push { cls := .type "dict", data := .dict #[] }).objs.size) (kx := kx) (vx := vx) (iter := iter) (pos := pos) (ρ := σ) hc hu T (hg _ _ _ _ _) (ht _ _ _ _ _) (hk _ _ _ _ _) (he _ _ _ _ _) turn
    (fun H s I fin => by
      have J := I2.call' (ch := fp) I.os I.base I.hok I.bare fun b hb => ⟨(f2 b hb).1.2.2.2.1, (f2 b hb).1.2.1, (f2 b hb).1.2.2.2.2⟩
      obtain ⟨m, ns, -⟩ := I.loc
      exact hRR _ _ s m H J fin ns (I2.fpOk (Nat.le_refl _) I.free)) ⟨I3, st3, fun b hb => (f2 b hb).1.1, w⟩
  exact codeAny_compStart_dict loop (T.self X.A 0 _ _ _ st3 loop)
theorem pe_dcT {kx vx tg iter : Expr} {ifs : List Expr} {scope : Scope} {own : List (Str × Nat)} {pos : Pos} {wi : TI} {g : TG} {tt : TT} {tk tv : TE} (hc : X.calm = true) (hu : X.A.units + 1 < cLine) (hN : X.N.Nodup) (hi : PI X tg iter wi) (ok : BlkOk X.N X.env.scope scope own)
    (hg : InBlk X scope fun Y => PG Y tg g) (ht : InBlk X scope fun Y => PTs Y ifs tt) (hk : InBlk X scope fun Y => PE Y kx tk) (he : InBlk X scope fun Y => PE Y vx tv) (hs : ∀ x, foldedSetIterable iter X.env x = pure x := by intro _; rfl) :
    PE X (.DictComp kx vx [⟨tg, iter, ifs, 0⟩] scope pos) (tDcT wi g tt tk tv (own.map (·.2))) where
  run pins s σ H Q I h := by
    rw [arm_eval_DictComp]
    exact dcT_core hc hu hN I hi ok hg ht hk he hs h fun D C s' m H' I' q hn ⟨f0, f1, f2, f3, f4, f5⟩ => ⟨m, hn, fun _ sb => ⟨.ref D, H', I'.turned (t' := s'.toks) (fun b o hb e => (sb.2 b hb).trans e) f0 f1 f3 f4 f5, rfl, q⟩⟩
/-- behind the block: the new thing is laid into a local name -/
theorem comp_stored {i : Nat} {y : Str} {py : Pos} {D : Ends} {C L : Addr} {m : Str → Option Value} (I : Inv X pins σ H s) (hN : X.N.Nodup) (hy : X.N[i]? = some y) (hyl : X.env.scope.names.lookup y = some .local) (q : gName i (.ref L) σ H D.nx) (ns : s.heap.Ns C m) (f : FpOk X pins H C) :
    compPost (model X.prog X.w) X.A X.xe (some (assign (.Name y py) X.env)) (fun _ s' => SP X pins D .next s') (.ref L) C (.ok .next) s :=
  have ⟨f0, f1, _, f3, f4, f5⟩ := f
  wpAny_assign_Name (store_ok2 (v := V.ref L) I hN hy (.inl hyl) rfl (fun s1 I1 ⟨a, sb, here⟩ =>
    ⟨m, ns.sameBut sb (here.elim (fun z => z ▸ f1) fun z e => f4 y a z e.symm), fun _ sb1 => ⟨_, H, I1.turned (t' := s1.toks) (fun b o hb => (sb1.2 b hb).trans) f0 f1 f3 f4 f5, q⟩⟩) (.inr hyl))
/-- name = {..}, the name a local -/
theorem ps_setDcT {i : Nat} {y : Str} {py : Pos} {kx vx tg iter : Expr} {ifs : List Expr} {scope : Scope} {own : List (Str × Nat)} {pos spos : Pos} {wi : TI} {g : TG} {tt : TT} {tk tv : TE} (hc : X.calm = true) (hu : X.A.units + 1 < cLine) (hN : X.N.Nodup) (hy : X.N[i]? = some y) (hyl : X.env.scope.names.lookup y = some .local)
    (hsw : swapsWith (.DictComp kx vx [⟨tg, iter, ifs, 0⟩] scope pos) (some (.Name y py)) spos.line X.env = pure true) (hi : PI X tg iter wi) (ok : BlkOk X.N X.env.scope scope own)
    (hg : InBlk X scope fun Y => PG Y tg g) (ht : InBlk X scope fun Y => PTs Y ifs tt) (hk : InBlk X scope fun Y => PE Y kx tk) (he : InBlk X scope fun Y => PE Y vx tv) (hs : ∀ x, foldedSetIterable iter X.env x = pure x := by intro _; rfl) :
    PS X (.Assign [.Name y py] (.DictComp kx vx [⟨tg, iter, ifs, 0⟩] scope pos) spos) (tAsg (tDcT wi g tt tk tv (own.map (·.2))) (gName i)) where
  run pins s σ H D I h := by
    have all := dcT_core (pos := pos) (pos' := firstIterPos [⟨tg, iter, ifs, 0⟩] pos) (Qf := fun _ s' => SP X pins D .next s') hc hu hN I hi ok hg ht hk he hs h fun L C s' m H' I' q ns f => comp_stored (py := py) I' hN hy hyl q ns f
    exact exec_Assign_Name_used _ _ _ _ hsw ▸ wpAny_bind (wpAny_standAt (wpAny_bind (wpAny_bind (thn all fun _ _ q => wpAny_pure (wpAny_pure q)))))
theorem sw_trueD {kx vx : Expr} {gs : List Comprehension} {scope : Scope} {pos py : Pos} {y : Str} {l : Nat} {env : Env} (hk : env.scope.kind = .function) (hy : env.scope.names.lookup y = some .local) (hl : (py.line == pos.line) = true)
    (ha : (scope.names.any fun (n, k) => n == y && (k == .local || k == .cell)) = false) : swapsWith (.DictComp kx vx gs scope pos) (some (.Name y py)) l env = pure true := by
  simp only [swapsWith, Env.blockKind, hk, show env.kindOf y = some .local from hy, ha, show (py.line == (Expr.DictComp kx vx gs scope pos).pos.line) = true from hl]
  rfl
/-- the thing at the value is frozen for good -/
def tFrz (te : TE) : TE := fun σ H Q => te σ H fun v H1 => ∃ d u, v = .ref d ∧ H1 d = some u ∧ Mut (some u) ∧ ∀ od, Q v (upd H1 d (.frz od u))
theorem pe_frz {e : Expr} {te : TE} (he : PE X e te) : PE X e (tFrz te) := by
  refine ⟨fun pins s σ H Q I h => thn (he.run pins s σ H _ I h) fun u s1 ⟨v, H1, I1, r, d, o, ev, hd, mu, q⟩ => ?_⟩
  obtain ⟨od, I2⟩ := I1.lock hd mu
  exact ⟨v, _, I2, r, q od⟩
end
end Hk

set_option Elab.async false
set_option linter.all false
set_option maxRecDepth 100000
set_option maxHeartbeats 1000000
/-! Dicts with tuples as keys: items, values, sorted, made of pairs. -/
namespace Hk
open PySem PySem.Spec PyProof.Rows L2
section
variable {X : Cx} {pins : List (Addr × Obj)} {σ : L2.St} {H : Hp} {s : Shared}
/-- the entries of such a dict -/
theorem rawT {d : Addr} {kvs : List (List Key × V)} (I : Inv X pins σ H s) (h : Rd H d (.dT kvs)) : (d == sysModules) = false ∧ kvs.length ≤ sizeLine ∧ ∃ (es : Array DictEntry) (ep : Nat), s.heap.DictRaw d es ep ∧ es.size = kvs.length ∧
    ∀ (i : Nat) (hi : i < es.size), ∃ (k : List Key) (v : V) (q : Addr), kvs[i]? = some (k, v) ∧ es[i].key = .ref q ∧ H q = some (.tup (k.map kV)) ∧ RelV v es[i].val := by
  obtain ⟨z, hs, ks, pr, o, es, ep, ho, hx, hdt, he, hn⟩ := (show ObjOk X.prog X.w H s.heap d (.dT kvs) from h.ok I.hok)
  have l1 : es.size = ks.length := size_of_entries he
  have l2 : kvs.length = ks.length := Paired.length pr
  refine ⟨hs, z, es, ep, ⟨o, ho, hx, hdt⟩, by omega, fun i hi => ?_⟩
  obtain ⟨⟨k, v⟩, hkv⟩ : ∃ p, kvs[i]? = some p := ⟨kvs[i]'(by omega), List.getElem?_eq_getElem _⟩
  obtain ⟨b, hb, e1, e2, e3⟩ := paired_get pr hkv
  have q := entry_at he i
  rw [hb, Array.getElem?_eq_getElem hi] at q
  have q' := Option.some.inj q
  exact ⟨k, v, b.2.1, hkv, by rw [q']; rfl, e2, by rw [q']; exact e3⟩
def ItiT (d : Addr) (o : Obj) (kvs : List (List Key × V)) : It :=
  ⟨fun i H => H d = some (.frz o (.dT kvs)) ∧ i < kvs.length, fun i H x H' => ∃ T k v q, kvs[i]? = some (k, v) ∧ x = .ref T ∧ H T = none ∧ H q = some (.tup (k.map kV)) ∧ H' = upd H T (.tup [.ref q, v]), fun i H => H d = some (.frz o (.dT kvs)) ∧ kvs.length ≤ i⟩
theorem raw_same {h : Heap} {d : Addr} {es es' : Array DictEntry} {ep ep' : Nat} (a : h.DictRaw d es ep) (b : h.DictRaw d es' ep') : es' = es ∧ ep' = ep := by
  obtain ⟨o, ho, _, h1⟩ := a
  obtain ⟨o', ho', _, h2⟩ := b
  rw [ho] at ho'
  cases ho'
  rw [h1] at h2
  injection h2 with e1 e2
  exact ⟨e1.symm, e2.symm⟩
theorem turn_itemsT {P : Program} {w : World} {K : PySem.W.Frag} {d : Addr} {o : Obj} {ep : Nat} {kvs : List (List Key × V)} {elts : List Expr} {kk : Nat} {tpos : Pos} (it : Addr) (ho : ∃ es, o.data = .dict es ep) :
    Turn P w K (.Tuple elts kk tpos) (ItiT d o kvs) [it] it (fun i h => ∃ ok ov, IsItemIter h it d i kvs.length ep ok ov) where
  mem := by simp
  obj := fun i h ⟨ok, ov, e⟩ b hb => by
    rw [List.mem_singleton.mp hb]
    exact ⟨_, e, fun v z => nomatch z⟩
  keep := fun i h h' ⟨ok, ov, e⟩ k => ⟨ok, ov, k it (by simp) _ e⟩
  item := by
    intro X hP hw hK hc i pins s σ H E I hf st hg
    subst hP hw hK
    obtain ⟨hd, hi⟩ := hg
    obtain ⟨hs, hz, es, ep', hr, hsz, ent⟩ := rawT I (.inr ⟨o, hd⟩)
    obtain ⟨es0, hes⟩ := ho
    obtain ⟨hgd, _⟩ := I.hok d _ hd
    obtain ⟨o', ho', hx', hdt'⟩ := id hr
    rw [hgd] at ho'
    cases ho'
    rw [hes] at hdt'
    injection hdt' with e1 e2
    subst e1 e2
    obtain ⟨k, v, q, hkv, hkey, hq, rv⟩ := ent i (by omega)
    obtain ⟨ok, ov, he⟩ := st
    rw [← hsz] at he
    have hlt : it < s.heap.objs.size := Heap.lt_size he
    refine PySem.wpAny_pyNext_items_item_raw he hr (by omega) fun h' ho hT hz' hk => ⟨_, rfl, ?_⟩
    refine wpAny_letOwnedTupleGo_items (s := { s with heap := h' }) ho fun h'' he' sb => ?_
    have hT2 := (sb.2 _ (Nat.ne_of_gt hlt)).trans hT
    have new : ObjOk X.prog X.w (upd H s.heap.objs.size (.tup [.ref q, v])) h'' s.heap.objs.size (.tup [.ref q, v]) :=
      ⟨by show 2 ≤ sizeLine; decide, [_, _], .cons hkey (.cons rv .nil), ⟨_, hT2, rfl, _, rfl⟩⟩
    have I1 : Inv X pins σ (upd H s.heap.objs.size (.tup [.ref q, v])) { s with heap := h'' } :=
      I.turnedNew (t' := s.toks) (ch := [it]) (fun b ob hb e => (sb.2 b (by simpa using hb)).trans (hk b ob (by simpa using hb) e)) hf (Nat.le_refl _) new
    refine ⟨.ref s.heap.objs.size, _, I1, rfl, ⟨_, k, v, q, hkv, rfl, I.hok.fresh (Nat.le_refl _), hq, rfl⟩, ⟨_, _, by rw [← hsz]; exact he'⟩, fun b hb => ?_⟩
    rw [List.mem_singleton.mp hb, upd_ne (Nat.ne_of_lt hlt)]
    exact (hf it (by simp)).1
  done := by
    intro X hP hw hK hc i pins s σ H E I hf st hg
    subst hP hw hK
    obtain ⟨hd, hi⟩ := hg
    obtain ⟨f0, f1, f2, f3, f4, f5⟩ := hf it (by simp)
    obtain ⟨hs, hz, es, ep', hr, hsz, ent⟩ := rawT I (.inr ⟨o, hd⟩)
    obtain ⟨es0, hes⟩ := ho
    obtain ⟨hgd, _⟩ := I.hok d _ hd
    obtain ⟨o', ho', hx', hdt'⟩ := id hr
    rw [hgd] at ho'
    cases ho'
    rw [hes] at hdt'
    injection hdt' with e1 e2
    subst e1 e2
    obtain ⟨ok, ov, he⟩ := st
    rw [← hsz] at he
    exact PySem.wpAny_pyNext_items_end_raw (I.ok.hd hc) he hr (by omega) fun h' eb => ⟨rfl, I.turned (t' := s.toks) (fun b ob hb e => eb b ob hb e) f0 f1 f3 f4 f5⟩
  self := fun A i s Q E ⟨_, _, e⟩ h => PySem.wpAny_pyIter_itemiter e h
/-- .. in d.items(), d frozen -/
def iItemsT (td : TE) : TI := fun σ H R => td σ H fun x H1 => ∃ d o kvs, x = .ref d ∧ H1 d = some (.frz o (.dT kvs)) ∧ R (ItiT d o kvs) H1
theorem pi_itemsT {elts : List Expr} {kk : Nat} {e : Expr} {td : TE} {tpos apos cpos : Pos} (he : PE X e td) (hbase : attributeBase e "items" X.env (eval e X.env) = eval e X.env := by rfl) (hline : (apos.endLine == cpos.line) = true := by rfl) :
    PI X (.Tuple elts kk tpos) (.Call (.Attribute e "items" apos) [] [] cpos) (iItemsT td) := by
  refine ⟨fun pins s σ H R I h => ?_⟩
  refine wpAny_Call_method (T := "dict") (id := "dict.items") hbase rfl hline PySem.F.plainAttrs_dict PySem.F.slot_dict_items PySem.F.type_dict_items (thn (he.run pins s σ H _ I h) fun u s1 ⟨x, H1, I1, rx, d, o, kvs, ex, hd, q⟩ => ?_)
  subst ex
  obtain rfl : u = Value.ref d := rx
  obtain ⟨hs, hz, es, ep, hr, hsz, ent⟩ := rawT I1 (.inr ⟨o, hd⟩)
  obtain ⟨od, hod, hxd, hdd⟩ := id hr
  refine ⟨hr.typeIs, fun a e => ⟨od, by cases e; exact hod, hxd.2.1⟩, ?_⟩
  refine Calls.callWith_builtin rfl (PySem.evalArgs_none ?_)
  refine call_meetsIn PySem.F.slot_dict_items hr.typeIs PySem.F.entry_dict_items (PySem.F.args_dict_items_1 _) (PySem.meets_dict_items_raw d hs) ⟨⟨es, ep, hr⟩, ?_⟩
  have I2 : Inv X pins σ H1 { s1 with heap := s1.heap.push { cls := .type "dict_items", data := .fields #[.ref d] } } := I1.kept (t' := s1.toks) fun b ob e => Heap.get?_push_of_some _ e
  obtain ⟨hgd, _⟩ := I1.hok d _ hd
  rw [hod] at hgd
  cases hgd
  refine PySem.wpAny_pyIter_items_raw (d := d) ⟨_, Heap.get?_push_size _ rfl, rfl, rfl⟩ (hr.at fun _ e => Heap.get?_push_of_some _ e) (pi_one (tk := s1.toks) I2 _ (turn_itemsT _ ⟨es, hdd⟩) ⟨.none, .none, ?_⟩ q)
  rw [← hsz]
  exact Heap.get?_push_size _ rfl
/-- *d.values(), .. -/
def tStarV (te : TE) (t : TA) : TA := fun σ H Q => te σ H fun x H1 => ∃ d kvs, x = V.ref d ∧ Rd H1 d (.dT kvs) ∧ t σ H1 fun ys H2 => Q (kvs.map (·.2) ++ ys) H2
theorem pa_starV {e : Expr} {es : List Expr} {te : TE} {t : TA} {p apos cpos : Pos} (hc : X.calm = true) (he : PE X e te) (hr : PA X es t) (hs : starEach (.Starred (.Call (.Attribute e "values" apos) [] [] cpos) p :: es) X.env = (true, eval (.Call (.Attribute e "values" apos) [] [] cpos) X.env) :: starEach es X.env := by rfl)
    (hbase : attributeBase e "values" X.env (eval e X.env) = eval e X.env := by rfl) (hline : (apos.endLine == cpos.line) = true := by rfl) : PA X (.Starred (.Call (.Attribute e "values" apos) [] [] cpos) p :: es) (tStarV te t) := by
  refine ⟨fun pos pins s σ H Q I h => PySem.W.items_star ?_ hs⟩
  refine wpAny_Call_method (T := "dict") (id := "dict.values") hbase rfl hline PySem.F.plainAttrs_dict PySem.F.slot_dict_values PySem.F.type_dict_values (thn (he.run pins s σ H _ I h) fun u s1 ⟨x, H1, I1, rx, d, kvs, ex, hd, q⟩ => ?_)
  subst ex
  obtain rfl : u = Value.ref d := rx
  obtain ⟨hs', hz, en, ep, hraw, hsz, ent⟩ := rawT I1 hd
  obtain ⟨od, hod, hxd, hdd⟩ := id hraw
  refine ⟨hraw.typeIs, fun a e => ⟨od, by cases e; exact hod, hxd.2.1⟩, ?_⟩
  refine Calls.callWith_builtin rfl (PySem.evalArgs_none ?_)
  refine call_meetsIn PySem.F.slot_dict_values hraw.typeIs PySem.F.entry_dict_values (PySem.F.args_dict_values_1 _) (PySem.meets_dict_values_raw d hs') ⟨⟨en, ep, hraw⟩, ?_⟩
  have I2 : Inv X pins σ H1 { s1 with heap := s1.heap.push { cls := .type "dict_values", data := .fields #[.ref d] } } := I1.kept (t' := s1.toks) fun b ob e => Heap.get?_push_of_some _ e
  have hview : (s1.heap.push { cls := .type "dict_values", data := .fields #[.ref d] }).IsValuesView s1.heap.objs.size d := ⟨_, Heap.get?_push_size _ rfl, rfl, rfl⟩
  have hraw2 : (s1.heap.push { cls := .type "dict_values", data := .fields #[.ref d] }).DictRaw d en ep := hraw.at fun _ e => Heap.get?_push_of_some _ e
  unfold PySem.W.StarOf notIterableAtAll
  refine wpAny_bind (wpAny_specialOf (s := { s1 with heap := _ }) (hview.typeIs (s := { s1 with heap := _ })) PySem.F.slot_dict_values_iter.lookup (wpAny_pure ⟨rfl, ?_⟩))
  refine PySem.W.kdu_collect (PySem.KdlSrc.rawValues (es := en) (ep := ep)) (I.ok.hd hc) ⟨hview, hraw2⟩ (by omega) fun h' tk acc hk hacc => ?_
  have I3 : Inv X pins σ H1 { s1 with heap := h', toks := tk } := I2.kept (t' := tk) hk
  have rv : Vals (kvs.map (·.2)) acc.toList := by
    have build : ∀ (l : List (List Key × V)) (us : List Value), l.length = us.length → (∀ (j : Nat) (u : Value), us[j]? = some u → ∃ p, l[j]? = some p ∧ RelV p.2 u) → Vals (l.map (·.2)) us := by
      intro l
      induction l with
      | nil =>
        intro us hl _
        cases us with
        | nil => exact .nil
        | cons u us => simp at hl
      | cons p l ih =>
        intro us hl hu
        cases us with
        | nil => simp at hl
        | cons u us =>
          obtain ⟨p', e, r⟩ := hu 0 u rfl
          cases e
          exact .cons r (ih us (by simpa using hl) fun j v e => by
            obtain ⟨p', e', r'⟩ := hu (j + 1) v (by simpa using e)
            exact ⟨p', by simpa using e', r'⟩)
    refine build kvs acc.toList (by show kvs.length = acc.size; rw [hacc.1]; exact hsz.symm) fun j u e => ?_
    obtain ⟨hi, eu⟩ := hacc.2 j u (by rw [← Array.getElem?_toList]; exact e)
    obtain ⟨k, v, q', hkv, _, _, rv⟩ := ent j hi
    exact ⟨(k, v), hkv, by rw [eu]; exact rv⟩
  exact thn (hr.run pos pins _ σ H1 _ I3 q) fun ws s3 ⟨vs, H3, I4, r3, q3⟩ => ⟨kvs.map (·.2) ++ vs, H3, I4, rv.append r3, q3⟩
/-- sorted(d) -/
theorem call_sortDT {κ : Type} {enc : κ → PyData} (hF : Flat enc) (hc : X.calm = true) (hr : Room 0 X.A) : CallR X (.builtin "sorted") (rSortDT X.K enc) := by
  intro pins s σ H xs us Q I r h
  obtain ⟨d, kvs, bs, rfl, hd, hbs, S, q⟩ := h
  obtain ⟨u, rfl, rv⟩ := r.one
  cases rv
  obtain ⟨hs, hz, es, ep, hraw, hsz, ent⟩ := rawT I hd
  refine sorted_core hF hc hr (G := tupsOf H) (fun b o e => ?_) S ?_ q
  · unfold tupsOf at e
    split at e
    · rename_i hb; cases e; exact hb
    · cases e
  refine PySem.W.kdu_collect (A := X.A.in1) (PySem.KdlSrc.rawDict hs (es := es) (ep := ep)) (I.ok.hd hc) hraw (by omega) fun h' tk acc hk hacc => ?_
  have build : ∀ (l : List (List Key × V)) (us : List Value), l.length = us.length → (∀ (j : Nat) (u : Value), us[j]? = some u → ∃ k v b, l[j]? = some (k, v) ∧ u = .ref b ∧ H b = some (.tup (k.map kV))) → ∃ cs : List Addr, Vals (cs.map V.ref) us ∧ IsKeys H l cs := by
    intro l
    induction l with
    | nil =>
      intro us hl _
      cases us with
      | nil => exact ⟨[], .nil, .nil⟩
      | cons u us => simp at hl
    | cons p l ih =>
      intro us hl hu
      cases us with
      | nil => simp at hl
      | cons u us =>
        obtain ⟨k, v, b, e, eu, hb⟩ := hu 0 u rfl
        cases e
        obtain ⟨cs, h1, h2⟩ := ih us (by simpa using hl) fun j v e => by
          obtain ⟨k, v', b, e', r'⟩ := hu (j + 1) v (by simpa using e)
          exact ⟨k, v', b, by simpa using e', r'⟩
        exact ⟨b :: cs, .cons eu h1, .cons hb h2⟩
  obtain ⟨cs, h1, h2⟩ := build kvs acc.toList (by show kvs.length = acc.size; rw [hacc.1]; exact hsz.symm) fun j u e => by
    obtain ⟨hi, eu⟩ := hacc.2 j u (by rw [← Array.getElem?_toList]; exact e)
    obtain ⟨k, v, q', hkv, hkey, hq, _⟩ := ent j hi
    exact ⟨k, v, q', hkv, by rw [eu, hkey], hq⟩
  exact ⟨_, h1, I.kept (t' := tk) hk, hbs cs h2⟩
/-- later pairs win, the place is the first one's -/
def mergeT (kvs more : List (List Key × V)) : List (List Key × V) := more.foldl (fun acc kv => putK acc kv.1 kv.2) kvs
theorem KT_merge {more : List (List Key × V)} {ps : List (List Key × Addr × Value)} (r : KT H more ps) : ∀ {kvs : List (List Key × V)} {xs : List (List Key × Addr × Value)}, KT H kvs xs → KT H (mergeT kvs more) (storedAllH xs ps) := by
  induction r with
  | nil => exact fun h => h
  | @cons p q ps qs h t ih =>
    intro kvs xs h0
    obtain ⟨h1, h2, h3⟩ := h
    have z := ih (h0.put p.1 h2 h3)
    show KT H (mergeT (putK kvs p.1 p.2) ps) (storedAllH (storedH xs q.1 q.2.1 q.2.2) qs)
    rw [← h1]
    exact z
theorem length_mergeT : ∀ (more kvs : List (List Key × V)), (mergeT kvs more).length ≤ kvs.length + more.length
  | [], _ => Nat.le_refl _
  | p :: more, kvs => by
    have h1 := length_mergeT more (putK kvs p.1 p.2)
    have h2 := length_putK kvs p.1 p.2
    show (mergeT (putK kvs p.1 p.2) more).length ≤ _
    rw [List.length_cons]
    omega
def rDictPT : List V → Hp → VK → Prop := fun xs H Q => ∃ (a : Addr) (ps : List Addr) (kvs : List (List Key × V)), xs = [.ref a] ∧ H a = some (.lst (ps.map V.ref)) ∧ kvs.length ≤ 1000000 ∧ Paired (fun p kv => ∃ q, H p = some (.tup [.ref q, kv.2]) ∧ H q = some (.tup (kv.1.map kV))) ps kvs ∧
  ∀ p, H p = none → Q (.ref p) (upd H p (.dT (mergeT [] kvs)))
theorem call_dictPT (hc : X.calm = true) (hr : Room 0 X.A) : CallR X (.type "dict") rDictPT := by
  intro pins s σ H xs us Q I r h
  obtain ⟨a, ps, kvs, rfl, ha, hlen, hp, q⟩ := h
  obtain ⟨u, rfl, rv⟩ := r.one
  cases rv
  obtain ⟨its, rv, pl, hz⟩ := I.list (SqL.of ha)
  have ei := refs_at rv
  subst ei
  have rows : ∀ {ps : List Addr} {kvs : List (List Key × V)}, Paired (fun p kv => ∃ q, H p = some (.tup [.ref q, kv.2]) ∧ H q = some (.tup (kv.1.map kV))) ps kvs →
      ∃ rs : List (List Key × Addr × Value), KT H kvs rs ∧ rs.length = ps.length ∧ ∀ (j : Nat) x, rs[j]? = some x → ∃ p, ps[j]? = some p ∧ IsTup s.heap p #[.ref x.2.1, x.2.2] := by
    intro ps kvs hp
    induction hp with
    | nil => exact ⟨[], .nil, rfl, fun j x e => by simp at e⟩
    | @cons p kv ps kvs h t ih =>
      obtain ⟨q, h1, h2⟩ := h
      obtain ⟨rs, k1, k2, k3⟩ := ih
      obtain ⟨i1, r1, t1, _⟩ := I.tuple (SqT.of (K := X.K) h1)
      obtain ⟨u, y, ei, ru, ry⟩ := vals2 r1
      subst ei
      cases ru
      refine ⟨(kv.1, q, y) :: rs, .cons ⟨rfl, h2, ry⟩ k1, by rw [List.length_cons, List.length_cons, k2], fun j x e => ?_⟩
      cases j with
      | zero => cases e; exact ⟨p, rfl, t1⟩
      | succ j =>
        obtain ⟨p', e1, e2⟩ := k3 j x (by simpa using e)
        exact ⟨p', by simpa using e1, e2⟩
  obtain ⟨rs, hkt, hrl, hrows⟩ := rows hp
  have hl2 := Paired.length hkt
  obtain ⟨o, n, ho, hcl, hdn, hdat⟩ := pl
  have hsl : ps.length ≤ sizeLine := by rw [List.length_map] at hz; exact hz
  refine PySem.call_dict_pairsH (knd := tupleKind (mixKind X.prog X.w)) (ps := rs) (PySem.PairArg.list a (ps.map Value.ref).toArray (fun j => (ps[j]?).getD 0) (rs.map fun x => (Value.ref x.2.1, x.2.2))) (I.ok.hd hc) (by have := hr.un; show X.A.units + 1 + 1 < cLine; omega)
    ⟨⟨o, n, ho, hcl, hdn, hdat⟩, by simp [hrl], fun j k v e => ?_⟩ ⟨by simp, fun i key v e => ?_⟩ (fun h' hk x hx => ?_) (by rw [List.length_map, hrl]; exact hsl) fun h' tk hd' hk => ?_
  · rw [List.getElem?_map] at e
    cases hx : rs[j]? with
    | none => rw [hx] at e; cases e
    | some x =>
      rw [hx] at e
      cases e
      obtain ⟨p, e1, e2⟩ := hrows j x hx
      have ep : (ps[j]?).getD 0 = p := by rw [e1]; rfl
      exact ⟨by simp [e1], .inl (by show IsTup s.heap ((ps[j]?).getD 0) _; rw [ep]; exact e2)⟩
  · have e' : (rs.map fun x => (Value.ref x.2.1, x.2.2))[i]? = some (key, v) := e
    rw [List.getElem?_map] at e'
    cases hx : rs[i]? with
    | none => rw [hx] at e'; cases e'
    | some x =>
      rw [hx] at e'
      cases e'
      exact ⟨x.1, x.2.1, rfl, rfl⟩
  · obtain ⟨i, e⟩ := List.mem_iff_getElem?.mp hx
    obtain ⟨kv, hkv⟩ : ∃ p, kvs[i]? = some p := ⟨kvs[i]'(by have := (List.getElem?_eq_some_iff.mp e).1; omega), List.getElem?_eq_getElem _⟩
    obtain ⟨b, hb, e1, e2, e3⟩ := paired_get hkt hkv
    rw [e] at hb
    cases hb
    obtain ⟨o, its, n, g1, g2⟩ := key_of (P := X.prog) (w := X.w) I.hok (show H x.2.1 = some (.tup (x.1.map kV)) by rw [← e1]; exact e2)
    exact ⟨o, its, n, hk _ _ (Nat.ne_of_lt (Heap.lt_size g1)) (by simp) g1, g2⟩
  · have hm : (s.heap.objs.size == sysModules) = false := beq_eq_false_iff_ne.mpr (Nat.ne_of_gt I.big)
    have hl3 := length_mergeT kvs []
    obtain ⟨o2, es, ep, k1, k2, k3, k4, _, k5⟩ := hd'
    refine ⟨.ref s.heap.objs.size, upd H s.heap.objs.size (.dT (mergeT [] kvs)), I.laid (t' := tk) (fun b u e => hk b u (by simp) e) (Nat.le_refl _) ⟨by rw [List.length_nil] at hl3; rw [sizeLine_eq]; omega, hm, _, ?_, o2, es, ep, k1, k2, k3, k4, k5⟩, rfl, q _ (I.hok.fresh (Nat.le_refl _))⟩
    exact (KT_merge hkt .nil).keeps fun b ys e => by rw [upd_ne (ne_of_none e (I.hok.fresh (Nat.le_refl _)))]; exact e
end
end Hk

set_option Elab.async false
set_option linter.all false
set_option maxRecDepth 100000
set_option maxHeartbeats 1000000
/-! Where each def stands; what is known of the names of the program's top. -/
namespace Hk
open PySem PySem.Spec PyProof.Rows L2
abbrev prg : Program := PySem.Challenge.pw_handedkeys_k06_whole_rounds
abbrev top (i : Nat) : Stmt := prg.main.body.getD i (.Pass ⟨0, 0, 0, 0⟩)
abbrev inCls (s : Stmt) (j : Nat) : Stmt := match s with
  | .ClassDef (body := b) .. => b.getD j (.Pass ⟨0, 0, 0, 0⟩)
  | _ => .Pass ⟨0, 0, 0, 0⟩
abbrev s_is_whole : Stmt := top 14
abbrev s_is_word : Stmt := top 15
abbrev s_are_names : Stmt := top 16
abbrev s_is_right : Stmt := top 17
abbrev s_State__init__ : Stmt := inCls (top 18) 0
abbrev s_State__add__ : Stmt := inCls (top 18) 5
abbrev s_Stateparties : Stmt := inCls (top 18) 7
abbrev s_check_state : Stmt := top 19
abbrev s_check_small : Stmt := top 20
abbrev s_check_right : Stmt := top 21
abbrev s_are_pairs : Stmt := top 26
abbrev s_are_words : Stmt := top 27
abbrev s_is_rule : Stmt := top 28
abbrev s_plain_rule : Stmt := top 29
abbrev s_Policy__init__ : Stmt := inCls (top 30) 0
abbrev s_Policy__iter__ : Stmt := inCls (top 30) 3
abbrev s_Policymade : Stmt := inCls (top 30) 7
abbrev s_check_policy : Stmt := top 32
abbrev s_asked_and_got : Stmt := top 34
abbrev s_helper_of : Stmt := top 37
abbrev s_beginning : Stmt := top 38
abbrev s_deeds_over : Stmt := top 39
abbrev s_deeds_by : Stmt := top 40
abbrev s_closure : Stmt := top 41
abbrev s_is_own : Stmt := top 42
abbrev s_check_asked : Stmt := top 43
abbrev s_all_that_come : Stmt := top 44
abbrev s_rounds_of : Stmt := top 46
abbrev s_brought : Stmt := top 47
abbrev s_rounds : Stmt := top 48
abbrev s_round_for : Stmt := top 49
abbrev s_last_round : Stmt := top 50
abbrev s_at_once : Stmt := top 51
abbrev s_law_cell_at : Stmt := top 53
abbrev s_law_draw : Stmt := top 54
abbrev s_law_number : Stmt := top 55
abbrev s_law_next : Stmt := top 56
abbrev s_law_pick : Stmt := top 57
abbrev s_law_rules : Stmt := top 58
abbrev s_law_state : Stmt := top 59
abbrev s_law_brings : Stmt := top 60
abbrev s_law_made : Stmt := top 61
abbrev s_law_own : Stmt := top 62
abbrev s_law_rounds : Stmt := top 63
abbrev s_law : Stmt := top 64
/-- a def of the top, by its name -/
def DefAt (K : PySem.W.Frag) (mg : Str → Option Value) (x : Str) (st : Stmt) : Prop := ∃ f fd, mg x = some (.ref f) ∧ FunD K x x (defArgs st) (defBody st) (defScope st) [] [] f fd
/-- a method without defaults -/
def MethAt (K : PySem.W.Frag) (C : Addr) (m q : Str) (st : Stmt) : Prop := ∃ f fd, Meth K C m f ∧ FunD K m q (defArgs st) (defBody st) (defScope st) [] [] f fd
/-- all that the proofs ask of the program's top: S, Po where the classes State and Policy stand -/
structure Tx (K : PySem.W.Frag) (mg : Str → Option Value) (S Po : Addr) : Prop where
  b_isinstance : mg "isinstance" = none
  b_int : mg "int" = none
  b_bool : mg "bool" = none
  b_str : mg "str" = none
  b_len : mg "len" = none
  b_all : mg "all" = none
  b_list : mg "list" = none
  b_tuple : mg "tuple" = none
  b_set : mg "set" = none
  b_any : mg "any" = none
  b_sorted : mg "sorted" = none
  b_enumerate : mg "enumerate" = none
  b_iter : mg "iter" = none
  b_max : mg "max" = none
  b_dict : mg "dict" = none
  b_range : mg "range" = none
  k_MOST_LETTERS : ∃ t, mg "MOST_LETTERS" = some (.int 8 t)
  k_MOST_ASKED : ∃ t, mg "MOST_ASKED" = some (.int 12 t)
  k_MOST_RULES : ∃ t, mg "MOST_RULES" = some (.int 12 t)
  k_MOST_PAIRS : ∃ t, mg "MOST_PAIRS" = some (.int 9 t)
  k_SMALL : ∃ t, mg "SMALL" = some (.str "abcdefghijklmnopqrstuvwxyz" t)
  k_HELPER : ∃ t, mg "HELPER" = some (.str "+" t)
  g_State : mg "State" = some (.ref S)
  c_State : Cls K S
  i_State : C8.InsC K S
  g_Policy : mg "Policy" = some (.ref Po)
  c_Policy : Cls K Po
  i_Policy : C8.InsC K Po
  n_people : NoAttr K S "people"
  n_things : NoAttr K S "things"
  n_rights : NoAttr K S "rights"
  n_rules : NoAttr K Po "rules"
  mk_State : ∃ f fd T, Mk K S f ∧ FunD K "__init__" "State.__init__" (defArgs s_State__init__) (defBody s_State__init__) (defScope s_State__init__) [.ref T] [] f fd
  mk_Policy : ∃ f fd, Mk K Po f ∧ FunD K "__init__" "Policy.__init__" (defArgs s_Policy__init__) (defBody s_Policy__init__) (defScope s_Policy__init__) [] [] f fd
  f_is_whole : DefAt K mg "is_whole" s_is_whole
  f_is_word : DefAt K mg "is_word" s_is_word
  f_are_names : DefAt K mg "are_names" s_are_names
  f_is_right : DefAt K mg "is_right" s_is_right
  f_State__add__ : MethAt K S "__add__" "State.__add__" s_State__add__
  f_Stateparties : MethAt K S "parties" "State.parties" s_Stateparties
  f_check_state : DefAt K mg "check_state" s_check_state
  f_check_small : DefAt K mg "check_small" s_check_small
  f_check_right : DefAt K mg "check_right" s_check_right
  f_are_pairs : DefAt K mg "are_pairs" s_are_pairs
  f_are_words : DefAt K mg "are_words" s_are_words
  f_is_rule : DefAt K mg "is_rule" s_is_rule
  f_plain_rule : DefAt K mg "plain_rule" s_plain_rule
  f_Policy__iter__ : MethAt K Po "__iter__" "Policy.__iter__" s_Policy__iter__
  f_Policymade : MethAt K Po "made" "Policy.made" s_Policymade
  f_check_policy : DefAt K mg "check_policy" s_check_policy
  f_asked_and_got : DefAt K mg "asked_and_got" s_asked_and_got
  f_helper_of : DefAt K mg "helper_of" s_helper_of
  f_beginning : DefAt K mg "beginning" s_beginning
  f_deeds_over : DefAt K mg "deeds_over" s_deeds_over
  f_deeds_by : DefAt K mg "deeds_by" s_deeds_by
  f_closure : DefAt K mg "closure" s_closure
  f_is_own : DefAt K mg "is_own" s_is_own
  f_check_asked : DefAt K mg "check_asked" s_check_asked
  f_all_that_come : DefAt K mg "all_that_come" s_all_that_come
  f_rounds_of : DefAt K mg "rounds_of" s_rounds_of
  f_brought : DefAt K mg "brought" s_brought
  f_rounds : DefAt K mg "rounds" s_rounds
  f_round_for : DefAt K mg "round_for" s_round_for
  f_last_round : DefAt K mg "last_round" s_last_round
  f_at_once : DefAt K mg "at_once" s_at_once
  f_law_cell_at : DefAt K mg "_law_cell_at" s_law_cell_at
  f_law_draw : DefAt K mg "_law_draw" s_law_draw
  f_law_number : DefAt K mg "_law_number" s_law_number
  f_law_next : DefAt K mg "_law_next" s_law_next
  f_law_pick : DefAt K mg "_law_pick" s_law_pick
  f_law_rules : DefAt K mg "_law_rules" s_law_rules
  f_law_state : DefAt K mg "_law_state" s_law_state
  f_law_brings : DefAt K mg "_law_brings" s_law_brings
  f_law_made : DefAt K mg "_law_made" s_law_made
  f_law_own : DefAt K mg "_law_own" s_law_own
  f_law_rounds : DefAt K mg "_law_rounds" s_law_rounds
  f_law : DefAt K mg "law" s_law
end Hk

set_option Elab.async false
set_option linter.all false
set_option maxRecDepth 100000
set_option maxHeartbeats 1000000
/-! A def and what it promises, taken by its name; what our data are. -/
namespace Hk
open PySem PySem.Spec PyProof.Rows L2
/-- the def of that name keeps the promise -/
def Fn (P : Program) (w : World) (K : PySem.W.Frag) (mg : Str → Option Value) (base : Heap) (k : Nat) (x : Str) (ps : List Str) (sp : Sp) : Prop :=
  ∃ f fd, FnOk P w K mg base CX0 k f fd ps sp ∧ mg x = some (.ref f) ∧ PySem.W.keepIn K (.ref f) = true ∧ Binds K fd ps []
def MFn (P : Program) (w : World) (K : PySem.W.Frag) (mg : Str → Option Value) (base : Heap) (k : Nat) (C : Addr) (m : Str) (ps : List Str) (sp : Sp) : Prop :=
  ∃ f fd, FnOk P w K mg base CX0 k f fd ps sp ∧ Meth K C m f ∧ Binds K fd ps []
section
variable {P : Program} {w : World} {K : PySem.W.Frag} {mg : Str → Option Value} {base : Heap} {x : Str} {st : Stmt} {N ps : List Str} {k : Nat}
theorem fn_mk {sp : Sp} (D : DefAt K mg x st) (hb : ∀ {f fd}, FunD K x x (defArgs st) (defBody st) (defScope st) [] [] f fd → Binds K fd ps []) (S : FnScope N ps (defScope st)) (len : ∀ vs H Q E, sp vs H Q E → vs.length = ps.length)
    (hbody : ∀ (f : Addr) (cdv : Value) (A : Around) (outer : List Env) (s : Shared) (H : Hp) (vs : List V) (Q : VK) (E : XK), Room k (A.deeper (envOfC x (defScope st) s.heap.objs.size f cdv)) → sp vs H Q E →
      ∃ t, PSs (cxOf CX0 P w K mg base N x (defScope st) f cdv A outer s H E) (defBody st) t ∧ t { nx := fun _ H' => Q .non H', rt := Q } (start N vs) H) : Fn P w K mg base (k + 1) x ps sp := by
  obtain ⟨f, fd, hm, F⟩ := D
  exact ⟨f, fd, F.ok S len (fun cdv A outer s H vs Q E hr h => hbody f cdv A outer s H vs Q E hr h), hm, F.kp, hb F⟩
theorem mfn_mk {sp : Sp} {C : Addr} {m q : Str} (D : MethAt K C m q st) (hb : ∀ {f fd}, FunD K m q (defArgs st) (defBody st) (defScope st) [] [] f fd → Binds K fd ps []) (S : FnScope N ps (defScope st)) (len : ∀ vs H Q E, sp vs H Q E → vs.length = ps.length)
    (hbody : ∀ (f : Addr) (cdv : Value) (A : Around) (outer : List Env) (s : Shared) (H : Hp) (vs : List V) (Q : VK) (E : XK), Room k (A.deeper (envOfC q (defScope st) s.heap.objs.size f cdv)) → sp vs H Q E →
      ∃ t, PSs (cxOf CX0 P w K mg base N q (defScope st) f cdv A outer s H E) (defBody st) t ∧ t { nx := fun _ H' => Q .non H', rt := Q } (start N vs) H) : MFn P w K mg base (k + 1) C m ps sp := by
  obtain ⟨f, fd, hm, F⟩ := D
  exact ⟨f, fd, F.ok S len (fun cdv A outer s H vs Q E hr h => hbody f cdv A outer s H vs Q E hr h), hm, hb F⟩
end
/-- a right; a word -/
abbrev Rt := Str × Str × Str
def rD (r : Rt) : PyData := .tuple [.str r.1, .str r.2.1, .str r.2.2]
abbrev sD (z : Str) : PyData := .str z
def isW (z : Str) : Bool := decide (1 ≤ z.length ∧ z.length ≤ 8) && z.cps.toList.all fun c => decide (c ∈ ("abcdefghijklmnopqrstuvwxyz" : Str).cps.toList)
def pD (p : Str × Str) : PyData := .tuple [.str p.1, .str p.2]
section
variable {K : PySem.W.Frag} {σ : L2.St} {G : Hp} {te : TE} {P : VP}
theorem run_ret {D : Ends} {H : Hp} (h : EvP te σ G P) (s : Same G H) (q : ∀ v G2 H2, Gr G H G2 H2 → P v G2 → D.rt v H2) : tRet te D σ H := h H s _ q
/-- the test is known -/
theorem run_if {tc : TT} {t u : TS} {D : Ends} {H : Hp} {b : Bool} (h : EvB tc σ G b) (s : Same G H) (h1 : b = true → ∀ G2 H2, Gr G H G2 H2 → t D σ H2) (h2 : b = false → ∀ G2 H2, Gr G H G2 H2 → u D σ H2) : tIfS tc t u D σ H :=
  h H s _ fun G2 H2 g => by
    cases b with
    | true => exact h1 rfl G2 H2 g
    | false => exact h2 rfl G2 H2 g
end
end Hk

set_option Elab.async false
set_option linter.all false
set_option maxRecDepth 100000
set_option maxHeartbeats 1000000
/-! More readings: chains, signs, sets, own instances that are made, stars. -/
namespace Hk
open PySem PySem.Spec PyProof.Rows L2
section
variable {K : PySem.W.Frag} {σ : L2.St} {G G' : Hp} {ta tb tc te : TE} {t u : TT} {P P1 P2 : VP} {v : V} {ds : List PyData}
theorem ev_andT (h1 : EvP ta σ G (IsV (.bl true))) (h2 : EvP tb σ G (IsV (.bl true))) : EvP (tAndV ta tb) σ G (IsV (.bl true)) := ev_andV (a := true) (b := true) h1 fun _ => h2
theorem eb_T (h : EvP te σ G (IsV (.bl true))) : EvB (tB te) σ G true := eb_B h
theorem eb_T' {b : Bool} (h : EvP te σ G (IsV (.bl b))) : EvB (tB te) σ G b := eb_B h
theorem eb_notT (h : EvB t σ G true) : EvB (tNot t) σ G false := eb_not h
theorem eb_notF (h : EvB t σ G false) : EvB (tNot t) σ G true := eb_not h
theorem eb_orF (h1 : EvB t σ G false) (h2 : EvB u σ G false) : EvB (tOr t u) σ G false := eb_or (a := false) (b := false) h1 fun _ => h2
theorem ev_eqI {i j : Int} (ha : EvP ta σ G (IsV (.int i))) (hb : EvP tb σ G (IsV (.int j))) : EvP (tOp rEq ta tb) σ G (IsV (.bl (decide (i = j)))) :=
  (ev_eq ha hb rfl).imp fun v _ _ e => by
    rw [show v = V.bl (decide (V.int i = V.int j)) from e]
    by_cases h : i = j
    · rw [decide_eq_true h, decide_eq_true (by rw [h])]
    · rw [decide_eq_false h, decide_eq_false (fun z => h (V.int.inj z))]
theorem ev_eqS {i j : Str} (ha : EvP ta σ G (IsV (.str i))) (hb : EvP tb σ G (IsV (.str j))) : EvP (tOp rEq ta tb) σ G (IsV (.bl (decide (i = j)))) :=
  (ev_eq ha hb rfl).imp fun v _ _ e => by
    rw [show v = V.bl (decide (V.str i = V.str j)) from e]
    by_cases h : i = j
    · rw [decide_eq_true h, decide_eq_true (by rw [h])]
    · rw [decide_eq_false h, decide_eq_false (fun z => h (V.str.inj z))]
theorem ev_neI {i j : Int} (ha : EvP ta σ G (IsV (.int i))) (hb : EvP tb σ G (IsV (.int j))) : EvP (tOp rNe ta tb) σ G (IsV (.bl (!decide (i = j)))) :=
  (ev_ne ha hb rfl).imp fun v _ _ e => by
    rw [show v = V.bl (!decide (V.int i = V.int j)) from e]
    by_cases h : i = j
    · rw [decide_eq_true h, decide_eq_true (by rw [h])]
    · rw [decide_eq_false h, decide_eq_false (fun z => h (V.int.inj z))]
theorem ev_neS {i j : Str} (ha : EvP ta σ G (IsV (.str i))) (hb : EvP tb σ G (IsV (.str j))) : EvP (tOp rNe ta tb) σ G (IsV (.bl (!decide (i = j)))) :=
  (ev_ne ha hb rfl).imp fun v _ _ e => by
    rw [show v = V.bl (!decide (V.str i = V.str j)) from e]
    by_cases h : i = j
    · rw [decide_eq_true h, decide_eq_true (by rw [h])]
    · rw [decide_eq_false h, decide_eq_false (fun z => h (V.str.inj z))]
theorem ev_chain {p q : Int → Int → Bool} {i j k : Int} (ha : EvP ta σ G (IsV (.int i))) (hb : EvP tb σ G (IsV (.int j))) (hc : EvP tc σ G (IsV (.int k))) :
    EvP (tChain (rI0 fun i j => .bl (p i j)) (rI0 fun i j => .bl (q i j)) ta tb tc) σ G (IsV (.bl (p i j && q j k))) := fun H s Q qq =>
  ha H s _ fun x G1 H1 g1 ex => (hb.up mon_v g1.gg) H1 g1.sub _ fun y G2 H2 g2 ey => ⟨i, j, ex, ey, p i j, rfl, by
    cases hp : p i j with
    | true =>
      simp only [if_true]
      exact (hc.up mon_v (g1.gg.trans g2.gg)) H2 g2.sub _ fun z G3 H3 g3 ez => ⟨j, k, ey, ez, qq _ G3 H3 ((g1.trans g2).trans g3) (by rw [hp]; rfl)⟩
    | false =>
      simp only [Bool.false_eq_true, if_false]
      exact qq _ G2 H2 (g1.trans g2) (by rw [hp]; rfl)⟩
theorem ev_inSign {c : Nat} {z : Str} (ha : EvP ta σ G (IsV (.str ⟨#[c]⟩))) (hb : EvP tb σ G (IsV (.str z))) :
    EvP (tOp (fun x y H Q => ∃ (c : Nat) (z : Str), x = .str ⟨#[c]⟩ ∧ y = .str z ∧ Q (.bl (decide (c ∈ z.cps.toList))) H) ta tb) σ G (IsV (.bl (decide (c ∈ z.cps.toList)))) :=
  ev_op mon_v mon_v ha hb fun x y G' s ex ey => rv_val (fun H _ Q q => ⟨c, z, ex, ey, q⟩) rfl
theorem ev_niSign {c : Nat} {z : Str} (ha : EvP ta σ G (IsV (.str ⟨#[c]⟩))) (hb : EvP tb σ G (IsV (.str z))) :
    EvP (tOp (fun x y H Q => ∃ (c : Nat) (z : Str), x = .str ⟨#[c]⟩ ∧ y = .str z ∧ Q (.bl (!decide (c ∈ z.cps.toList))) H) ta tb) σ G (IsV (.bl (!decide (c ∈ z.cps.toList)))) :=
  ev_op mon_v mon_v ha hb fun x y G' s ex ey => rv_val (fun H _ Q q => ⟨c, z, ex, ey, q⟩) rfl
theorem ev_allC {β : Type} {l : List β} {g : β → Bool} (h : EvP ta σ G (DD K (.list (l.map fun b => PyData.bool (g b))))) : EvP (tCB (rAll K) (tCons ta tNil)) σ G (IsV (.bl (l.all g))) := by
  have e : l.map (fun b => PyData.bool (g b)) = (l.map g).map PyData.bool := by rw [List.map_map]; rfl
  rw [e] at h
  have z := ev_all h
  rwa [List.all_map, show (id ∘ g) = g from rfl] at z
theorem ev_anyC {β : Type} {l : List β} {g : β → Bool} (h : EvP ta σ G (DD K (.list (l.map fun b => PyData.bool (g b))))) : EvP (tCB (rAny K) (tCons ta tNil)) σ G (IsV (.bl (l.any g))) := by
  have e : l.map (fun b => PyData.bool (g b)) = (l.map g).map PyData.bool := by rw [List.map_map]; rfl
  rw [e] at h
  have z := ev_any h
  rwa [List.any_map, show (id ∘ g) = g from rfl] at z
theorem ev_lenSet {κ : Type} {enc : κ → PyData} {bs : List κ} (h : EvP te σ G (fun v G' => DD K (.list (bs.map enc)) v G' ∨ DD K (.tuple (bs.map enc)) v G')) (hn : bs.Nodup) (hl : bs.length < 64) : EvP (tLenSet K enc te) σ G (IsV (.int bs.length)) := fun H s Q q =>
  h H s _ fun v G1 H1 g1 p1 => ⟨G1, bs, g1.sub, p1, hl, fun n hh => by rw [hh hn]; exact q _ G1 H1 g1 rfl⟩
theorem em_sortSet {κ : Type} {enc : κ → PyData} {bs : List κ} (h : EvP te σ G (fun v G' => DD K (.list (bs.map enc)) v G' ∨ DD K (.tuple (bs.map enc)) v G')) (hl : bs.length < 64) (ha : PySem.W.AllAlike (bs.map enc)) (hs : PySem.W.Sortable (bs.map enc)) :
    EvM (tSortSet K enc te) σ G (fun o G' => ∃ (xs : List V) (cs : List κ), o = .lst xs ∧ cs.Nodup ∧ (∀ b, b ∈ cs ↔ b ∈ bs) ∧ DpAll K G' xs ((cs.mergeSort (PySem.W.dataLe false enc)).map enc)) := fun H s Q q =>
  h H s _ fun v G1 H1 g1 p1 => ⟨G1, bs, g1.sub, p1, hl, ha, hs, fun p vs cs hp n m d => q p _ G1 _ (g1.mnew hp) (g1.free0 hp) (g1.freeG hp) upd_same ⟨vs, cs, rfl, n, m, d⟩⟩
theorem ead_star {ta : TE} {tr : TA} {ds es : List PyData} (h : EvP ta σ G (fun v G' => DD K (.list ds) v G' ∨ DD K (.tuple ds) v G')) (hr : EvAD K tr σ G es) : EvAD K (StX.tStar K ta tr) σ G (ds ++ es) := fun H s Q q =>
  h H s _ fun v G1 H1 g1 p1 => by
    have hx : ∃ a xs, v = .ref a ∧ (SqT K H1 a xs ∨ SqL K H1 a xs) ∧ DpAll K G1 xs ds := by
      rcases p1 with p1 | p1
      · obtain ⟨a, xs, e, h1, h2⟩ := dp_list p1
        exact ⟨a, xs, e, .inr (g1.sub.seq h1), h2⟩
      · obtain ⟨a, xs, e, h1, h2⟩ := dp_tup p1
        exact ⟨a, xs, e, .inl (Hk.Same.seqT g1.sub h1), h2⟩
    obtain ⟨a, xs, e, h1, h2⟩ := hx
    exact ⟨a, xs, e, h1, (hr.up g1.gg) H1 g1.sub _ fun ys G2 H2 g2 p2 => q _ G2 H2 (g1.trans g2) (DpAll.append (DpAll.up g2.gg _ _ h2) p2)⟩
theorem kB_int_int : kitB "int" "int" = some true := by decide +kernel
theorem kB_int_bool : kitB "int" "bool" = some false := by decide +kernel
theorem kB_str_str : kitB "str" "str" = some true := by decide +kernel
theorem kB_list_list : kitB "list" "list" = some true := by decide +kernel
theorem kB_list_tuple : kitB "list" "tuple" = some false := by decide +kernel
theorem kB_tuple_list : kitB "tuple" "list" = some false := by decide +kernel
theorem kB_tuple_tuple : kitB "tuple" "tuple" = some true := by decide +kernel
theorem ea1 {P1 : VP} {R : List V → Hp → Prop} (h : EvP ta σ G P1) (f : ∀ v G', Same G G' → P1 v G' → R [v] G') : EvA (tCons ta tNil) σ G R := fun H s Q q =>
  h H s _ fun v G1 H1 g1 p => q [v] G1 H1 g1 (f v G1 g1.gg p)
theorem ea2 {P1 P2 : VP} {R : List V → Hp → Prop} (m1 : Mon P1) (m2 : Mon P2) (h1 : EvP ta σ G P1) (h2 : EvP tb σ G P2) (f : ∀ v1 v2 G', Same G G' → P1 v1 G' → P2 v2 G' → R [v1, v2] G') : EvA (tCons ta (tCons tb tNil)) σ G R := fun H s Q q =>
  h1 H s _ fun v1 G1 H1 g1 p1 => (h2.up m2 g1.gg) H1 g1.sub _ fun v2 G2 H2 g2 p2 => q [v1, v2] G2 H2 (g1.trans g2) (f v1 v2 G2 (g1.gg.trans g2.gg) (m1 _ _ _ g2.gg p1) p2)
theorem ea3 {P1 P2 P3 : VP} {R : List V → Hp → Prop} (m1 : Mon P1) (m2 : Mon P2) (m3 : Mon P3) (h1 : EvP ta σ G P1) (h2 : EvP tb σ G P2) (h3 : EvP tc σ G P3) (f : ∀ v1 v2 v3 G', Same G G' → P1 v1 G' → P2 v2 G' → P3 v3 G' → R [v1, v2, v3] G') :
    EvA (tCons ta (tCons tb (tCons tc tNil))) σ G R := fun H s Q q =>
  h1 H s _ fun v1 G1 H1 g1 p1 => (h2.up m2 g1.gg) H1 g1.sub _ fun v2 G2 H2 g2 p2 => (h3.up m3 (g1.gg.trans g2.gg)) H2 g2.sub _ fun v3 G3 H3 g3 p3 =>
    q [v1, v2, v3] G3 H3 ((g1.trans g2).trans g3) (f v1 v2 v3 G3 ((g1.gg.trans g2.gg).trans g3.gg) (m1 _ _ _ (g2.gg.trans g3.gg) p1) (m2 _ _ _ g3.gg p2) p3)
theorem ev_allT {β : Type} {l : List β} (h : EvP ta σ G (DD K (.list (l.map fun _ => PyData.bool true)))) : EvP (tCB (rAll K) (tCons ta tNil)) σ G (IsV (.bl true)) :=
  (ev_allC (g := fun _ => true) h).imp fun v _ _ e => by
    have e : v = V.bl (l.all fun _ => true) := e
    rw [e, List.all_eq_true.mpr (fun _ _ => rfl)]
theorem ev_anyF {β : Type} {l : List β} (h : EvP ta σ G (DD K (.list (l.map fun _ => PyData.bool false)))) : EvP (tCB (rAny K) (tCons ta tNil)) σ G (IsV (.bl false)) :=
  (ev_anyC (g := fun _ => false) h).imp fun v _ _ e => by
    have e : v = V.bl (l.any fun _ => false) := e
    rw [e, List.any_eq_false.mpr (fun _ _ => by simp)]
theorem ev_is {b : Bool} {c : Bool} (h : EvP te σ G (IsV (.bl b))) (e : b = c) : EvP te σ G (IsV (.bl c)) := e ▸ h
theorem ev_list (h : EvP te σ G (DD K (.list ds))) : EvP te σ G (fun v G' => DD K (.list ds) v G' ∨ DD K (.tuple ds) v G') := h.imp fun _ _ _ e => .inl e
theorem ev_tupl (h : EvP te σ G (DD K (.tuple ds))) : EvP te σ G (fun v G' => DD K (.list ds) v G' ∨ DD K (.tuple ds) v G') := h.imp fun _ _ _ e => .inr e
theorem inV_strs {z : Str} {l : List Str} : inV (.str z) (l.map V.str) = decide (z ∈ l) := by
  unfold inV
  rw [List.any_map]
  induction l with
  | nil => rfl
  | cons a l ih =>
    have e : eqV (.str a) (.str z) = decide (z = a) := by
      by_cases h : z = a
      · subst h; simp [eqV]
      · simp [eqV, h, Ne.symm h]
    rw [List.any_cons, ih]
    by_cases h : z = a
    · subst h; simp [e]
    · simp [e, h]
theorem ev_inS {z : Str} {l : List Str} (ha : EvP ta σ G (IsV (.str z))) (hb : EvP tb σ G (DD K (.list (l.map sD)))) : EvP (tOp (rIn K false) ta tb) σ G (IsV (.bl (decide (z ∈ l)))) :=
  ev_is (ev_inF (neg := false) (x := .str z) (xs := l.map V.str) ha (dd_strs hb) rfl (strs_flat _)) inV_strs
theorem ev_inST {z : Str} {l : List Str} (ha : EvP ta σ G (IsV (.str z))) (hb : EvP tb σ G (DD K (.tuple (l.map sD)))) : EvP (tOp (rIn K false) ta tb) σ G (IsV (.bl (decide (z ∈ l)))) :=
  ev_is (ev_inF (neg := false) (x := .str z) (xs := l.map V.str) ha (dd_strsT hb) rfl (strs_flat _)) inV_strs
theorem ev_niS {z : Str} {l : List Str} (ha : EvP ta σ G (IsV (.str z))) (hb : EvP tb σ G (DD K (.list (l.map sD)))) : EvP (tOp (rIn K true) ta tb) σ G (IsV (.bl (!decide (z ∈ l)))) :=
  ev_is (ev_inF (neg := true) (x := .str z) (xs := l.map V.str) ha (dd_strs hb) rfl (strs_flat _)) (by rw [if_pos rfl, inV_strs])
theorem ev_in2 {z a b : Str} (h : EvP ta σ G (IsV (.str z))) : EvP (tOp (rIn K false) ta (tTup (tCons (tC (.str a)) (tCons (tC (.str b)) tNil)))) σ G (IsV (.bl (decide (z ∈ [a, b])))) :=
  ev_is (ev_inF (neg := false) (x := .str z) (xs := [a, b].map V.str) h (ev_tupF (fun H s Q q => q _ G H (Gr.refl s) rfl) (by show 2 ≤ 1000; decide)) rfl (strs_flat _)) inV_strs
theorem ev_tupOfL {ds : List PyData} (h : EvP ta σ G (DD K (.list ds))) :
    EvP (tCB (fun xs H Q => ∃ p ys, xs = [.ref p] ∧ ((SqL K H p ys ∧ ∀ l, H l = none → Q (.ref l) (upd H l (.tup ys))) ∨ (SqT K H p ys ∧ Q (.ref p) H))) (tCons ta tNil)) σ G (DD K (.tuple ds)) := fun H s Q q =>
  h H s _ fun v G1 H1 g1 hd => by
    obtain ⟨a, xs, rfl, h1, h2⟩ := dp_list hd
    exact ⟨a, xs, rfl, .inl ⟨g1.sub.seq h1, fun l hl => q (.ref l) _ _ (g1.trans (Gr.new g1.sub hl)) (.tup upd_same (DpAll.up (same_new (g1.sub.free hl)) _ _ h2))⟩⟩
/-! slices -/
theorem dpAll_drop {n : Nat} {vs : List V} {ds : List PyData} (h : DpAll K G vs ds) : DpAll K G (vs.drop n) (ds.drop n) := DpAll.drop n h
/-- t[n:], n > 0 -/
theorem ev_dropT {ds : List PyData} {n : Nat} (h : EvP ta σ G (DD K (.tuple ds))) (hn : 0 < n) (hl : n ≤ ds.length) : EvP (tSl (rSlT K) ta (tPart (tC (.int (n : Nat)))) tNoPart) σ G (DD K (.tuple (ds.drop n))) := fun H s Q q =>
  h H s _ fun v G1 H1 g1 hd => by
    obtain ⟨a, xs, rfl, h1, h2⟩ := dp_tup hd
    have hx := DpAll.len h2
    refine ⟨(n : Nat), rfl, a, xs, rfl, Hk.Same.seqT g1.sub h1, fun z => ?_, fun p hp => q (.ref p) _ _ (g1.trans (Gr.new g1.sub hp)) (.tup upd_same ?_)⟩
    · rw [HT.sIx_nat] at z
      omega
    · unfold cutV
      rw [HT.sIx_nat, HT.sIx_none, Nat.min_eq_left (by omega), List.take_of_length_le (by rw [List.length_drop]; omega)]
      exact DpAll.up (same_new (g1.sub.free hp)) _ _ (DpAll.drop n h2)
/-- xs[:n] -/
theorem ev_takeL {ds : List PyData} {n : Nat} {tn : TE} (h : EvP ta σ G (DD K (.list ds))) (hn : EvP tn σ G (IsV (.int (n : Nat)))) (hl : n ≤ ds.length) : EvP (tSl (rSlL K) ta tNoPart (tPart tn)) σ G (DD K (.list (ds.take n))) := fun H s Q q =>
  h H s _ fun v G1 H1 g1 hd => (hn.up mon_v g1.gg) H1 g1.sub _ fun z G2 H2 g2 ez => by
    obtain ⟨a, xs, rfl, h1, h2⟩ := dp_list (Dp.up g2.gg _ _ hd)
    have hx := DpAll.len h2
    refine ⟨(n : Nat), ez, a, xs, rfl, g2.sub.seq h1, fun p hp => q (.ref p) _ _ ((g1.trans g2).trans (Gr.new g2.sub hp)) (.lst upd_same ?_)⟩
    unfold cutV
    rw [HT.sIx_nat, HT.sIx_none, Nat.min_eq_left (by omega), List.drop_zero, Nat.sub_zero]
    exact DpAll.up (same_new (g2.sub.free hp)) _ _ (DpAll.take n h2)
/-! ### own instances -/
/-- what an __init__ promises: of the new instance's fields -/
def SpN {α : Type} (C : Addr) (pre : α → List V → Hp → Prop) (post : α → List (Str × V) → Hp → Prop) : Sp := fun vs H Q _ => ∃ (i : α) (G H0 : Hp) (x dx : Addr) (ws : List V), vs = .ref x :: ws ∧ H = upd H0 x (.ins C dx []) ∧ H0 x = none ∧ Same G H0 ∧ pre i ws G ∧
  ∀ G2 H2 fs, Gr G H0 G2 H2 → G2 x = none → H2 x = some (.ins C dx fs) → post i fs G2 → Q .non H2
theorem ev_make {α : Type} {C : Addr} {pre : α → List V → Hp → Prop} {post : α → List (Str × V) → Hp → Prop} {dvs : List V} {t : TA} {E : XK} (i : α) (mp : ∀ fs G G', Same G G' → post i fs G → post i fs G') (h : EvA t σ G (fun vs G' => pre i (vs ++ dvs) G')) :
    EvP (tMake C (SpN C pre post) dvs E t) σ G (fun v G' => ∃ fs, Ins C fs v G' ∧ post i fs G') := fun H s Q q =>
  h H s _ fun vs G1 H1 g1 p1 x dx hx hdx ne => by
    have g2 := (Gr.refl g1.sub).mnew (o := .own x) hdx
    have hx2 : (upd H1 dx (.own x)) x = none := by rw [upd_ne (fun z => ne z.symm)]; exact hx
    refine ⟨i, G1, _, x, dx, vs ++ dvs, rfl, rfl, hx2, g2.sub, p1, fun G2 H2 fs g4 hg e p2 => ⟨rfl, ?_⟩⟩
    have g5 := (g2.trans g4).keepIt hx hg e
    have sm : Same G2 (upd G2 x (.ins C dx fs)) := same_new hg
    exact q _ _ H2 (g1.trans g5) ⟨fs, ⟨x, dx, rfl, upd_same⟩, mp _ _ _ sm p2⟩
end
/-! ### statements one behind the other -/
section
variable {K : PySem.W.Frag} {σ : L2.St} {G H : Hp} {te : TE} {tc : TT} {t u : TS} {D : Ends} {P : VP}
theorem seq_guard (h : EvB tc σ G false) (s : Same G H) (k : ∀ G2 H2, Gr G H G2 H2 → u D σ H2) : tSeq (tIfS tc t tNext) u D σ H :=
  h H s _ fun G2 H2 g => k G2 H2 g
theorem run_guard (h : EvB tc σ G false) (s : Same G H) (k : ∀ G2 H2, Gr G H G2 H2 → D.nx σ H2) : tIfS tc t tNext D σ H :=
  h H s _ fun G2 H2 g => k G2 H2 g
theorem seq_ifT (h : EvB tc σ G true) (s : Same G H) {v : TS} (k : ∀ G2 H2, Gr G H G2 H2 → t { D with nx := u D } σ H2) : tSeq (tIfS tc t v) u D σ H :=
  h H s _ fun G2 H2 g => k G2 H2 g
theorem seq_set {i : Nat} (h : EvP te σ G P) (s : Same G H) (k : ∀ v G2 H2, Gr G H G2 H2 → P v G2 → u D (σ.set i (some v)) H2) : tSeq (tAsg te (gName i)) u D σ H :=
  h H s _ fun v G2 H2 g p => k v G2 H2 g p
theorem seq_match {tm : Str → TS} {z : Str} (h : EvP te σ G (IsV (.str z))) (s : Same G H) (k : ∀ G2 H2, Gr G H G2 H2 → tm z { D with nx := u D } σ H2) : tSeq (tMatch te tm) u D σ H :=
  h H s _ fun v G2 H2 g e => ⟨z, e, k G2 H2 g⟩
theorem seq_do (h : EvP te σ G P) (s : Same G H) (k : ∀ v G2 H2, Gr G H G2 H2 → P v G2 → u D σ H2) : tSeq (tDrop te) u D σ H :=
  h H s _ fun v G2 H2 g p => k v G2 H2 g p
theorem seq_for {β : Type} {bs : List β} {wi : TI} {g : TG} {tb : TS} {I : β → VP} (src : SrcB wi σ G bs I) (s : Same G H)
    (k : ∀ G1 H1, Gr G H G1 H1 → ∃ Pv : Nat → L2.St → Hp → Hp → Prop, Pv 0 σ G1 H1 ∧
      (∀ i b σ' G' H', bs[i]? = some b → Same G1 G' → Same G' H' → Pv i σ' G' H' → ∀ x G2 H2, Gr G' H' G2 H2 → I b x G2 → g x σ' H2 fun σ2 H3 =>
        tb { D with nx := fun σ'' H'' => ∃ G'', Same G1 G'' ∧ Same G'' H'' ∧ Pv (i + 1) σ'' G'' H'', ct := fun σ'' H'' => ∃ G'', Same G1 G'' ∧ Same G'' H'' ∧ Pv (i + 1) σ'' G'' H'', bk := u D } σ2 H3) ∧
      (∀ σ' G' H', Same G1 G' → Same G' H' → Pv bs.length σ' G' H' → u D σ' H')) : tSeq (tFor wi g tb) u D σ H :=
  for_src (D := { D with nx := u D }) src s k
/-- o.f = e, o an instance that is still being made -/
theorem run_fld {i : Nat} {a C dx : Addr} {fs : List (Str × V)} {f : Str} {G0 H0 : Hp} (g0 : Gr G0 H0 G H) (h : EvP te σ G P) (e : σ[i]? = some (some (.ref a))) (ha : H a = some (.ins C dx fs)) (hg : G a = none) (h0 : H0 a = none) (c : Cls K C) (n : NoAttr K C f) (l : fs.length < 1000)
    (k : ∀ v G2 H2, Gr G0 H0 G2 H2 → G2 a = none → Same G G2 → P v G2 → H2 a = some (.ins C dx (putF f v fs)) → D.nx σ H2) : sFld K (tVar i) te f D σ H :=
  h H g0.sub _ fun v G2 H2 g p => ⟨.ref a, e, a, C, dx, fs, rfl, g.hh _ _ ha, c, n, l, by
    have hg2 : G2 a = none := g.old a _ hg ha fun ys z => nomatch z
    exact k v G2 (upd H2 a (.ins C dx (putF f v fs))) ((g0.trans g).mut h0 hg2) hg2 g.gg p upd_same⟩
theorem seq_fld {i : Nat} {a C dx : Addr} {fs : List (Str × V)} {f : Str} {G0 H0 : Hp} (g0 : Gr G0 H0 G H) (h : EvP te σ G P) (e : σ[i]? = some (some (.ref a))) (ha : H a = some (.ins C dx fs)) (hg : G a = none) (h0 : H0 a = none) (c : Cls K C) (n : NoAttr K C f) (l : fs.length < 1000)
    (k : ∀ v G2 H2, Gr G0 H0 G2 H2 → G2 a = none → Same G G2 → P v G2 → H2 a = some (.ins C dx (putF f v fs)) → u D σ H2) : tSeq (sFld K (tVar i) te f) u D σ H :=
  run_fld (D := { D with nx := u D }) g0 h e ha hg h0 c n l k
end
end Hk

set_option Elab.async false
set_option linter.all false
set_option maxRecDepth 100000
set_option maxHeartbeats 1000000
/-! is_whole, is_word, are_names, is_right. -/
namespace Hk
open PySem PySem.Spec PyProof.Rows L2
theorem sc_is_whole : FnScope ["thing"] ["thing"] (defScope s_is_whole) := ⟨rfl, rfl, rfl, by decide +kernel, rfl, by decide +kernel, by decide +kernel⟩
theorem sc_is_word : FnScope ["thing", "sign"] ["thing"] (defScope s_is_word) := ⟨rfl, rfl, rfl, by decide +kernel, rfl, by decide +kernel, by decide +kernel⟩
theorem sc_are_names : FnScope ["thing", "name"] ["thing"] (defScope s_are_names) := ⟨rfl, rfl, rfl, by decide +kernel, rfl, by decide +kernel, by decide +kernel⟩
theorem sc_is_right : FnScope ["thing", "names", "part"] ["thing", "names"] (defScope s_is_right) := ⟨rfl, rfl, rfl, by decide +kernel, rfl, by decide +kernel, by decide +kernel⟩
def sp_is_whole : Sp := SpI (fun (n : Int) vs _ => vs = [.int n]) (fun _ => IsV (.bl true))
def sp_is_word : Sp := SpI (fun (z : Str) vs _ => vs = [.str z] ∧ isW z = true) (fun _ => IsV (.bl true))
section
variable {P : Program} {w : World} {K : PySem.W.Frag} {mg : Str → Option Value} {base : Heap} {S Po : Addr} (T : Tx K mg S Po)
include T
theorem ok_is_whole : Fn P w K mg base 1 "is_whole" ["thing"] sp_is_whole := by
  refine fn_mk (N := ["thing"]) T.f_is_whole (fun F => F.bindsN fun _ _ _ _ _ _ us hl => match us, hl with | [_], _ => rfl) sc_is_whole (fun vs H Q E h => ?_) fun f cdv A outer s H vs Q E hr h => ?_
  · obtain ⟨n, G, sm, rfl, _⟩ := h
    rfl
  · obtain ⟨n, G, sm, rfl, q⟩ := h
    refine ⟨_, PSs.nox (pss_one (ps_ret (pe_and (pe_callB call_isi (by rfl) T.b_isinstance (by decide +kernel) (pa_cons (pv 0) (pa_cons (pe_bltn (v := .ty "int") (u := .type "int") (by rfl) T.b_int (by decide +kernel) rfl) pa_nil))) (pe_one (pe_not (pe_callB call_isi (by rfl) T.b_isinstance (by decide +kernel) (pa_cons (pv 0) (pa_cons (pe_bltn (v := .ty "bool") (u := .type "bool") (by rfl) T.b_bool (by decide +kernel) rfl) pa_nil)))))))), ?_⟩
    exact run_ret (ev_andT (ev_isi (d := .int n) (int_dd (ev_var rfl rfl)) kB_int_int) (ev_notV (a := false) (ev_isi (d := .int n) (int_dd (ev_var rfl rfl)) kB_int_bool))) sm q
theorem ok_is_word : Fn P w K mg base 1 "is_word" ["thing"] sp_is_word := by
  refine fn_mk (N := ["thing", "sign"]) T.f_is_word (fun F => F.bindsN fun _ _ _ _ _ _ us hl => match us, hl with | [_], _ => rfl) sc_is_word (fun vs H Q E h => ?_) fun f cdv A outer s H vs Q E hr h => ?_
  · obtain ⟨n, G, sm, ⟨rfl, _⟩, _⟩ := h
    rfl
  · obtain ⟨z, G, sm, ⟨rfl, hz⟩, q⟩ := h
    obtain ⟨t1, k_MOST_LETTERS⟩ := T.k_MOST_LETTERS
    obtain ⟨t2, k_SMALL⟩ := T.k_SMALL
    refine ⟨_, PSs.nox (pss_one (ps_ret (pe_and (pe_callB call_isi (by rfl) T.b_isinstance (by decide +kernel) (pa_cons (pv 0) (pa_cons (pe_bltn (v := .ty "str") (u := .type "str") (by rfl) T.b_str (by decide +kernel) rfl) pa_nil))) (pe_and (pe_chain op_le op_le pe_int (pe_callB call_len_str (by rfl) T.b_len (by decide +kernel) (pa_cons (pv 0) pa_nil)) (pe_glob (v := .int 8) (by rfl) k_MOST_LETTERS ⟨_, rfl⟩)) (pe_one (pe_callB (cr_all rfl) (by rfl) T.b_all (by decide +kernel) (pa_cons (pe_lc (own := [("sign", 1)]) rfl sc_is_word.nd (pi_str (pv 0)) (blkOk_by (own := [("sign", 1)]) (N := ["thing", "sign"]) (sc := defScope s_is_word) (by decide +kernel)) (fun _ _ _ _ _ => (pg_name (i := 1) sc_is_word.nd rfl (Or.inl rfl))) (fun _ _ _ _ _ => pts_nil) (fun _ _ _ _ _ => (pe_cmpR op_in_sign (pv 1) (pe_glob (v := .str "abcdefghijklmnopqrstuvwxyz") (by rfl) k_SMALL ⟨_, rfl⟩) rfl))) pa_nil))))))), ?_⟩
    unfold isW at hz
    simp only [Bool.and_eq_true, decide_eq_true_eq] at hz
    obtain ⟨⟨h1, h2⟩, h3⟩ := hz
    refine run_ret (ev_andT (ev_isi (d := .str z) (str_dd (ev_var rfl rfl)) kB_str_str) (ev_andT ((ev_chain (i := 1) (j := z.length) (k := 8) (ev_c rfl) (ev_lenS (z := z) (ev_var rfl rfl) (by omega)) (ev_c rfl)).imp fun v _ _ e => ?_) ?_)) sm q
    · have e : v = V.bl (decide ((1 : Int) ≤ z.length) && decide ((z.length : Int) ≤ 8)) := e
      rw [e, decide_eq_true (by omega), decide_eq_true (by omega)]
      rfl
    · have z1 : z.length ≤ 1000 := by omega
      refine (ev_allC (g := fun c => decide (c ∈ ("abcdefghijklmnopqrstuvwxyz" : Str).cps.toList)) (ev_lc1 (fun c => PyData.bool (decide (c ∈ ("abcdefghijklmnopqrstuvwxyz" : Str).cps.toList))) (src_str (z := z) (ev_var rfl rfl)) (Nat.le_trans (show z.cps.toList.length ≤ 1000 from by rw [Array.length_toList]; exact z1) (by decide)) fun b hb v G' s i => ⟨_, tgt_name, rfl, ?_⟩)).imp fun v _ _ e => ?_
      · exact bl_dd (ev_inSign (ev_var rfl i) (ev_c rfl))
      · have e : v = V.bl (z.cps.toList.all fun c => decide (c ∈ ("abcdefghijklmnopqrstuvwxyz" : Str).cps.toList)) := e
        rw [e, h3]
end
def sp_are_names (K : PySem.W.Frag) : Sp := SpI (fun (l : List Str) vs G => ∃ v, vs = [v] ∧ Dp K G v (.list (l.map sD)) ∧ l.Nodup ∧ l.length < 64 ∧ ∀ z ∈ l, isW z = true) (fun _ => IsV (.bl true))
def sp_is_right (K : PySem.W.Frag) : Sp := SpI (fun (i : Rt × List Str) vs G => ∃ v1 v2, vs = [v1, v2] ∧ Dp K G v1 (rD i.1) ∧ Dp K G v2 (.list (i.2.map sD)) ∧ i.1.1 ∈ i.2 ∧ i.1.2.2 ∈ i.2 ∧ isW i.1.2.1 = true ∧ ∀ z ∈ i.2, isW z = true) (fun _ => IsV (.bl true))
theorem sz64 {n : Nat} (h : n < 64) : n ≤ sizeLine := Nat.le_trans (Nat.le_of_lt h) (by decide)
section
variable {P : Program} {w : World} {K : PySem.W.Frag} {mg : Str → Option Value} {base : Heap} {S Po : Addr} (T : Tx K mg S Po)
include T
theorem ok_are_names : Fn P w K mg base 2 "are_names" ["thing"] (sp_are_names K) := by
  obtain ⟨f_is_word, fd_is_word, G_is_word, m_is_word, k_is_word, b_is_word⟩ := (ok_is_word (P := P) (w := w) (base := base) T)
  refine fn_mk (N := ["thing", "name"]) T.f_are_names (fun F => F.bindsN fun _ _ _ _ _ _ us hl => match us, hl with | [_], _ => rfl) sc_are_names (fun vs H Q E h => ?_) fun f cdv A outer s H vs Q E hr h => ?_
  · obtain ⟨n, G, sm, ⟨v, rfl, _⟩, _⟩ := h
    rfl
  · obtain ⟨l, G, sm, ⟨v, rfl, hd, hn, hl, hw⟩, q⟩ := h
    have hr0 := hr.mono (Nat.zero_le _)
    refine ⟨_, PSs.nox (pss_cons (ps_if (PW.pt (pw_or (pt_not (pt_val (pe_callB call_isiT (by rfl) T.b_isinstance (by decide +kernel) (pa_cons (pv 0) (pa_cons (pe_tup (pa_cons (pe_bltn (v := .ty "list") (u := .type "list") (by rfl) T.b_list (by decide +kernel) rfl) (pa_cons (pe_bltn (v := .ty "tuple") (u := .type "tuple") (by rfl) T.b_tuple (by decide +kernel) rfl) pa_nil))) pa_nil))))) (pw_or1 (pt_not (pt_val (pe_callB (cr_all rfl) (by rfl) T.b_all (by decide +kernel) (pa_cons (pe_lc (own := [("name", 1)]) rfl sc_are_names.nd (pi_list (pv 0)) (blkOk_by (own := [("name", 1)]) (N := ["thing", "name"]) (sc := defScope s_are_names) (by decide +kernel)) (fun _ _ _ _ _ => (pg_name (i := 1) sc_are_names.nd rfl (Or.inl rfl))) (fun _ _ _ _ _ => pts_nil) (fun _ _ _ _ _ => (pe_call G_is_word (hr.mono (by decide)) (by rfl) m_is_word k_is_word b_is_word .nil pass0 (pa_cons (pv 1) pa_nil)))) pa_nil)))))))
    (pss_one (ps_ret pe_bl)) pss_nil)
    (pss_one (ps_ret (pe_cmpR op_eq (pe_lenSet txt_ok br_txt rfl hr0 (pv 0) (by rfl) T.b_set (by rfl) T.b_len) (pe_callB call_len_seq (by rfl) T.b_len (by decide +kernel) (pa_cons (pv 0) pa_nil)) (nomark _))))), ?_⟩
    refine run_if (b := false) (eb_orF (eb_notT (eb_T (ev_isi2 (ev_var rfl hd) kB_list_list kB_list_tuple))) (eb_notT (eb_T (ev_allT (ev_lc1 (bs := l) (fun _ => .bool true) (src_list (enc := sD) (ev_var rfl hd)) (sz64 hl)
      fun b hb v G' s i => ⟨_, tgt_name, rfl, bl_dd (ev_call b (ea1 (ev_var rfl i) fun v G2 s2 e => ⟨by rw [dp_str e], hw b hb⟩))⟩))))) sm (fun z => nomatch z) fun _ G2 H2 g => ?_
    have hd2 := Dp.up g.gg _ _ hd
    refine run_ret ((ev_eqI (i := (l.length : Int)) (j := (l.length : Int)) (ev_lenSet (enc := PyData.str) (bs := l) (ev_list (ev_var rfl hd2)) hn hl) ((ev_lenL (ev_var rfl hd2)).imp fun v _ _ e => ?_)).imp fun v _ _ e => ?_) g.sub fun v G3 H3 g3 => q v G3 H3 (g.trans g3)
    · rw [show v = V.int ((l.map sD).length) from e, List.length_map]
    · rw [show v = V.bl (decide ((l.length : Int) = l.length)) from e, decide_eq_true rfl]
theorem ok_is_right : Fn P w K mg base 2 "is_right" ["thing", "names"] (sp_is_right K) := by
  obtain ⟨f_is_word, fd_is_word, G_is_word, m_is_word, k_is_word, b_is_word⟩ := (ok_is_word (P := P) (w := w) (base := base) T)
  refine fn_mk (N := ["thing", "names", "part"]) T.f_is_right (fun F => F.bindsN fun _ _ _ _ _ _ us hl => match us, hl with | [_, _], _ => rfl) sc_is_right (fun vs H Q E h => ?_) fun f cdv A outer s H vs Q E hr h => ?_
  · obtain ⟨n, G, sm, ⟨v1, v2, rfl, _⟩, _⟩ := h
    rfl
  · obtain ⟨⟨r, ns⟩, G, sm, ⟨v1, v2, rfl, hd1, hd2, m1, m2, w1, w2⟩, q⟩ := h
    refine ⟨_, PSs.nox (pss_cons (ps_if (PW.pt (pw_or (pt_not (pt_val (pe_callB call_isi (by rfl) T.b_isinstance (by decide +kernel) (pa_cons (pv 0) (pa_cons (pe_bltn (v := .ty "tuple") (u := .type "tuple") (by rfl) T.b_tuple (by decide +kernel) rfl) pa_nil))))) (pw_or (pt_cmpR op_ne (pe_callB call_len_seq (by rfl) T.b_len (by decide +kernel) (pa_cons (pv 0) pa_nil)) pe_int (nomark _)) (pw_or1 (pt_not (pt_val (pe_callB (cr_all rfl) (by rfl) T.b_all (by decide +kernel) (pa_cons (pe_lc (own := [("part", 2)]) rfl sc_is_right.nd (pi_tup (pv 0)) (blkOk_by (own := [("part", 2)]) (N := ["thing", "names", "part"]) (sc := defScope s_is_right) (by decide +kernel)) (fun _ _ _ _ _ => (pg_name (i := 2) sc_is_right.nd rfl (Or.inl rfl))) (fun _ _ _ _ _ => pts_nil) (fun _ _ _ _ _ => (pe_call G_is_word (hr.mono (by decide)) (by rfl) m_is_word k_is_word b_is_word .nil pass0 (pa_cons (pv 2) pa_nil)))) pa_nil))))))))
    (pss_one (ps_ret pe_bl)) pss_nil)
    (pss_one (ps_ret (pe_and (pe_cmpR op_in_seq (pe_ix ix_tup (pv 0) pe_int (fun _ _ => rfl)) (pv 1) rfl) (pe_one (pe_cmpR op_in_seq (pe_ix ix_tup (pv 0) pe_int (fun _ _ => rfl)) (pv 1) rfl)))))), ?_⟩
    have hd0 : Dp K G v1 (.tuple ([r.1, r.2.1, r.2.2].map sD)) := hd1
    have hw : ∀ b ∈ [r.1, r.2.1, r.2.2], isW b = true := fun b hb => by
      simp only [List.mem_cons, List.mem_nil_iff, or_false] at hb
      rcases hb with rfl | rfl | rfl
      · exact w2 _ m1
      · exact w1
      · exact w2 _ m2
    refine run_if (b := false) (eb_orF (eb_notT (eb_T (ev_isi (ev_var rfl hd0) kB_tuple_tuple))) (eb_orF (eb_test (ev_is (ev_neI (i := 3) (j := 3) (ev_lenT (ev_var rfl hd0)) (ev_c rfl)) (by decide))) (eb_notT (eb_T (ev_allT (ev_lc1 (bs := [r.1, r.2.1, r.2.2]) (fun _ => .bool true) (src_tup (enc := sD) (ev_var rfl hd0)) (by show 3 ≤ sizeLine; decide)
      fun b hb v G' s i => ⟨_, tgt_name, rfl, bl_dd (ev_call b (ea1 (ev_var rfl i) fun v G2 s2 e => ⟨by rw [dp_str e], hw b hb⟩))⟩)))))) sm (fun z => nomatch z) fun _ G2 H2 g => ?_
    have h1 := Dp.up g.gg _ _ hd0
    have h2 := Dp.up g.gg _ _ hd2
    exact run_ret (ev_andT (ev_is (ev_inS (dd_str (ev_ixT (ev_var rfl h1) (ev_c rfl) rfl)) (ev_var rfl h2)) (decide_eq_true m1)) (ev_is (ev_inS (dd_str (ev_ixT (ev_var rfl h1) (ev_c rfl) rfl)) (ev_var rfl h2)) (decide_eq_true m2))) g.sub fun v G3 H3 g3 => q v G3 H3 (g.trans g3)
end
end Hk

set_option Elab.async false
set_option linter.all false
set_option maxRecDepth 100000
set_option maxHeartbeats 1000000
/-! Sorted lists: two sorted lists of one set are the same. -/
namespace Hk
open PySem PySem.Spec PyProof.Rows L2
section
variable {β : Type} {k : β → PyData}
abbrev Up (k : β → PyData) (l : List β) : Prop := l.Pairwise fun a b => PySem.W.dataLe false k a b = true
theorem up_sort (l : List β) : Up k (l.mergeSort (PySem.W.dataLe false k)) := by
  have T := PySem.W.sortLe_total (PyProof.Rows.listOrd PyProof.Rows.itemOrd) false (fun b => PySem.W.keyToks (k b))
  exact List.pairwise_mergeSort (fun a b c h1 h2 => T.trans a b c h1 h2) (fun a b => by
    rcases T.total a b with h | h
    · exact Bool.or_eq_true_iff.mpr (.inl h)
    · exact Bool.or_eq_true_iff.mpr (.inr h)) l
theorem up_anti (inj : ∀ a b, PySem.W.keyToks (k a) = PySem.W.keyToks (k b) → a = b) {a b : β} (h1 : PySem.W.dataLe false k a b = true) (h2 : PySem.W.dataLe false k b a = true) : a = b := by
  have h1' : (!(PyProof.Rows.listOrd PyProof.Rows.itemOrd).blt (PySem.W.keyToks (k b)) (PySem.W.keyToks (k a))) = true := h1
  have h2' : (!(PyProof.Rows.listOrd PyProof.Rows.itemOrd).blt (PySem.W.keyToks (k a)) (PySem.W.keyToks (k b))) = true := h2
  rw [Bool.not_eq_true'] at h1' h2'
  exact inj a b ((PyProof.Rows.listOrd PyProof.Rows.itemOrd).total _ _ h2' h1')
theorem up_uniq (inj : ∀ a b, PySem.W.keyToks (k a) = PySem.W.keyToks (k b) → a = b) : ∀ {l1 l2 : List β}, l1.Nodup → l2.Nodup → (∀ x, x ∈ l1 ↔ x ∈ l2) → Up k l1 → Up k l2 → l1 = l2 := fun n1 n2 m p1 p2 =>
  (nodup_perm n1 n2 m).eq_of_pairwise (fun _ _ _ _ h1 h2 => up_anti inj h1 h2) p1 p2
end
theorem inj_s : ∀ a b : Str, PySem.W.keyToks (sD a) = PySem.W.keyToks (sD b) → a = b := fun a b h => by
  simp [sD, PySem.W.keyToks] at h
  exact PySem.W.str_of_cps (by rw [h])
theorem inj_r : ∀ a b : Rt, PySem.W.keyToks (rD a) = PySem.W.keyToks (rD b) → a = b := fun a b h => by
  obtain ⟨a1, a2, a3⟩ := a
  obtain ⟨b1, b2, b3⟩ := b
  simp [rD, PySem.W.keyToks, PySem.W.keyToksAll] at h
  obtain ⟨h1, h2, h3⟩ := h
  rw [show a1 = b1 from PySem.W.str_of_cps (by rw [h1]), show a2 = b2 from PySem.W.str_of_cps (by rw [h2]), show a3 = b3 from PySem.W.str_of_cps (by rw [h3])]
def tl (r : Rt) : List Str := [r.1, r.2.1, r.2.2]
theorem tl_inj {a b : Rt} (h : tl a = tl b) : a = b := by
  obtain ⟨a1, a2, a3⟩ := a
  obtain ⟨b1, b2, b3⟩ := b
  simp [tl] at h
  obtain ⟨rfl, rfl, rfl⟩ := h
  rfl
theorem rD_tl (rs : List Rt) : (rs.map tl).map encT = rs.map rD := by rw [List.map_map]; rfl
theorem nodup_of_map {α β : Type} {f : α → β} : ∀ {l : List α}, (l.map f).Nodup → l.Nodup
  | [], _ => .nil
  | a :: l, h => by
    rw [List.map_cons, List.nodup_cons] at h
    rw [List.nodup_cons]
    exact ⟨fun z => h.1 (List.mem_map_of_mem z), nodup_of_map h.2⟩
/-- what sorted(set(..)) of rights gives -/
theorem tl_back {cs : List (List Str)} {rts : List Rt} (n : cs.Nodup) (m : ∀ b, b ∈ cs ↔ b ∈ rts.map tl) : ∃ rs : List Rt, cs = rs.map tl ∧ rs.Nodup ∧ ∀ r, r ∈ rs ↔ r ∈ rts := by
  have ex : ∃ rs : List Rt, cs = rs.map tl := by
    have : ∀ c ∈ cs, ∃ r, c = tl r := fun c hc => by
      obtain ⟨r, _, e⟩ := List.mem_map.mp ((m c).mp hc)
      exact ⟨r, e.symm⟩
    clear n m
    induction cs with
    | nil => exact ⟨[], rfl⟩
    | cons c cs ih =>
      obtain ⟨r, e⟩ := this c (List.mem_cons_self ..)
      obtain ⟨rs, e2⟩ := ih fun d hd => this d (List.mem_cons_of_mem _ hd)
      exact ⟨r :: rs, by rw [e, e2]; rfl⟩
  obtain ⟨rs, rfl⟩ := ex
  refine ⟨rs, rfl, nodup_of_map n, fun r => ⟨fun h => ?_, fun h => ?_⟩⟩
  · obtain ⟨r', h1, h2⟩ := List.mem_map.mp ((m (tl r)).mp (List.mem_map_of_mem h))
    rw [← tl_inj h2]; exact h1
  · obtain ⟨r', h1, h2⟩ := List.mem_map.mp ((m (tl r)).mpr (List.mem_map_of_mem h))
    rw [← tl_inj h2]; exact h1
theorem tl_sort (rs : List Rt) : (((rs.map tl).mergeSort (PySem.W.dataLe false encT)).map encT) = (rs.mergeSort (PySem.W.dataLe false rD)).map rD := by
  rw [← PySem.W.sort_maps tl (r := PySem.W.dataLe false rD) (s := PySem.W.dataLe false encT) (l := rs) (fun _ _ _ _ => rfl), rD_tl]
end Hk

set_option Elab.async false
set_option linter.all false
set_option maxRecDepth 100000
set_option maxHeartbeats 1000000
/-! State: made, parties, checked. -/
namespace Hk
open PySem PySem.Spec PyProof.Rows L2
theorem sc_State___init : FnScope ["self", "people", "things", "rights", "name", "names", "one"] ["self", "people", "things", "rights"] (defScope s_State__init__) := ⟨rfl, rfl, rfl, by decide +kernel, rfl, by decide +kernel, by decide +kernel⟩
theorem sc_State_parties : FnScope ["self"] ["self"] (defScope s_Stateparties) := ⟨rfl, rfl, rfl, by decide +kernel, rfl, by decide +kernel, by decide +kernel⟩
theorem sc_check_state : FnScope ["thing"] ["thing"] (defScope s_check_state) := ⟨rfl, rfl, rfl, by decide +kernel, rfl, by decide +kernel, by decide +kernel⟩
theorem sc_check_small : FnScope ["thing"] ["thing"] (defScope s_check_small) := ⟨rfl, rfl, rfl, by decide +kernel, rfl, by decide +kernel, by decide +kernel⟩
theorem sc_check_right : FnScope ["state", "right"] ["state", "right"] (defScope s_check_right) := ⟨rfl, rfl, rfl, by decide +kernel, rfl, by decide +kernel, by decide +kernel⟩
abbrev sortS (l : List Str) : List Str := l.mergeSort (PySem.W.dataLe false sD)
theorem srt_s (K : PySem.W.Frag) {l : List Str} (h : l.length ≤ 1000000) : Srt K sD l :=
  ⟨PySem.W.AllAlike.of fun _ _ => rfl, PySem.W.Sortable.others fun _ => ⟨(fun z => nomatch z), (fun _ z => nomatch z)⟩, fun _ _ => (by show 0 ≤ 5; decide), h⟩
theorem flat_str : Flat sD := fun I h r => by
  rw [dp_str h] at r
  obtain ⟨t, rfl⟩ := r
  exact .str _ _
theorem ev_sortL {K : PySem.W.Frag} {σ : L2.St} {G : Hp} {ta : TE} {β : Type} {enc : β → PyData} {bs : List β} (h : EvP ta σ G (fun v G' => DD K (.list (bs.map enc)) v G' ∨ DD K (.tuple (bs.map enc)) v G')) (S : Srt K enc bs) :
    EvP (tCB (rSort K enc) (tCons ta tNil)) σ G (DD K (.list ((bs.mergeSort (PySem.W.dataLe false enc)).map enc))) :=
  (ev_sort h S).stay fun p o G' hp ⟨xs, e, h⟩ => by
    subst e
    exact .lst upd_same (DpAll.up (same_new hp) _ _ h)
theorem ev_sortSetR {K : PySem.W.Frag} {σ : L2.St} {G : Hp} {te : TE} {rts : List Rt} (h : EvP te σ G (fun v G' => DD K (.list (rts.map rD)) v G' ∨ DD K (.tuple (rts.map rD)) v G')) (hl : rts.length < 64) :
    EvP (tSortSet K encT te) σ G (fun v G' => ∃ rs : List Rt, rs.Nodup ∧ (∀ r, r ∈ rs ↔ r ∈ rts) ∧ Up rD rs ∧ Dp K G' v (.list (rs.map rD))) := by
  rw [← rD_tl] at h
  refine (em_sortSet h (by rw [List.length_map]; exact hl) ?_ ?_).stay fun p o G' hp ⟨xs, cs, e, n, m, h⟩ => ?_
  · rw [rD_tl]; exact PySem.W.AllAlike.of fun _ _ => rfl
  · rw [rD_tl]; exact PySem.W.Sortable.tuples fun _ => ⟨_, _, rfl⟩
  · subst e
    obtain ⟨rs, rfl, n2, m2⟩ := tl_back n m
    rw [tl_sort] at h
    exact ⟨_, (List.mergeSort_perm rs _).nodup_iff.mpr n2, fun r => ((List.mergeSort_perm rs _).mem_iff).trans (m2 r), up_sort rs, .lst upd_same (DpAll.up (same_new hp) _ _ h)⟩
structure StIn where
  ppl : List Str
  ths : List Str
  rts : List Rt
/-- what can be a state -/
structure StIn.Ok (i : StIn) : Prop where
  nd : (i.ppl ++ i.ths).Nodup
  one : 1 ≤ (i.ppl ++ i.ths).length
  len : (i.ppl ++ i.ths).length ≤ 12
  lr : i.rts.length < 64
  ws : ∀ z ∈ i.ppl ++ i.ths, isW z = true
  ri : ∀ r ∈ i.rts, r.1 ∈ i.ppl ++ i.ths ∧ r.2.2 ∈ i.ppl ++ i.ths ∧ isW r.2.1 = true
/-- the fields of a state -/
def StF (K : PySem.W.Frag) (ppl ths : List Str) (rts : List Rt) (fs : List (Str × V)) (G : Hp) : Prop := ∃ a b c, fs = [(("people" : Str), a), (("things" : Str), b), (("rights" : Str), c)] ∧ Dp K G a (.list (ppl.map sD)) ∧ Dp K G b (.list (ths.map sD)) ∧ Dp K G c (.list (rts.map rD))
def StPost (K : PySem.W.Frag) (i : StIn) (fs : List (Str × V)) (G : Hp) : Prop := ∃ rs : List Rt, rs.Nodup ∧ (∀ r, r ∈ rs ↔ r ∈ i.rts) ∧ Up rD rs ∧ StF K (sortS i.ppl) (sortS i.ths) rs fs G
def sp_Stateinit (K : PySem.W.Frag) (C : Addr) : Sp := SpN C (fun (i : StIn) ws G => ∃ a b c, ws = [a, b, c] ∧ Dp K G a (.list (i.ppl.map sD)) ∧ Dp K G b (.list (i.ths.map sD)) ∧ Dp K G c (.list (i.rts.map rD)) ∧ i.Ok) (StPost K)
section
variable {P : Program} {w : World} {K : PySem.W.Frag} {mg : Str → Option Value} {base : Heap} {S Po : Addr} (T : Tx K mg S Po)
include T
theorem ok_Stateinit : ∃ f fd, FnOk P w K mg base CX0 3 f fd ["self", "people", "things", "rights"] (sp_Stateinit K S) ∧ Mk K S f ∧ Binds K fd ["self", "people", "things", "rights"] [] := by
  obtain ⟨f_are_names, fd_are_names, G_are_names, m_are_names, k_are_names, b_are_names⟩ := (ok_are_names (P := P) (w := w) (base := base) T)
  obtain ⟨f_is_right, fd_is_right, G_is_right, m_is_right, k_is_right, b_is_right⟩ := (ok_is_right (P := P) (w := w) (base := base) T)
  obtain ⟨f, fd, d, M, F⟩ := T.mk_State
  have hb : Binds K fd ["self", "people", "things", "rights"] [] := by
    obtain ⟨ds, v, b⟩ := F.binds1 (ps := ["self", "people", "things", "rights"]) 4 1 (by simp) rfl fun Td kV doc pm an cdv ct us its hl h2 => match us, hl, its, h2 with | [_, _, _, _], _, [_], _ => ⟨_, rfl, rfl⟩
    cases v
    exact b
  refine ⟨f, fd, F.ok (N := ["self", "people", "things", "rights", "name", "names", "one"]) sc_State___init (fun vs H Q E h => ?_) (fun cdv A outer s H vs Q E hr h => ?_), M, hb⟩
  · obtain ⟨i, G, H0, x, dx, ws, rfl, _, _, _, ⟨a, b, c, rfl, _⟩, _⟩ := h
    rfl
  · obtain ⟨⟨ppl, ths, rts⟩, G, H0, x, dx, ws, rfl, rfl, h0, sm0, ⟨a, b, c, rfl, ha, hb', hc, ok⟩, q⟩ := h
    have hr0 := hr.mono (Nat.zero_le _)
    refine ⟨_, PSs.nox (pss_cons (ps_if (pt_not (pt_val (pe_call G_are_names (hr.mono (by decide)) (by rfl) m_are_names k_are_names b_are_names .nil pass0 (pa_cons (pv 1) pa_nil))))
    (pss_one ps_never) pss_nil)
    (pss_cons (ps_if (PW.pt (pw_or (pt_not (pt_val (pe_call G_are_names (hr.mono (by decide)) (by rfl) m_are_names k_are_names b_are_names .nil pass0 (pa_cons (pv 2) pa_nil)))) (pw_or1 (pt_val (pe_callB (cr_any rfl) (by rfl) T.b_any (by decide +kernel) (pa_cons (pe_lc (own := [("name", 4)]) rfl sc_State___init.nd (pi_list (pv 2)) (blkOk_by (own := [("name", 4)]) (N := ["self", "people", "things", "rights", "name", "names", "one"]) (sc := defScope s_State__init__) (by decide +kernel)) (fun _ _ _ _ _ => (pg_name (i := 4) sc_State___init.nd rfl (Or.inl rfl))) (fun _ _ _ _ _ => pts_nil) (fun _ _ _ _ _ => (pe_cmpR (show OpR _ (compareOp .In) (rIn K false) from op_in_seq) (pv 4) (pv 1) rfl))) pa_nil))))))
    (pss_one ps_never) pss_nil)
    (pss_cons (ps_if (pt_cmpR op_eq (pe_op op_add (pe_callB call_len_seq (by rfl) T.b_len (by decide +kernel) (pa_cons (pv 1) pa_nil)) (pe_callB call_len_seq (by rfl) T.b_len (by decide +kernel) (pa_cons (pv 2) pa_nil))) pe_int (nomark _))
    (pss_one ps_never) pss_nil)
    (pss_cons (ps_set (i := 5) sc_State___init.nd rfl (Or.inr rfl) (pe_lst (StX.pa_star (pv 1) (StX.pa_star (pv 2) pa_nil))))
    (pss_cons (ps_if (PW.pt (pw_or (pt_not (pt_val (pe_callB call_isiT (by rfl) T.b_isinstance (by decide +kernel) (pa_cons (pv 3) (pa_cons (pe_tup (pa_cons (pe_bltn (v := .ty "list") (u := .type "list") (by rfl) T.b_list (by decide +kernel) rfl) (pa_cons (pe_bltn (v := .ty "tuple") (u := .type "tuple") (by rfl) T.b_tuple (by decide +kernel) rfl) pa_nil))) pa_nil))))) (pw_or1 (pt_not (pt_val (pe_callB (cr_all rfl) (by rfl) T.b_all (by decide +kernel) (pa_cons (pe_lc (own := [("one", 6)]) rfl sc_State___init.nd (pi_list (pv 3)) (blkOk_by (own := [("one", 6)]) (N := ["self", "people", "things", "rights", "name", "names", "one"]) (sc := defScope s_State__init__) (by decide +kernel)) (fun _ _ _ _ _ => (pg_name (i := 6) sc_State___init.nd rfl (Or.inl rfl))) (fun _ _ _ _ _ => pts_nil) (fun _ _ _ _ _ => (pe_call G_is_right (hr.mono (by decide)) (by rfl) m_is_right k_is_right b_is_right .nil pass0 (pa_cons (pv 6) (pa_cons (pv 5) pa_nil))))) pa_nil)))))))
    (pss_one ps_never) pss_nil)
    (pss_cons (ps_fld (pv 0) (pe_callB (call_sort (enc := sD) flat_str rfl hr0) (by rfl) T.b_sorted (by decide +kernel) (pa_cons (pv 1) pa_nil)) rfl)
    (pss_cons (ps_fld (pv 0) (pe_callB (call_sort (enc := sD) flat_str rfl hr0) (by rfl) T.b_sorted (by decide +kernel) (pa_cons (pv 2) pa_nil)) rfl)
    (pss_one (ps_fld (pv 0) (pe_sortSet tup_ok br_tup rfl hr0 (pv 3) (by rfl) T.b_set (by rfl) T.b_sorted) rfl))))))))), ?_⟩
    have hn := List.nodup_append.mp ok.nd
    have hl : (ppl ++ ths).length ≤ 12 := ok.len
    have h1 : 1 ≤ (ppl ++ ths).length := ok.one
    rw [List.length_append] at hl h1
    have g0 : Gr G H0 G (upd H0 x (.ins S dx [])) := (Gr.refl sm0).mnew h0
    have e0 : (upd H0 x (.ins S dx [])) x = some (.ins S dx []) := upd_same
    have x0 : G x = none := sm0.free h0
    refine seq_guard (eb_notT (eb_T (ev_call ppl (ea1 (ev_var rfl ha) fun v G' _ e => ⟨v, rfl, e, hn.1, by omega, fun z hz => ok.ws z (List.mem_append_left _ hz)⟩)))) g0.sub fun G1 H1 g1 => ?_
    have hb1 := Dp.up g1.gg _ _ hb'
    have ha1 := Dp.up g1.gg _ _ ha
    refine seq_guard (eb_orF (eb_notT (eb_T (ev_call ths (ea1 (ev_var rfl hb1) fun v G' _ e => ⟨v, rfl, e, hn.2.1, by omega, fun z hz => ok.ws z (List.mem_append_right _ hz)⟩))))
      (eb_T' (ev_anyF (ev_lc1 (bs := ths) (fun _ => .bool false) (src_list (enc := sD) (ev_var rfl hb1)) (sz64 (by omega)) fun b hb v G' s i => ⟨_, tgt_name, rfl, bl_dd (ev_is (ev_inS (dd_str (ev_var rfl i)) (ev_var rfl (Dp.up s _ _ ha1))) (decide_eq_false fun z => hn.2.2 b z b hb rfl))⟩)))) g1.sub fun G2 H2 g2 => ?_
    have g02 := (g0.trans g1).trans g2
    have ha2 := Dp.up g2.gg _ _ ha1
    have hb2 := Dp.up g2.gg _ _ hb1
    refine seq_guard (eb_test (ev_is (ev_eqI (j := 0) (ev_int (ev_lenL (ev_var rfl ha2)) (ev_lenL (ev_var rfl hb2))) (ev_c rfl)) (decide_eq_false (by simp only [List.length_map]; omega)))) g2.sub fun G3 H3 g3 => ?_
    have ha3 := Dp.up g3.gg _ _ ha2
    have hb3 := Dp.up g3.gg _ _ hb2
    have g03 := g02.trans g3
    have hc3 := Dp.up g03.gg _ _ hc
    refine seq_set (ev_lst (ead_star (ev_list (ev_var rfl ha3)) (ead_star (ev_list (ev_var rfl hb3)) ead_nil)) (by simp; omega)) g3.sub fun v5 G4 H4 g4 h5 => ?_
    have h5' : Dp K G4 v5 (.list ((ppl ++ ths).map sD)) := by
      have z := h5
      rw [List.append_nil, ← List.map_append] at z
      exact z
    have hc4 := Dp.up g4.gg _ _ hc3
    refine seq_guard (eb_orF (eb_notT (eb_T (ev_isi2 (ev_var rfl hc4) kB_list_list kB_list_tuple))) (eb_notT (eb_T (ev_allT (ev_lc1 (bs := rts) (fun _ => .bool true) (src_list (enc := rD) (ev_var rfl hc4)) (sz64 ok.lr)
      fun b hb v G' s i => ⟨_, tgt_name, rfl, bl_dd (ev_call (b, ppl ++ ths) (ea2 mon_dd mon_dd (ev_var rfl i) (ev_var rfl (Dp.up s _ _ h5')) fun v1 v2 G' _ e1 e2 => ⟨v1, v2, rfl, e1, e2, (ok.ri b hb).1, (ok.ri b hb).2.1, (ok.ri b hb).2.2, ok.ws⟩))⟩))))) g4.sub fun G5 H5 g5 => ?_
    have g05 := (g03.trans g4).trans g5
    have gA := (((g1.trans g2).trans g3).trans g4).trans g5
    have e5 : H5 x = some (.ins S dx []) := gA.hh _ _ e0
    have x5 : G5 x = none := gA.old _ _ x0 e0 fun _ z => nomatch z
    have ha5 := Dp.up (g4.gg.trans g5.gg) _ _ ha3
    refine seq_fld g05 (ev_sortL (ev_list (ev_var rfl ha5)) (srt_s K (by show ppl.length ≤ 1000000; omega))) rfl e5 x5 h0 T.c_State T.n_people (by decide) fun w1 G6 H6 g6 x6 s6 p6 e6 => ?_
    have hb6 := Dp.up ((g4.gg.trans g5.gg).trans s6) _ _ hb3
    refine seq_fld g6 (ev_sortL (ev_list (ev_var rfl hb6)) (srt_s K (by show ths.length ≤ 1000000; omega))) rfl e6 x6 h0 T.c_State T.n_things (by show 1 < 1000; decide) fun w2 G7 H7 g7 x7 s7 p7 e7 => ?_
    have hc7 := Dp.up ((g5.gg.trans s6).trans s7) _ _ hc4
    refine run_fld g7 (ev_sortSetR (ev_list (ev_var rfl hc7)) ok.lr) rfl e7 x7 h0 T.c_State T.n_rights (by show 2 < 1000; decide) fun w3 G8 H8 g8 x8 s8 ⟨rs, n8, m8, u8, p8⟩ e8 => ?_
    exact q G8 H8 _ g8 x8 e8 ⟨rs, n8, m8, u8, w1, w2, w3, rfl, Dp.up (s7.trans s8) _ _ p6, Dp.up s8 _ _ p7, p8⟩
end
/-- a state -/
def StV (K : PySem.W.Frag) (S : Addr) (i : StIn) : VP := fun v G => ∃ fs, Ins S fs v G ∧ StF K i.ppl i.ths i.rts fs G
theorem mon_stf {K : PySem.W.Frag} {ppl ths : List Str} {rts : List Rt} {fs : List (Str × V)} {G G' : Hp} (s : Same G G') (h : StF K ppl ths rts fs G) : StF K ppl ths rts fs G' := by
  obtain ⟨a, b, c, e, h1, h2, h3⟩ := h
  exact ⟨a, b, c, e, Dp.up s _ _ h1, Dp.up s _ _ h2, Dp.up s _ _ h3⟩
theorem mon_st {K : PySem.W.Frag} {S : Addr} {i : StIn} : Mon (StV K S i) := fun v _ _ s ⟨fs, h1, h2⟩ => ⟨fs, mon_ins _ _ _ s h1, mon_stf s h2⟩
section
variable {K : PySem.W.Frag} {mg : Str → Option Value} {S Po : Addr} {σ : L2.St} {G : Hp} {ta : TE} {i : StIn}
theorem ev_people (T : Tx K mg S Po) (h : EvP ta σ G (StV K S i)) : EvP (tFld K ta "people") σ G (DD K (.list (i.ppl.map sD))) := fun H s Q q =>
  h H s _ fun v G1 H1 g1 ⟨fs, ⟨a, dx, e, hi⟩, x1, x2, x3, ef, h1, h2, h3⟩ => ⟨a, S, dx, fs, x1, e, g1.sub _ _ hi, T.c_State, T.n_people, by rw [ef]; rfl, q _ G1 H1 g1 h1⟩
theorem ev_things (T : Tx K mg S Po) (h : EvP ta σ G (StV K S i)) : EvP (tFld K ta "things") σ G (DD K (.list (i.ths.map sD))) := fun H s Q q =>
  h H s _ fun v G1 H1 g1 ⟨fs, ⟨a, dx, e, hi⟩, x1, x2, x3, ef, h1, h2, h3⟩ => ⟨a, S, dx, fs, x2, e, g1.sub _ _ hi, T.c_State, T.n_things, by rw [ef]; rfl, q _ G1 H1 g1 h2⟩
theorem ev_rights (T : Tx K mg S Po) (h : EvP ta σ G (StV K S i)) : EvP (tFld K ta "rights") σ G (DD K (.list (i.rts.map rD))) := fun H s Q q =>
  h H s _ fun v G1 H1 g1 ⟨fs, ⟨a, dx, e, hi⟩, x1, x2, x3, ef, h1, h2, h3⟩ => ⟨a, S, dx, fs, x3, e, g1.sub _ _ hi, T.c_State, T.n_rights, by rw [ef]; rfl, q _ G1 H1 g1 h3⟩
end
/-- a method with a promise of values, on a state -/
theorem ev_methS {K : PySem.W.Frag} {σ : L2.St} {G : Hp} {ta : TE} {α : Type} {S : Addr} {m : Str} {j : StIn} {pre : α → List V → Hp → Prop} {post : α → VP} {t : TA} {E : XK} (i : α) (ho : EvP ta σ G (StV K S j)) (l : m ≠ "people" ∧ m ≠ "things" ∧ m ≠ "rights")
    (h : ∀ v G', Same G G' → StV K S j v G' → EvA t σ G' (fun vs G2 => pre i (v :: vs) G2)) : EvP (tMeth S m (SpI pre post) [] E ta t) σ G (post i) := fun H s Q q =>
  ho H s _ fun v G1 H1 g1 p1 => by
    obtain ⟨fs, ⟨a, dx, e, hi⟩, hf⟩ := p1
    have hl : fs.lookup m = none := by
      obtain ⟨x1, x2, x3, ef, _⟩ := hf
      rw [ef]
      simp only [List.lookup, beq_false_of_ne l.1, beq_false_of_ne l.2.1, beq_false_of_ne l.2.2]
    refine ⟨a, dx, fs, e, g1.sub _ _ hi, hl, h v G1 g1.gg ⟨fs, ⟨a, dx, e, hi⟩, hf⟩ H1 g1.sub _ fun vs G2 H2 g2 p2 => ?_⟩
    exact ⟨i, G2, g2.sub, by rw [List.append_nil]; exact p2, fun w G3 H3 g3 p3 => q w G3 H3 ((g1.trans g2).trans g3) p3⟩
def sp_Stateparties (K : PySem.W.Frag) (S : Addr) : Sp := SpI (fun (i : StIn) vs G => ∃ v, vs = [v] ∧ StV K S i v G ∧ (i.ppl ++ i.ths).length ≤ 12) (fun i => DD K (.list ((sortS (i.ppl ++ i.ths)).map sD)))
def sp_check_state (K : PySem.W.Frag) (S : Addr) : Sp := SpI (fun (i : StIn) vs G => ∃ v, vs = [v] ∧ StV K S i v G) (fun _ => IsV .non)
def sp_check_small (K : PySem.W.Frag) (S : Addr) : Sp := SpI (fun (i : StIn) vs G => ∃ v, vs = [v] ∧ StV K S i v G ∧ (i.ppl ++ i.ths).length ≤ 12) (fun _ => IsV .non)
def sp_check_right (K : PySem.W.Frag) (S : Addr) : Sp := SpI (fun (i : StIn × Rt) vs G => ∃ v1 v2, vs = [v1, v2] ∧ StV K S i.1 v1 G ∧ Dp K G v2 (rD i.2) ∧ (i.1.ppl ++ i.1.ths).length ≤ 12 ∧ i.2.1 ∈ i.1.ppl ++ i.1.ths ∧ i.2.2.2 ∈ i.1.ppl ++ i.1.ths ∧ isW i.2.2.1 = true ∧ ∀ z ∈ i.1.ppl ++ i.1.ths, isW z = true) (fun _ => IsV .non)
section
variable {P : Program} {w : World} {K : PySem.W.Frag} {mg : Str → Option Value} {base : Heap} {S Po : Addr} (T : Tx K mg S Po)
include T
theorem ok_Stateparties : MFn P w K mg base 1 S "parties" ["self"] (sp_Stateparties K S) := by
  refine mfn_mk (N := ["self"]) T.f_Stateparties (fun F => F.bindsN fun _ _ _ _ _ _ us hl => match us, hl with | [_], _ => rfl) sc_State_parties (fun vs H Q E h => ?_) fun f cdv A outer s H vs Q E hr h => ?_
  · obtain ⟨n, G, sm, ⟨v, rfl, _⟩, _⟩ := h
    rfl
  · obtain ⟨i, G, sm, ⟨v, rfl, hv, hl⟩, q⟩ := h
    have hr0 := hr.mono (Nat.zero_le _)
    refine ⟨_, PSs.nox (pss_one (ps_ret (pe_callB (call_sort (enc := sD) flat_str rfl hr0) (by rfl) T.b_sorted (by decide +kernel) (pa_cons (pe_lst (StX.pa_star (pe_fld (pv 0) rfl) (StX.pa_star (pe_fld (pv 0) rfl) pa_nil))) pa_nil)))), ?_⟩
    have z := ev_lst (ead_star (ev_list (ev_people T (ev_var (i := 0) rfl hv))) (ead_star (ev_list (ev_things T (ev_var (i := 0) rfl hv))) (ead_nil (K := K) (σ := start ["self"] [v]) (G := G)))) (by rw [List.append_nil, List.length_append, List.length_map, List.length_map, ← List.length_append]; omega)
    rw [List.append_nil, ← List.map_append] at z
    exact run_ret (ev_sortL (ev_list z) (srt_s K (by omega))) sm q
theorem ok_check_state : Fn P w K mg base 1 "check_state" ["thing"] (sp_check_state K S) := by
  refine fn_mk (N := ["thing"]) T.f_check_state (fun F => F.bindsN fun _ _ _ _ _ _ us hl => match us, hl with | [_], _ => rfl) sc_check_state (fun vs H Q E h => ?_) fun f cdv A outer s H vs Q E hr h => ?_
  · obtain ⟨n, G, sm, ⟨v, rfl, _⟩, _⟩ := h
    rfl
  · obtain ⟨i, G, sm, ⟨v, rfl, fs, hv, hf⟩, q⟩ := h
    refine ⟨_, PSs.nox (pss_one (ps_if (pt_not (pt_val (pe_callB (C8.call_isC T.i_State) (by rfl) T.b_isinstance (by decide +kernel) (pa_cons (pv 0) (pa_cons (pe_glob (v := .ref S) (by rfl) T.g_State rfl) pa_nil)))))
    (pss_one ps_never) pss_nil)), ?_⟩
    exact run_guard (eb_notT (eb_T (ev_isiC (ev_var rfl hv)))) sm fun G2 H2 g2 => q _ G2 H2 g2 rfl
theorem ok_check_small : Fn P w K mg base 2 "check_small" ["thing"] (sp_check_small K S) := by
  obtain ⟨f_check_state, fd_check_state, G_check_state, m_check_state, k_check_state, b_check_state⟩ := (ok_check_state (P := P) (w := w) (base := base) T)
  obtain ⟨f_Stateparties, fd_Stateparties, G_Stateparties, M_Stateparties, b_Stateparties⟩ := (ok_Stateparties (P := P) (w := w) (base := base) T)
  obtain ⟨t1, k_MOST_ASKED⟩ := T.k_MOST_ASKED
  refine fn_mk (N := ["thing"]) T.f_check_small (fun F => F.bindsN fun _ _ _ _ _ _ us hl => match us, hl with | [_], _ => rfl) sc_check_small (fun vs H Q E h => ?_) fun f cdv A outer s H vs Q E hr h => ?_
  · obtain ⟨n, G, sm, ⟨v, rfl, _⟩, _⟩ := h
    rfl
  · obtain ⟨i, G, sm, ⟨v, rfl, hv, hl⟩, q⟩ := h
    refine ⟨_, PSs.nox (pss_cons (ps_expr (pe_call G_check_state (hr.mono (by decide)) (by rfl) m_check_state k_check_state b_check_state .nil pass0 (pa_cons (pv 0) pa_nil)))
    (pss_one (ps_if (pt_cmpR op_gt (pe_callB call_len_seq (by rfl) T.b_len (by decide +kernel) (pa_cons (pe_meth0 (pv 0) T.c_State M_Stateparties G_Stateparties (hr.mono (by decide)) b_Stateparties .nil pass0) pa_nil)) (pe_glob (v := .int 12) (by rfl) k_MOST_ASKED ⟨_, rfl⟩) (nomark _))
    (pss_one ps_never) pss_nil))), ?_⟩
    refine seq_do (ev_call i (ea1 (ev_var rfl hv) fun v G' _ e => ⟨v, rfl, e⟩)) sm fun _ G1 H1 g1 _ => ?_
    refine run_guard (eb_test (ev_is (b := decide (12 < ((i.ppl ++ i.ths).length : Int))) ((ev_int (i := (i.ppl ++ i.ths).length) (j := 12) ((ev_lenL (ds := (sortS (i.ppl ++ i.ths)).map sD) (ev_methS i (ev_var rfl (mon_st _ _ _ g1.gg hv)) ⟨by decide, by decide, by decide⟩ fun v G' _ e => ?_)).imp fun v _ _ e => ?_) (ev_c rfl))) (decide_eq_false (by omega)))) g1.sub fun G2 H2 g2 => q _ G2 H2 (g1.trans g2) rfl
    · exact fun H s Q k => k [] _ H (Gr.refl s) ⟨v, rfl, e, hl⟩
    · rw [show v = V.int (((sortS (i.ppl ++ i.ths)).map sD).length) from e, List.length_map, List.length_mergeSort]
theorem ok_check_right : Fn P w K mg base 3 "check_right" ["state", "right"] (sp_check_right K S) := by
  obtain ⟨f_is_right, fd_is_right, G_is_right, m_is_right, k_is_right, b_is_right⟩ := (ok_is_right (P := P) (w := w) (base := base) T)
  obtain ⟨f_Stateparties, fd_Stateparties, G_Stateparties, M_Stateparties, b_Stateparties⟩ := (ok_Stateparties (P := P) (w := w) (base := base) T)
  refine fn_mk (N := ["state", "right"]) T.f_check_right (fun F => F.bindsN fun _ _ _ _ _ _ us hl => match us, hl with | [_, _], _ => rfl) sc_check_right (fun vs H Q E h => ?_) fun f cdv A outer s H vs Q E hr h => ?_
  · obtain ⟨n, G, sm, ⟨v1, v2, rfl, _⟩, _⟩ := h
    rfl
  · obtain ⟨⟨i, r⟩, G, sm, ⟨v1, v2, rfl, hv, hr', hl, m1, m2, w1, w2⟩, q⟩ := h
    refine ⟨_, PSs.nox (pss_one (ps_if (pt_not (pt_val (pe_call G_is_right (hr.mono (by decide)) (by rfl) m_is_right k_is_right b_is_right .nil pass0 (pa_cons (pv 1) (pa_cons (pe_meth0 (pv 0) T.c_State M_Stateparties G_Stateparties (hr.mono (by decide)) b_Stateparties .nil pass0) pa_nil)))))
    (pss_one ps_never) pss_nil)), ?_⟩
    refine run_guard (eb_notT (eb_T (ev_call (r, sortS (i.ppl ++ i.ths)) (ea2 mon_dd mon_dd (ev_var rfl hr') (ev_methS i (ev_var rfl hv) ⟨by decide, by decide, by decide⟩ fun v G' _ e => fun H s Q k => k [] _ H (Gr.refl s) ⟨v, rfl, e, hl⟩) fun u1 u2 G' _ e1 e2 => ⟨u1, u2, rfl, e1, e2, ?_, ?_, w1, ?_⟩)))) sm fun G2 H2 g2 => q _ G2 H2 g2 rfl
    · exact List.mem_mergeSort.mpr m1
    · exact List.mem_mergeSort.mpr m2
    · exact fun z hz => w2 z (List.mem_mergeSort.mp hz)
end
end Hk

set_option Elab.async false
set_option linter.all false
set_option maxRecDepth 100000
set_option maxHeartbeats 1000000
/-! Rules: are they rules, plain ones. -/
namespace Hk
open PySem PySem.Spec PyProof.Rows L2
theorem sc_are_pairs : FnScope ["thing", "pair", "word"] ["thing"] (defScope s_are_pairs) := ⟨rfl, rfl, rfl, by decide +kernel, rfl, by decide +kernel, by decide +kernel⟩
theorem sc_are_words : FnScope ["thing", "word"] ["thing"] (defScope s_are_words) := ⟨rfl, rfl, rfl, by decide +kernel, rfl, by decide +kernel, by decide +kernel⟩
theorem sc_is_rule : FnScope ["thing", "word"] ["thing"] (defScope s_is_rule) := ⟨rfl, rfl, rfl, by decide +kernel, rfl, by decide +kernel, by decide +kernel⟩
theorem sc_plain_rule : FnScope ["rule"] ["rule"] (defScope s_plain_rule) := ⟨rfl, rfl, rfl, by decide +kernel, rfl, by decide +kernel, by decide +kernel⟩
inductive Rule where
  | fetch (w : Str) (ps : List (Str × Str))
  | hand (w : Str) (ps : List (Str × Str))
  | rais (a b : Str)
  | meet (a b c : Str)
  | make (ws : List Str)
def ruleD : Rule → PyData
  | .fetch w ps => .tuple [.str "fetch", .str w, .tuple (ps.map pD)]
  | .hand w ps => .tuple [.str "hand", .str w, .tuple (ps.map pD)]
  | .rais a b => .tuple [.str "raise", .str a, .str b]
  | .meet a b c => .tuple [.str "meet", .str a, .str b, .str c]
  | .make ws => .tuple [.str "make", .tuple (ws.map sD)]
def Rule.kind : Rule → Str
  | .fetch .. => "fetch" | .hand .. => "hand" | .rais .. => "raise" | .meet .. => "meet" | .make .. => "make"
structure PsOk (ps : List (Str × Str)) : Prop where
  nd : ps.Nodup
  lo : 1 ≤ ps.length
  hi : ps.length ≤ 9
  wd : ∀ p ∈ ps, isW p.1 = true ∧ isW p.2 = true
  up : Up pD ps
structure WsOk (ws : List Str) : Prop where
  nd : ws.Nodup
  lo : 1 ≤ ws.length
  hi : ws.length ≤ 9
  wd : ∀ p ∈ ws, isW p = true
  up : Up sD ws
def Rule.Ok : Rule → Prop
  | .fetch w ps => isW w = true ∧ PsOk ps
  | .hand w ps => isW w = true ∧ PsOk ps
  | .rais a b => isW a = true ∧ isW b = true
  | .meet a b c => isW a = true ∧ isW b = true ∧ isW c = true
  | .make ws => WsOk ws
def tp (p : Str × Str) : List Str := [p.1, p.2]
theorem tp_inj {a b : Str × Str} (h : tp a = tp b) : a = b := by
  obtain ⟨a1, a2⟩ := a
  obtain ⟨b1, b2⟩ := b
  simp [tp] at h
  obtain ⟨rfl, rfl⟩ := h
  rfl
theorem pD_tp (ps : List (Str × Str)) : (ps.map tp).map encT = ps.map pD := by rw [List.map_map]; rfl
theorem nodup_map_inj {α β : Type} {f : α → β} (inj : ∀ a b, f a = f b → a = b) : ∀ {l : List α}, l.Nodup → (l.map f).Nodup
  | [], _ => .nil
  | a :: l, h => by
    rw [List.nodup_cons] at h
    rw [List.map_cons, List.nodup_cons]
    refine ⟨fun z => ?_, nodup_map_inj inj h.2⟩
    obtain ⟨b, hb, e⟩ := List.mem_map.mp z
    rw [inj _ _ e] at hb
    exact h.1 hb
theorem srt_p (K : PySem.W.Frag) {l : List (Str × Str)} (h : l.length ≤ 9) : Srt K pD l :=
  ⟨PySem.W.AllAlike.of fun _ _ => rfl, PySem.W.Sortable.tuples fun _ => ⟨_, _, rfl⟩, fun b _ => by simp [pD, PyData.depth, PyData.depthAll], by omega⟩
theorem flat_encT : Flat encT := fun {X} {pins} {s} {σ} {H} {v} {u} {b} I h r => by
  exact (br_tup.is I h r).2
theorem flat_pair : Flat pD := fun {X} {pins} {s} {σ} {H} {v} {u} {b} I h r => flat_encT (b := tp b) I h r
theorem flat_right : Flat rD := fun {X} {pins} {s} {σ} {H} {v} {u} {b} I h r => flat_encT (b := tl b) I h r
def sp_are_pairs (K : PySem.W.Frag) : Sp := SpI (fun (ps : List (Str × Str)) vs G => ∃ v, vs = [v] ∧ Dp K G v (.tuple (ps.map pD)) ∧ PsOk ps) (fun _ => IsV (.bl true))
def sp_are_words (K : PySem.W.Frag) : Sp := SpI (fun (ws : List Str) vs G => ∃ v, vs = [v] ∧ Dp K G v (.tuple (ws.map sD)) ∧ WsOk ws) (fun _ => IsV (.bl true))
def sp_is_rule (K : PySem.W.Frag) : Sp := SpI (fun (r : Rule) vs G => ∃ v, vs = [v] ∧ Dp K G v (ruleD r) ∧ r.Ok) (fun _ => IsV (.bl true))
def sp_plain_rule (K : PySem.W.Frag) : Sp := SpI (fun (r : Rule) vs G => ∃ v, vs = [v] ∧ Dp K G v (ruleD r) ∧ r.Ok) (fun r => DD K (ruleD r))
section
variable {K : PySem.W.Frag} {σ : L2.St} {G H : Hp} {te : TE} {D : Ends} {tm : Str → TS} {z : Str}
theorem run_match (h : EvP te σ G (IsV (.str z))) (s : Same G H) (k : ∀ G2 H2, Gr G H G2 H2 → tm z D σ H2) : tMatch te tm D σ H :=
  h H s _ fun v G2 H2 g e => ⟨z, e, k G2 H2 g⟩
theorem tmc_yes {ws : List Str} {t : TS} {r : Str → TS} (h : ws.contains z = true) (k : t D σ H) : tmCons ws t r z D σ H := by
  unfold tmCons
  rw [if_pos h]
  exact k
theorem tmc_no {ws : List Str} {t : TS} {r : Str → TS} (h : ws.contains z = false) (k : r z D σ H) : tmCons ws t r z D σ H := by
  unfold tmCons
  rw [if_neg (by rw [h]; exact Bool.false_ne_true)]
  exact k
end
section
variable {P : Program} {w : World} {K : PySem.W.Frag} {mg : Str → Option Value} {base : Heap} {S Po : Addr} (T : Tx K mg S Po)
include T
theorem ok_are_pairs : Fn P w K mg base 2 "are_pairs" ["thing"] (sp_are_pairs K) := by
  obtain ⟨f_is_word, fd_is_word, G_is_word, m_is_word, k_is_word, b_is_word⟩ := (ok_is_word (P := P) (w := w) (base := base) T)
  obtain ⟨t1, k_MOST_PAIRS⟩ := T.k_MOST_PAIRS
  refine fn_mk (N := ["thing", "pair", "word"]) T.f_are_pairs (fun F => F.bindsN fun _ _ _ _ _ _ us hl => match us, hl with | [_], _ => rfl) sc_are_pairs (fun vs H Q E h => ?_) fun f cdv A outer s H vs Q E hr h => ?_
  · obtain ⟨n, G, sm, ⟨v, rfl, _⟩, _⟩ := h
    rfl
  · obtain ⟨ps, G, sm, ⟨v, rfl, hv, ok⟩, q⟩ := h
    have hr0 := hr.mono (Nat.zero_le _)
    have l1 := ok.lo
    have l2 := ok.hi
    refine ⟨_, PSs.nox (pss_cons (ps_if (PW.pt (pw_or (pt_not (pt_val (pe_callB call_isiT (by rfl) T.b_isinstance (by decide +kernel) (pa_cons (pv 0) (pa_cons (pe_tup (pa_cons (pe_bltn (v := .ty "list") (u := .type "list") (by rfl) T.b_list (by decide +kernel) rfl) (pa_cons (pe_bltn (v := .ty "tuple") (u := .type "tuple") (by rfl) T.b_tuple (by decide +kernel) rfl) pa_nil))) pa_nil))))) (pw_or1 (pt_not (pt_chain op_le op_le pe_int (pe_callB call_len_seq (by rfl) T.b_len (by decide +kernel) (pa_cons (pv 0) pa_nil)) (pe_glob (v := .int 9) (by rfl) k_MOST_PAIRS ⟨_, rfl⟩))))))
    (pss_one (ps_ret pe_bl)) pss_nil)
    (pss_cons (ps_for PassesOwn.never rfl (pi_tup (pv 0)) (pg_name (i := 1) sc_are_pairs.nd rfl (Or.inl rfl))
    (pss_one (ps_if (PW.pt (pw_or (pt_not (pt_val (pe_callB call_isi (by rfl) T.b_isinstance (by decide +kernel) (pa_cons (pv 1) (pa_cons (pe_bltn (v := .ty "tuple") (u := .type "tuple") (by rfl) T.b_tuple (by decide +kernel) rfl) pa_nil))))) (pw_or (pt_cmpR op_ne (pe_callB call_len_seq (by rfl) T.b_len (by decide +kernel) (pa_cons (pv 1) pa_nil)) pe_int (nomark _)) (pw_or1 (pt_not (pt_val (pe_callB (cr_all rfl) (by rfl) T.b_all (by decide +kernel) (pa_cons (pe_lc (own := [("word", 2)]) rfl sc_are_pairs.nd (pi_tup (pv 1)) (blkOk_by (own := [("word", 2)]) (N := ["thing", "pair", "word"]) (sc := defScope s_are_pairs) (by decide +kernel)) (fun _ _ _ _ _ => (pg_name (i := 2) sc_are_pairs.nd rfl (Or.inl rfl))) (fun _ _ _ _ _ => pts_nil) (fun _ _ _ _ _ => (pe_call G_is_word (hr.mono (by decide)) (by rfl) m_is_word k_is_word b_is_word .nil pass0 (pa_cons (pv 2) pa_nil)))) pa_nil))))))))
    (pss_one (ps_ret pe_bl)) pss_nil)))
    (pss_one (ps_ret (pe_cmpR op_eq (pe_lenSet tup_ok br_tup rfl hr0 (pv 0) (by rfl) T.b_set (by rfl) T.b_len) (pe_callB call_len_seq (by rfl) T.b_len (by decide +kernel) (pa_cons (pv 0) pa_nil)) (nomark _)))))), ?_⟩
    refine seq_guard (eb_orF (eb_notT (eb_T (ev_isi2 (ev_var rfl hv) kB_tuple_list kB_tuple_tuple))) (eb_notT (eb_T (ev_is (ev_chain (i := 1) (k := 9) (ev_c rfl) (ev_lenT (ev_var rfl hv)) (ev_c rfl)) ?_)))) sm fun G1 H1 g1 => ?_
    · rw [List.length_map, decide_eq_true (show (1 : Int) ≤ ps.length by omega), decide_eq_true (show (ps.length : Int) ≤ 9 by omega)]; rfl
    have hv1 := Dp.up g1.gg _ _ hv
    refine seq_for (src_tup (bs := ps) (enc := pD) (ev_var rfl hv1)) g1.sub fun G2 H2 g2 => ⟨fun _ σ' G' H' => Gr G H G' H' ∧ ∃ a b, σ' = [some v, a, b], ⟨g1.trans g2, _, _, rfl⟩, ?_, ?_⟩
    · rintro i b σ' G' H' hb s1 s2 ⟨gp, a1, a2, rfl⟩ x G3 H3 g3 ib
      have hw : ∀ z ∈ tp b, isW z = true := fun z hz => by
        have := ok.wd b (List.mem_of_getElem? hb)
        simp only [tp, List.mem_cons, List.mem_nil_iff, or_false] at hz
        rcases hz with rfl | rfl
        · exact this.1
        · exact this.2
      have ib' : Dp K G3 x (.tuple ((tp b).map sD)) := ib
      refine run_guard (σ := [some v, some x, a2]) (eb_orF (eb_notT (eb_T (ev_isi (ev_var rfl ib') kB_tuple_tuple))) (eb_orF (eb_test (ev_is (ev_neI (i := 2) (j := 2) (ev_lenT (ev_var rfl ib')) (ev_c rfl)) (by decide))) (eb_notT (eb_T (ev_allT (ev_lc1 (bs := tp b) (fun _ => .bool true) (src_tup (enc := sD) (ev_var rfl ib')) (by show 2 ≤ sizeLine; decide)
        fun z hz u G' s i => ⟨_, tgt_name, rfl, bl_dd (ev_call z (ea1 (ev_var rfl i) fun v G2 s2 e => ⟨by rw [dp_str e], hw z hz⟩))⟩)))))) g3.sub fun G4 H4 g4 => ?_
      exact ⟨G4, (s1.trans g3.gg).trans g4.gg, g4.sub, (gp.trans g3).trans g4, _, _, rfl⟩
    · rintro σ' G' H' s1 s2 ⟨gp, a1, a2, rfl⟩
      have hv2 := Dp.up gp.gg _ _ hv
      refine run_ret ((ev_eqI (i := (ps.length : Int)) (j := (ps.length : Int)) ((ev_lenSet (enc := encT) (bs := ps.map tp) (ev_tupl (by rw [pD_tp]; exact ev_var rfl hv2)) (nodup_map_inj (fun _ _ => tp_inj) ok.nd) (by rw [List.length_map]; omega)).imp fun v _ _ e => ?_) ((ev_lenT (ev_var rfl hv2)).imp fun v _ _ e => ?_)).imp fun v _ _ e => ?_) s2 fun v G3 H3 g3 => q v G3 H3 (gp.trans g3)
      · rw [show v = V.int ((ps.map tp).length) from e, List.length_map]
      · rw [show v = V.int ((ps.map pD).length) from e, List.length_map]
      · rw [show v = V.bl (decide ((ps.length : Int) = ps.length)) from e, decide_eq_true rfl]
theorem ok_are_words : Fn P w K mg base 2 "are_words" ["thing"] (sp_are_words K) := by
  obtain ⟨f_is_word, fd_is_word, G_is_word, m_is_word, k_is_word, b_is_word⟩ := (ok_is_word (P := P) (w := w) (base := base) T)
  obtain ⟨t1, k_MOST_PAIRS⟩ := T.k_MOST_PAIRS
  refine fn_mk (N := ["thing", "word"]) T.f_are_words (fun F => F.bindsN fun _ _ _ _ _ _ us hl => match us, hl with | [_], _ => rfl) sc_are_words (fun vs H Q E h => ?_) fun f cdv A outer s H vs Q E hr h => ?_
  · obtain ⟨n, G, sm, ⟨v, rfl, _⟩, _⟩ := h
    rfl
  · obtain ⟨ws, G, sm, ⟨v, rfl, hv, ok⟩, q⟩ := h
    have hr0 := hr.mono (Nat.zero_le _)
    have l1 := ok.lo
    have l2 := ok.hi
    refine ⟨_, PSs.nox (pss_cons (ps_if (PW.pt (pw_or (pt_not (pt_val (pe_callB call_isiT (by rfl) T.b_isinstance (by decide +kernel) (pa_cons (pv 0) (pa_cons (pe_tup (pa_cons (pe_bltn (v := .ty "list") (u := .type "list") (by rfl) T.b_list (by decide +kernel) rfl) (pa_cons (pe_bltn (v := .ty "tuple") (u := .type "tuple") (by rfl) T.b_tuple (by decide +kernel) rfl) pa_nil))) pa_nil))))) (pw_or1 (pt_not (pt_chain op_le op_le pe_int (pe_callB call_len_seq (by rfl) T.b_len (by decide +kernel) (pa_cons (pv 0) pa_nil)) (pe_glob (v := .int 9) (by rfl) k_MOST_PAIRS ⟨_, rfl⟩))))))
    (pss_one (ps_ret pe_bl)) pss_nil)
    (pss_one (ps_ret (pe_and (pe_callB (cr_all rfl) (by rfl) T.b_all (by decide +kernel) (pa_cons (pe_lc (own := [("word", 1)]) rfl sc_are_words.nd (pi_tup (pv 0)) (blkOk_by (own := [("word", 1)]) (N := ["thing", "word"]) (sc := defScope s_are_words) (by decide +kernel)) (fun _ _ _ _ _ => (pg_name (i := 1) sc_are_words.nd rfl (Or.inl rfl))) (fun _ _ _ _ _ => pts_nil) (fun _ _ _ _ _ => (pe_call G_is_word (hr.mono (by decide)) (by rfl) m_is_word k_is_word b_is_word .nil pass0 (pa_cons (pv 1) pa_nil)))) pa_nil)) (pe_one (pe_cmpR op_eq (pe_lenSet txt_ok br_txt rfl hr0 (pv 0) (by rfl) T.b_set (by rfl) T.b_len) (pe_callB call_len_seq (by rfl) T.b_len (by decide +kernel) (pa_cons (pv 0) pa_nil)) (nomark _))))))), ?_⟩
    refine seq_guard (eb_orF (eb_notT (eb_T (ev_isi2 (ev_var rfl hv) kB_tuple_list kB_tuple_tuple))) (eb_notT (eb_T (ev_is (ev_chain (i := 1) (k := 9) (ev_c rfl) (ev_lenT (ev_var rfl hv)) (ev_c rfl)) ?_)))) sm fun G1 H1 g1 => ?_
    · rw [List.length_map, decide_eq_true (show (1 : Int) ≤ ws.length by omega), decide_eq_true (show (ws.length : Int) ≤ 9 by omega)]; rfl
    have hv1 := Dp.up g1.gg _ _ hv
    refine run_ret (ev_andT (ev_allT (ev_lc1 (bs := ws) (fun _ => .bool true) (src_tup (enc := sD) (ev_var rfl hv1)) (sz64 (by omega))
        fun z hz u G' s i => ⟨_, tgt_name, rfl, bl_dd (ev_call z (ea1 (ev_var rfl i) fun v G2 s2 e => ⟨by rw [dp_str e], ok.wd z hz⟩))⟩))
      ((ev_eqI (i := (ws.length : Int)) (j := (ws.length : Int)) (ev_lenSet (enc := PyData.str) (bs := ws) (ev_tupl (ev_var rfl hv1)) ok.nd (by omega)) ((ev_lenT (ev_var rfl hv1)).imp fun v _ _ e => ?_)).imp fun v _ _ e => ?_)) g1.sub fun v G3 H3 g3 => q v G3 H3 (g1.trans g3)
    · rw [show v = V.int ((ws.map sD).length) from e, List.length_map]
    · rw [show v = V.bl (decide ((ws.length : Int) = ws.length)) from e, decide_eq_true rfl]
theorem ok_is_rule : Fn P w K mg base 3 "is_rule" ["thing"] (sp_is_rule K) := by
  obtain ⟨f_is_word, fd_is_word, G_is_word, m_is_word, k_is_word, b_is_word⟩ := (ok_is_word (P := P) (w := w) (base := base) T)
  obtain ⟨f_are_pairs, fd_are_pairs, G_are_pairs, m_are_pairs, k_are_pairs, b_are_pairs⟩ := (ok_are_pairs (P := P) (w := w) (base := base) T)
  obtain ⟨f_are_words, fd_are_words, G_are_words, m_are_words, k_are_words, b_are_words⟩ := (ok_are_words (P := P) (w := w) (base := base) T)
  refine fn_mk (N := ["thing", "word"]) T.f_is_rule (fun F => F.bindsN fun _ _ _ _ _ _ us hl => match us, hl with | [_], _ => rfl) sc_is_rule (fun vs H Q E h => ?_) fun f cdv A outer s H vs Q E hr h => ?_
  · obtain ⟨n, G, sm, ⟨v, rfl, _⟩, _⟩ := h
    rfl
  · obtain ⟨r, G, sm, ⟨v, rfl, hv, ok⟩, q⟩ := h
    refine ⟨_, PSs.nox (pss_cons (ps_if (PW.pt (pw_or (pt_not (pt_val (pe_callB call_isi (by rfl) T.b_isinstance (by decide +kernel) (pa_cons (pv 0) (pa_cons (pe_bltn (v := .ty "tuple") (u := .type "tuple") (by rfl) T.b_tuple (by decide +kernel) rfl) pa_nil))))) (pw_or1 (pt_cmpR op_lt (pe_callB call_len_seq (by rfl) T.b_len (by decide +kernel) (pa_cons (pv 0) pa_nil)) pe_int (nomark _)))))
    (pss_one (ps_ret pe_bl)) pss_nil)
    (pss_cons (ps_match (pe_ix ix_tup (pv 0) pe_int (fun _ _ => rfl))
    (pmc_cons (pm_or (pms_cons pm_val (pms_cons pm_val pms_nil)))
    (pss_one (ps_ret (pe_and (pe_cmpR op_eq (pe_callB call_len_seq (by rfl) T.b_len (by decide +kernel) (pa_cons (pv 0) pa_nil)) pe_int (nomark _)) (pe_and (pe_call G_is_word (hr.mono (by decide)) (by rfl) m_is_word k_is_word b_is_word .nil pass0 (pa_cons (pe_ix ix_tup (pv 0) pe_int (fun _ _ => rfl)) pa_nil)) (pe_one (pe_call G_are_pairs (hr.mono (by decide)) (by rfl) m_are_pairs k_are_pairs b_are_pairs .nil pass0 (pa_cons (pe_ix ix_tup (pv 0) pe_int (fun _ _ => rfl)) pa_nil)))))))
    (pmc_cons pm_val
    (pss_one (ps_ret (pe_and (pe_cmpR op_eq (pe_callB call_len_seq (by rfl) T.b_len (by decide +kernel) (pa_cons (pv 0) pa_nil)) pe_int (nomark _)) (pe_and (pe_call G_is_word (hr.mono (by decide)) (by rfl) m_is_word k_is_word b_is_word .nil pass0 (pa_cons (pe_ix ix_tup (pv 0) pe_int (fun _ _ => rfl)) pa_nil)) (pe_one (pe_call G_is_word (hr.mono (by decide)) (by rfl) m_is_word k_is_word b_is_word .nil pass0 (pa_cons (pe_ix ix_tup (pv 0) pe_int (fun _ _ => rfl)) pa_nil)))))))
    (pmc_cons pm_val
    (pss_one (ps_ret (pe_and (pe_cmpR op_eq (pe_callB call_len_seq (by rfl) T.b_len (by decide +kernel) (pa_cons (pv 0) pa_nil)) pe_int (nomark _)) (pe_one (pe_callB (cr_all rfl) (by rfl) T.b_all (by decide +kernel) (pa_cons (pe_lc (own := [("word", 1)]) rfl sc_is_rule.nd (pi_tup (pe_slice sl_tup (pv 0) (po_some pe_int) po_none)) (blkOk_by (own := [("word", 1)]) (N := ["thing", "word"]) (sc := defScope s_is_rule) (by decide +kernel)) (fun _ _ _ _ _ => (pg_name (i := 1) sc_is_rule.nd rfl (Or.inl rfl))) (fun _ _ _ _ _ => pts_nil) (fun _ _ _ _ _ => (pe_call G_is_word (hr.mono (by decide)) (by rfl) m_is_word k_is_word b_is_word .nil pass0 (pa_cons (pv 1) pa_nil)))) pa_nil))))))
    (pmc_cons pm_val
    (pss_one (ps_ret (pe_and (pe_cmpR op_eq (pe_callB call_len_seq (by rfl) T.b_len (by decide +kernel) (pa_cons (pv 0) pa_nil)) pe_int (nomark _)) (pe_one (pe_call G_are_words (hr.mono (by decide)) (by rfl) m_are_words k_are_words b_are_words .nil pass0 (pa_cons (pe_ix ix_tup (pv 0) pe_int (fun _ _ => rfl)) pa_nil))))))
    pmc_nil)))))
    (pss_one (ps_ret pe_bl)))), ?_⟩
    cases r with
    | fetch wd ps =>
      have hv : Dp K G v (.tuple [.str "fetch", .str wd, .tuple (ps.map pD)]) := hv
      refine seq_guard (eb_orF (eb_notT (eb_T (ev_isi (ev_var rfl hv) kB_tuple_tuple))) (eb_test (ev_is (ev_int (ev_lenT (ev_var rfl hv)) (ev_c rfl)) rfl))) sm fun G1 H1 g1 => ?_
      have hv1 := Dp.up g1.gg _ _ hv
      refine seq_match (dd_str (ev_ixT (ev_var rfl hv1) (ev_c rfl) rfl)) g1.sub fun G2 H2 g2 => ?_
      have hv2 := Dp.up g2.gg _ _ hv1
      exact tmc_yes (by decide) (run_ret (ev_andT (ev_is (ev_eqI (ev_lenT (ev_var rfl hv2)) (ev_c rfl)) rfl) (ev_andT (ev_call wd (ea1 (ev_ixT (ev_var rfl hv2) (ev_c rfl) rfl) fun v G' _ e => ⟨by rw [dp_str e], ok.1⟩)) (ev_call ps (ea1 (ev_ixT (ev_var rfl hv2) (ev_c rfl) rfl) fun v G' _ e => ⟨v, rfl, e, ok.2⟩)))) g2.sub fun v G3 H3 g3 => q v G3 H3 ((g1.trans g2).trans g3))
    | hand wd ps =>
      have hv : Dp K G v (.tuple [.str "hand", .str wd, .tuple (ps.map pD)]) := hv
      refine seq_guard (eb_orF (eb_notT (eb_T (ev_isi (ev_var rfl hv) kB_tuple_tuple))) (eb_test (ev_is (ev_int (ev_lenT (ev_var rfl hv)) (ev_c rfl)) rfl))) sm fun G1 H1 g1 => ?_
      have hv1 := Dp.up g1.gg _ _ hv
      refine seq_match (dd_str (ev_ixT (ev_var rfl hv1) (ev_c rfl) rfl)) g1.sub fun G2 H2 g2 => ?_
      have hv2 := Dp.up g2.gg _ _ hv1
      exact tmc_yes (by decide) (run_ret (ev_andT (ev_is (ev_eqI (ev_lenT (ev_var rfl hv2)) (ev_c rfl)) rfl) (ev_andT (ev_call wd (ea1 (ev_ixT (ev_var rfl hv2) (ev_c rfl) rfl) fun v G' _ e => ⟨by rw [dp_str e], ok.1⟩)) (ev_call ps (ea1 (ev_ixT (ev_var rfl hv2) (ev_c rfl) rfl) fun v G' _ e => ⟨v, rfl, e, ok.2⟩)))) g2.sub fun v G3 H3 g3 => q v G3 H3 ((g1.trans g2).trans g3))
    | rais a b =>
      have hv : Dp K G v (.tuple [.str "raise", .str a, .str b]) := hv
      refine seq_guard (eb_orF (eb_notT (eb_T (ev_isi (ev_var rfl hv) kB_tuple_tuple))) (eb_test (ev_is (ev_int (ev_lenT (ev_var rfl hv)) (ev_c rfl)) rfl))) sm fun G1 H1 g1 => ?_
      have hv1 := Dp.up g1.gg _ _ hv
      refine seq_match (dd_str (ev_ixT (ev_var rfl hv1) (ev_c rfl) rfl)) g1.sub fun G2 H2 g2 => ?_
      have hv2 := Dp.up g2.gg _ _ hv1
      exact tmc_no (by decide) (tmc_yes (by decide) (run_ret (ev_andT (ev_is (ev_eqI (ev_lenT (ev_var rfl hv2)) (ev_c rfl)) rfl) (ev_andT (ev_call a (ea1 (ev_ixT (ev_var rfl hv2) (ev_c rfl) rfl) fun v G' _ e => ⟨by rw [dp_str e], ok.1⟩)) (ev_call b (ea1 (ev_ixT (ev_var rfl hv2) (ev_c rfl) rfl) fun v G' _ e => ⟨by rw [dp_str e], ok.2⟩)))) g2.sub fun v G3 H3 g3 => q v G3 H3 ((g1.trans g2).trans g3)))
    | meet a b c =>
      have hv : Dp K G v (.tuple [.str "meet", .str a, .str b, .str c]) := hv
      refine seq_guard (eb_orF (eb_notT (eb_T (ev_isi (ev_var rfl hv) kB_tuple_tuple))) (eb_test (ev_is (ev_int (ev_lenT (ev_var rfl hv)) (ev_c rfl)) rfl))) sm fun G1 H1 g1 => ?_
      have hv1 := Dp.up g1.gg _ _ hv
      refine seq_match (dd_str (ev_ixT (ev_var rfl hv1) (ev_c rfl) rfl)) g1.sub fun G2 H2 g2 => ?_
      have hv2 := Dp.up g2.gg _ _ hv1
      have hw : ∀ z ∈ [a, b, c], isW z = true := fun z hz => by
        simp only [List.mem_cons, List.mem_nil_iff, or_false] at hz
        rcases hz with rfl | rfl | rfl
        · exact ok.1
        · exact ok.2.1
        · exact ok.2.2
      exact tmc_no (by decide) (tmc_no (by decide) (tmc_yes (by decide) (run_ret (ev_andT (ev_is (ev_eqI (ev_lenT (ev_var rfl hv2)) (ev_c rfl)) rfl) (ev_allT (ev_lc1 (bs := [a, b, c]) (fun _ => .bool true) (src_tup (enc := sD) (ev_dropT (n := 1) (ev_var rfl hv2) (by decide) (by show 1 ≤ 4; decide))) (by show 3 ≤ sizeLine; decide)
        fun z hz u G' s i => ⟨_, tgt_name, rfl, bl_dd (ev_call z (ea1 (ev_var rfl i) fun v G2 s2 e => ⟨by rw [dp_str e], hw z hz⟩))⟩))) g2.sub fun v G3 H3 g3 => q v G3 H3 ((g1.trans g2).trans g3))))
    | make ws =>
      have hv : Dp K G v (.tuple [.str "make", .tuple (ws.map sD)]) := hv
      refine seq_guard (eb_orF (eb_notT (eb_T (ev_isi (ev_var rfl hv) kB_tuple_tuple))) (eb_test (ev_is (ev_int (ev_lenT (ev_var rfl hv)) (ev_c rfl)) rfl))) sm fun G1 H1 g1 => ?_
      have hv1 := Dp.up g1.gg _ _ hv
      refine seq_match (dd_str (ev_ixT (ev_var rfl hv1) (ev_c rfl) rfl)) g1.sub fun G2 H2 g2 => ?_
      have hv2 := Dp.up g2.gg _ _ hv1
      exact tmc_no (by decide) (tmc_no (by decide) (tmc_no (by decide) (tmc_yes (by decide) (run_ret (ev_andT (ev_is (ev_eqI (ev_lenT (ev_var rfl hv2)) (ev_c rfl)) rfl) (ev_call ws (ea1 (ev_ixT (ev_var rfl hv2) (ev_c rfl) rfl) fun v G' _ e => ⟨v, rfl, e, ok⟩))) g2.sub fun v G3 H3 g3 => q v G3 H3 ((g1.trans g2).trans g3)))))
theorem ok_plain_rule : Fn P w K mg base 1 "plain_rule" ["rule"] (sp_plain_rule K) := by
  refine fn_mk (N := ["rule"]) T.f_plain_rule (fun F => F.bindsN fun _ _ _ _ _ _ us hl => match us, hl with | [_], _ => rfl) sc_plain_rule (fun vs H Q E h => ?_) fun f cdv A outer s H vs Q E hr h => ?_
  · obtain ⟨n, G, sm, ⟨v, rfl, _⟩, _⟩ := h
    rfl
  · obtain ⟨r, G, sm, ⟨v, rfl, hv, ok⟩, q⟩ := h
    have hr0 := hr.mono (Nat.zero_le _)
    refine ⟨_, PSs.nox (pss_cons (ps_if (pt_cmpR op_in_seq (pe_ix ix_tup (pv 0) pe_int (fun _ _ => rfl)) (pe_tup (pa_cons pe_str (pa_cons pe_str pa_nil))) rfl)
    (pss_one (ps_ret (pe_tup (pa_cons (pe_ix ix_tup (pv 0) pe_int (fun _ _ => rfl)) (pa_cons (pe_ix ix_tup (pv 0) pe_int (fun _ _ => rfl)) (pa_cons (pe_callTy call_tuple_of (by rfl) T.b_tuple (by decide +kernel) (pa_cons (pe_callB (call_sort (enc := pD) flat_pair rfl hr0) (by rfl) T.b_sorted (by decide +kernel) (pa_cons (pe_ix ix_tup (pv 0) pe_int (fun _ _ => rfl)) pa_nil)) pa_nil)) pa_nil)))))) pss_nil)
    (pss_cons (ps_if (pt_cmpR op_eq (pe_ix ix_tup (pv 0) pe_int (fun _ _ => rfl)) pe_str (nomark _))
    (pss_one (ps_ret (pe_tup (pa_cons pe_str (pa_cons (pe_callTy call_tuple_of (by rfl) T.b_tuple (by decide +kernel) (pa_cons (pe_callB (call_sort (enc := sD) flat_str rfl hr0) (by rfl) T.b_sorted (by decide +kernel) (pa_cons (pe_ix ix_tup (pv 0) pe_int (fun _ _ => rfl)) pa_nil)) pa_nil)) pa_nil))))) pss_nil)
    (pss_one (ps_ret (pv 0))))), ?_⟩
    cases r with
    | fetch wd ps =>
      have hv : Dp K G v (.tuple [.str "fetch", .str wd, .tuple (ps.map pD)]) := hv
      refine seq_ifT (eb_test (ev_is (ev_in2 (dd_str (ev_ixT (ev_var rfl hv) (ev_c rfl) rfl))) (by decide))) sm fun G1 H1 g1 => ?_
      have hv1 := Dp.up g1.gg _ _ hv
      have z := ev_tupOfL (ev_sortL (enc := pD) (bs := ps) (ev_tupl (ev_ixT (ev_var (i := 0) (σ := start ["rule"] [v]) rfl hv1) (ev_c (v := .int 2) (P := IsV (.int 2)) rfl) rfl)) (srt_p K ok.2.hi))
      rw [List.mergeSort_of_pairwise ok.2.up] at z
      exact run_ret (ev_tup (ead_cons (ev_ixT (ev_var rfl hv1) (ev_c rfl) rfl) (ead_cons (ev_ixT (ev_var rfl hv1) (ev_c rfl) rfl) (ead_cons z ead_nil))) (by show 3 ≤ 1000; decide)) g1.sub fun v G3 H3 g3 => q v G3 H3 (g1.trans g3)
    | hand wd ps =>
      have hv : Dp K G v (.tuple [.str "hand", .str wd, .tuple (ps.map pD)]) := hv
      refine seq_ifT (eb_test (ev_is (ev_in2 (dd_str (ev_ixT (ev_var rfl hv) (ev_c rfl) rfl))) (by decide))) sm fun G1 H1 g1 => ?_
      have hv1 := Dp.up g1.gg _ _ hv
      have z := ev_tupOfL (ev_sortL (enc := pD) (bs := ps) (ev_tupl (ev_ixT (ev_var (i := 0) (σ := start ["rule"] [v]) rfl hv1) (ev_c (v := .int 2) (P := IsV (.int 2)) rfl) rfl)) (srt_p K ok.2.hi))
      rw [List.mergeSort_of_pairwise ok.2.up] at z
      exact run_ret (ev_tup (ead_cons (ev_ixT (ev_var rfl hv1) (ev_c rfl) rfl) (ead_cons (ev_ixT (ev_var rfl hv1) (ev_c rfl) rfl) (ead_cons z ead_nil))) (by show 3 ≤ 1000; decide)) g1.sub fun v G3 H3 g3 => q v G3 H3 (g1.trans g3)
    | rais a b =>
      have hv : Dp K G v (.tuple [.str "raise", .str a, .str b]) := hv
      refine seq_guard (eb_test (ev_is (ev_in2 (dd_str (ev_ixT (ev_var rfl hv) (ev_c rfl) rfl))) (by decide))) sm fun G1 H1 g1 => ?_
      have hv1 := Dp.up g1.gg _ _ hv
      refine seq_guard (eb_test (ev_is (ev_eqS (dd_str (ev_ixT (ev_var rfl hv1) (ev_c rfl) rfl)) (ev_c rfl)) (by decide))) g1.sub fun G2 H2 g2 => ?_
      exact run_ret (ev_var rfl (Dp.up g2.gg _ _ hv1)) g2.sub fun v G3 H3 g3 => q v G3 H3 ((g1.trans g2).trans g3)
    | meet a b c =>
      have hv : Dp K G v (.tuple [.str "meet", .str a, .str b, .str c]) := hv
      refine seq_guard (eb_test (ev_is (ev_in2 (dd_str (ev_ixT (ev_var rfl hv) (ev_c rfl) rfl))) (by decide))) sm fun G1 H1 g1 => ?_
      have hv1 := Dp.up g1.gg _ _ hv
      refine seq_guard (eb_test (ev_is (ev_eqS (dd_str (ev_ixT (ev_var rfl hv1) (ev_c rfl) rfl)) (ev_c rfl)) (by decide))) g1.sub fun G2 H2 g2 => ?_
      exact run_ret (ev_var rfl (Dp.up g2.gg _ _ hv1)) g2.sub fun v G3 H3 g3 => q v G3 H3 ((g1.trans g2).trans g3)
    | make ws =>
      have hv : Dp K G v (.tuple [.str "make", .tuple (ws.map sD)]) := hv
      refine seq_guard (eb_test (ev_is (ev_in2 (dd_str (ev_ixT (ev_var rfl hv) (ev_c rfl) rfl))) (by decide))) sm fun G1 H1 g1 => ?_
      have hv1 := Dp.up g1.gg _ _ hv
      refine seq_ifT (eb_test (ev_is (ev_eqS (dd_str (ev_ixT (ev_var rfl hv1) (ev_c rfl) rfl)) (ev_c rfl)) (by decide))) g1.sub fun G2 H2 g2 => ?_
      have hv2 := Dp.up g2.gg _ _ hv1
      have z := ev_tupOfL (ev_sortL (enc := sD) (bs := ws) (ev_tupl (ev_ixT (ev_var (i := 0) (σ := start ["rule"] [v]) rfl hv2) (ev_c (v := .int 1) (P := IsV (.int 1)) rfl) rfl)) (srt_s K (Nat.le_trans ok.hi (by decide))))
      rw [List.mergeSort_of_pairwise ok.up] at z
      exact run_ret (ev_tup (ead_cons (str_dd (ev_c rfl)) (ead_cons z ead_nil)) (by show 2 ≤ 1000; decide)) g2.sub fun v G3 H3 g3 => q v G3 H3 ((g1.trans g2).trans g3)
end
end Hk

set_option Elab.async false
set_option linter.all false
set_option maxRecDepth 100000
set_option maxHeartbeats 1000000
/-! Policy: made, what it makes, checked. -/
namespace Hk
open PySem PySem.Spec PyProof.Rows L2
theorem sc_Policy___init : FnScope ["self", "rules", "number", "rule", "one"] ["self", "rules"] (defScope s_Policy__init__) := ⟨rfl, rfl, rfl, by decide +kernel, rfl, by decide +kernel, by decide +kernel⟩
theorem sc_Policy_made : FnScope ["self", "found", "rule"] ["self"] (defScope s_Policymade) := ⟨rfl, rfl, rfl, by decide +kernel, rfl, by decide +kernel, by decide +kernel⟩
theorem sc_check_policy : FnScope ["thing"] ["thing"] (defScope s_check_policy) := ⟨rfl, rfl, rfl, by decide +kernel, rfl, by decide +kernel, by decide +kernel⟩
/-! ### data that can be compared -/
theorem lay_all : ∀ {ds : List PyData}, (∀ d ∈ ds, d.canLay0 = true) → PyData.canLayAll0 ds = true
  | [], _ => rfl
  | d :: ds, h => by
    rw [PyData.canLayAll0, h d (List.mem_cons_self ..), lay_all fun x hx => h x (List.mem_cons_of_mem _ hx)]
    rfl
theorem dep_all {n : Nat} : ∀ {ds : List PyData}, (∀ d ∈ ds, d.depth ≤ n) → PyData.depthAll ds ≤ n
  | [], _ => Nat.zero_le _
  | d :: ds, h => by
    rw [PyData.depthAll]
    exact Nat.max_le.mpr ⟨h d (List.mem_cons_self ..), dep_all fun x hx => h x (List.mem_cons_of_mem _ hx)⟩
/-- may be compared, no deeper than n -/
structure Cm (n : Nat) (d : PyData) : Prop where
  lay : d.canLay0 = true
  dep : d.depth ≤ n
theorem Cm.mono {n m : Nat} {d : PyData} (h : Cm n d) (l : n ≤ m) : Cm m d := ⟨h.lay, Nat.le_trans h.dep l⟩
theorem Cm.list {n : Nat} {ds : List PyData} (h : ∀ d ∈ ds, Cm n d) : Cm (n + 1) (.list ds) :=
  ⟨by rw [PyData.canLay0]; exact lay_all fun d hd => (h d hd).lay, by rw [PyData.depth]; exact Nat.succ_le_succ (dep_all fun d hd => (h d hd).dep)⟩
theorem Cm.tuple {n : Nat} {ds : List PyData} (h : ∀ d ∈ ds, Cm n d) : Cm (n + 1) (.tuple ds) :=
  ⟨by rw [PyData.canLay0]; exact lay_all fun d hd => (h d hd).lay, by rw [PyData.depth]; exact Nat.succ_le_succ (dep_all fun d hd => (h d hd).dep)⟩
theorem Cm.ok {n : Nat} {d : PyData} (h : Cm n d) (l : n ≤ 64) : SeqAt.shaped d = true := by
  unfold SeqAt.shaped
  rw [h.lay, Bool.true_and]
  exact decide_eq_true (Nat.le_trans h.dep l)
/-- a text of our signs: small letters and + -/
def okT (z : Str) : Prop := ∀ c ∈ z.cps.toList, c < 128
theorem cm_str {z : Str} (h : okT z) : Cm 0 (.str z) := by
  refine ⟨?_, Nat.le_refl _⟩
  rw [PyData.canLay0]
  unfold PyData.strOk
  rw [Array.all_eq_true']
  intro c hc
  have := h c (Array.mem_toList_iff.mpr hc)
  exact decide_eq_true (by omega)
theorem okT_isW {z : Str} (h : isW z = true) : okT z := fun c hc => by
  unfold isW at h
  rw [Bool.and_eq_true, List.all_eq_true] at h
  have h2 := of_decide_eq_true (h.2 c hc)
  exact (by decide : ∀ c ∈ ("abcdefghijklmnopqrstuvwxyz" : Str).cps.toList, c < 128) c h2
theorem cm_int {i : Int} : Cm 0 (.int i) := ⟨rfl, Nat.le_refl _⟩
theorem cm_right {r : Rt} (h1 : okT r.1) (h2 : okT r.2.1) (h3 : okT r.2.2) : Cm 1 (rD r) := Cm.tuple fun d hd => by
  simp only [List.mem_cons, List.mem_nil_iff, or_false] at hd
  rcases hd with rfl | rfl | rfl
  · exact cm_str h1
  · exact cm_str h2
  · exact cm_str h3
theorem eqv_nil (l : List PyData) : PyData.eqv (.list l) (.list []) = l.isEmpty := by
  cases l <;> simp [PyData.eqv, PyData.eqvAll]
/-! ### policies -/
def madeOf : List Rule → Option (List Str)
  | [] => none
  | .make ws :: _ => some ws
  | _ :: l => madeOf l
def optD : Option (List Str) → PyData
  | none => .none
  | some ws => .tuple (ws.map sD)
def madeD : Rule → PyData
  | .make ws => .tuple (ws.map sD)
  | _ => .none
structure PolOk (rs : List Rule) : Prop where
  len : rs.length ≤ 12
  ok : ∀ r ∈ rs, r.Ok
  one : ∀ i r, rs[i]? = some r → r.kind = ("make" : Str) → ("make" : Str) ∉ (rs.take i).map Rule.kind
/-- a policy -/
def PoV (K : PySem.W.Frag) (Po : Addr) (rs : List Rule) : VP := fun v G => ∃ t, Ins Po [(("rules" : Str), t)] v G ∧ Dp K G t (.tuple (rs.map ruleD))
theorem mon_po {K : PySem.W.Frag} {Po : Addr} {rs : List Rule} : Mon (PoV K Po rs) := fun v _ _ s ⟨t, h1, h2⟩ => ⟨t, mon_ins _ _ _ s h1, Dp.up s _ _ h2⟩
def PoPost (K : PySem.W.Frag) (rs : List Rule) (fs : List (Str × V)) (G : Hp) : Prop := ∃ t, fs = [(("rules" : Str), t)] ∧ Dp K G t (.tuple (rs.map ruleD))
def sp_Policyinit (K : PySem.W.Frag) (C : Addr) : Sp := SpN C (fun (rs : List Rule) ws G => ∃ a, ws = [a] ∧ Dp K G a (.list (rs.map ruleD)) ∧ PolOk rs) (PoPost K)
section
variable {K : PySem.W.Frag} {mg : Str → Option Value} {S Po : Addr} {σ : L2.St} {G : Hp} {ta : TE} {rs : List Rule}
theorem ev_rules (T : Tx K mg S Po) (h : EvP ta σ G (PoV K Po rs)) : EvP (tFld K ta "rules") σ G (DD K (.tuple (rs.map ruleD))) := fun H s Q q =>
  h H s _ fun v G1 H1 g1 ⟨t, ⟨a, dx, e, hi⟩, h1⟩ => ⟨a, Po, dx, _, t, e, g1.sub _ _ hi, T.c_Policy, T.n_rules, rfl, q _ G1 H1 g1 h1⟩
theorem ruleD_kind (r : Rule) : ∃ ds, ruleD r = .tuple (.str r.kind :: ds) := by
  cases r <;> exact ⟨_, rfl⟩
theorem ev_kind {r : Rule} (h : EvP ta σ G (DD K (ruleD r))) : EvP (tOp (rIxT K) ta (tC (.int 0))) σ G (IsV (.str r.kind)) := by
  obtain ⟨ds, e⟩ := ruleD_kind r
  rw [e] at h
  exact dd_str (ev_ixT h (ev_c rfl) (atI_nat (j := 0) rfl))
end
section
variable {P : Program} {w : World} {K : PySem.W.Frag} {mg : Str → Option Value} {base : Heap} {S Po : Addr} (T : Tx K mg S Po)
include T
theorem ok_Policyinit : ∃ f fd, FnOk P w K mg base CX0 4 f fd ["self", "rules"] (sp_Policyinit K Po) ∧ Mk K Po f ∧ Binds K fd ["self", "rules"] [] := by
  obtain ⟨f_is_rule, fd_is_rule, G_is_rule, m_is_rule, k_is_rule, b_is_rule⟩ := (ok_is_rule (P := P) (w := w) (base := base) T)
  obtain ⟨f_plain_rule, fd_plain_rule, G_plain_rule, m_plain_rule, k_plain_rule, b_plain_rule⟩ := (ok_plain_rule (P := P) (w := w) (base := base) T)
  obtain ⟨t1, k_MOST_RULES⟩ := T.k_MOST_RULES
  obtain ⟨f, fd, M, F⟩ := T.mk_Policy
  have hb : Binds K fd ["self", "rules"] [] := F.bindsN fun _ _ _ _ _ _ us hl => match us, hl with | [_, _], _ => rfl
  refine ⟨f, fd, F.ok (N := ["self", "rules", "number", "rule", "one"]) sc_Policy___init (fun vs H Q E h => ?_) (fun cdv A outer s H vs Q E hr h => ?_), M, hb⟩
  · obtain ⟨i, G, H0, x, dx, ws, rfl, _, _, _, ⟨a, rfl, _⟩, _⟩ := h
    rfl
  · obtain ⟨rs, G, H0, x, dx, ws, rfl, rfl, h0, sm0, ⟨a, rfl, ha, ok⟩, q⟩ := h
    have hl := ok.len
    refine ⟨_, PSs.nox (pss_cons (ps_if (PW.pt (pw_or (pt_not (pt_val (pe_callB call_isiT (by rfl) T.b_isinstance (by decide +kernel) (pa_cons (pv 1) (pa_cons (pe_tup (pa_cons (pe_bltn (v := .ty "list") (u := .type "list") (by rfl) T.b_list (by decide +kernel) rfl) (pa_cons (pe_bltn (v := .ty "tuple") (u := .type "tuple") (by rfl) T.b_tuple (by decide +kernel) rfl) pa_nil))) pa_nil))))) (pw_or1 (pt_cmpR op_gt (pe_callB call_len_seq (by rfl) T.b_len (by decide +kernel) (pa_cons (pv 1) pa_nil)) (pe_glob (v := .int 12) (by rfl) k_MOST_RULES ⟨_, rfl⟩) (nomark _)))))
    (pss_one ps_never) pss_nil)
    (pss_cons (ps_for PassesOwn.never rfl (pi_enum (by rfl) T.b_enumerate (pa_cons (pv 1) pa_nil)) (pg_tup rfl (pgs_cons (pg_name (i := 2) sc_Policy___init.nd rfl (Or.inl rfl)) (pgs_cons (pg_name (i := 3) sc_Policy___init.nd rfl (Or.inl rfl)) pgs_nil)))
    (pss_one (ps_if (PW.pt (pw_or (pt_not (pt_val (pe_call G_is_rule (hr.mono (by decide)) (by rfl) m_is_rule k_is_rule b_is_rule .nil pass0 (pa_cons (pv 3) pa_nil)))) (pw_or1 (PW.pt (pw_and (pt_cmpR op_eq (pe_ix ix_tup (pv 3) pe_int (fun _ _ => rfl)) pe_str (nomark _)) (pw_and1 (pt_cmpR op_in_seq pe_str (pe_lc (own := [("one", 4)]) rfl sc_Policy___init.nd (pi_list (pe_slice sl_list (pv 1) po_none (po_some (pv 2)))) (blkOk_by (own := [("one", 4)]) (N := ["self", "rules", "number", "rule", "one"]) (sc := defScope s_Policy__init__) (by decide +kernel)) (fun _ _ _ _ _ => (pg_name (i := 4) sc_Policy___init.nd rfl (Or.inl rfl))) (fun _ _ _ _ _ => pts_nil) (fun _ _ _ _ _ => (pe_ix (show IxR _ (rIxT K) from ix_tup) (pv 4) pe_int (fun _ _ => rfl)))) rfl)))))))
    (pss_one ps_never) pss_nil)))
    (pss_one (ps_fld (pv 0) (pe_callTy call_tuple_of (by rfl) T.b_tuple (by decide +kernel) (pa_cons (pe_lc (own := [("rule", 3)]) rfl sc_Policy___init.nd (pi_list (pv 1)) (blkOk_by (own := [("rule", 3)]) (N := ["self", "rules", "number", "rule", "one"]) (sc := defScope s_Policy__init__) (by decide +kernel)) (fun _ _ _ _ _ => (pg_name (i := 3) sc_Policy___init.nd rfl (Or.inl rfl))) (fun _ _ _ _ _ => pts_nil) (fun _ _ _ _ _ => (pe_call G_plain_rule (hr.mono (by decide)) (by rfl) m_plain_rule k_plain_rule b_plain_rule .nil pass0 (pa_cons (pv 3) pa_nil)))) pa_nil)) rfl)))), ?_⟩
    have g0 : Gr G H0 G (upd H0 x (.ins Po dx [])) := (Gr.refl sm0).mnew h0
    have e0 : (upd H0 x (.ins Po dx [])) x = some (.ins Po dx []) := upd_same
    have x0 : G x = none := sm0.free h0
    refine seq_guard (eb_orF (eb_notT (eb_T (ev_isi2 (ev_var rfl ha) kB_list_list kB_list_tuple))) (eb_test (ev_is (ev_int (j := 12) (ev_lenL (ev_var rfl ha)) (ev_c rfl)) (decide_eq_false (by rw [List.length_map]; omega))))) g0.sub fun G1 H1 g1 => ?_
    have ha1 := Dp.up g1.gg _ _ ha
    refine seq_for (src_enum (bs := rs) (enc := ruleD) (ev_var rfl ha1)) g1.sub fun G2 H2 g2 => ⟨fun _ σ' G' H' => Gr G (upd H0 x (.ins Po dx [])) G' H' ∧ ∃ b c d, σ' = [some (.ref x), some a, b, c, d], ⟨g1.trans g2, _, _, _, rfl⟩, ?_, ?_⟩
    · rintro i ⟨r, n⟩ σ' G' H' hb s1 s2 ⟨gp, b1, c1, d1, rfl⟩ y G3 H3 g3 ib
      have hn : rs[n]? = some r ∧ n = i := by
        rw [List.getElem?_zipIdx] at hb
        cases hx : rs[i]? with
        | none => rw [hx] at hb; cases hb
        | some r' =>
          rw [hx] at hb
          simp only [Option.map_some, Nat.zero_add] at hb
          cases hb
          exact ⟨by simpa using hx, by simp⟩
      obtain ⟨hrn, rfl⟩ := hn
      obtain ⟨v1, v2, p1, p2, tg⟩ := tgt_2 (σ := [some (.ref x), some a, b1, c1, d1]) (g1 := gName 2) (g2 := gName 3) ib (fun v1 _ => tgt_name) (fun v1 v2 _ _ => tgt_name)
      refine tg H3 g3.sub _ ?_
      have ha3 := Dp.up (gp.gg.trans g3.gg) _ _ ha
      have hlt := (List.getElem?_eq_some_iff.mp hrn).1
      refine run_guard (G := G3) (eb_orF (eb_notT (eb_T (ev_call r (ea1 (ev_var rfl p2) fun v G' _ e => ⟨v, rfl, e, ok.ok r (List.mem_of_getElem? hrn)⟩)))) (eb_is (eb_and (a := decide (r.kind = "make")) (b := !decide (r.kind = "make")) (eb_test (ev_eqS (ev_kind (ev_var rfl p2)) (ev_c rfl))) fun hk => eb_test (ev_is (ev_inS (l := (rs.take n).map Rule.kind) (ev_c rfl) ?_) ?_)) (by cases decide (r.kind = "make") <;> rfl))) g3.sub fun G4 H4 g4 => ?_
      · rw [List.map_map]
        refine ev_lc1 (bs := rs.take n) (fun r => .str r.kind) (src_list (enc := ruleD) ?_) (sz64 (by rw [List.length_take]; omega)) fun b hb v G' s i => ⟨_, tgt_name, rfl, str_dd (ev_kind (ev_var rfl i))⟩
        rw [List.map_take]
        exact ev_takeL (n := n) (ev_var rfl ha3) (dd_int (ev_var rfl p1)) (by rw [List.length_map]; omega)
      · rw [hk]
        exact decide_eq_false (ok.one n r hrn (of_decide_eq_true hk))
      · exact ⟨G4, (s1.trans g3.gg).trans g4.gg, g4.sub, (gp.trans g3).trans g4, _, _, _, rfl⟩
    · rintro σ' G' H' s1 s2 ⟨gp, b1, c1, d1, rfl⟩
      have ha2 := Dp.up gp.gg _ _ ha
      have e5 : H' x = some (.ins Po dx []) := gp.hh _ _ e0
      have x5 : G' x = none := gp.old _ _ x0 e0 fun _ z => nomatch z
      refine run_fld (g0.trans gp) (ev_tupOfL (ev_lc1 (bs := rs) ruleD (src_list (enc := ruleD) (ev_var rfl ha2)) (sz64 (by omega)) fun b hb v G' s i => ⟨_, tgt_name, rfl, ev_call b (ea1 (ev_var rfl i) fun v G2 s2 e => ⟨v, rfl, e, ok.ok b hb⟩)⟩)) rfl e5 x5 h0 T.c_Policy T.n_rules (by decide) fun w1 G6 H6 g6 x6 s6 p6 e6 => ?_
      exact q G6 H6 _ g6 x6 e6 ⟨w1, rfl, p6⟩
end
/-- a method with a promise of values, on a policy -/
theorem ev_methP {K : PySem.W.Frag} {σ : L2.St} {G : Hp} {ta : TE} {α : Type} {Po : Addr} {m : Str} {rs : List Rule} {pre : α → List V → Hp → Prop} {post : α → VP} {t : TA} {E : XK} (i : α) (ho : EvP ta σ G (PoV K Po rs)) (l : m ≠ "rules")
    (h : ∀ v G', Same G G' → PoV K Po rs v G' → EvA t σ G' (fun vs G2 => pre i (v :: vs) G2)) : EvP (tMeth Po m (SpI pre post) [] E ta t) σ G (post i) := fun H s Q q =>
  ho H s _ fun v G1 H1 g1 p1 => by
    obtain ⟨u, ⟨a, dx, e, hi⟩, hf⟩ := p1
    refine ⟨a, dx, _, e, g1.sub _ _ hi, by simp only [List.lookup, beq_false_of_ne l], h v G1 g1.gg ⟨u, ⟨a, dx, e, hi⟩, hf⟩ H1 g1.sub _ fun vs G2 H2 g2 p2 => ?_⟩
    exact ⟨i, G2, g2.sub, by rw [List.append_nil]; exact p2, fun w G3 H3 g3 p3 => q w G3 H3 ((g1.trans g2).trans g3) p3⟩
def sp_Policymade (K : PySem.W.Frag) (Po : Addr) : Sp := SpI (fun (rs : List Rule) vs G => ∃ v, vs = [v] ∧ PoV K Po rs v G ∧ PolOk rs) (fun rs => DD K (optD (madeOf rs)))
def sp_check_policy (K : PySem.W.Frag) (Po : Addr) : Sp := SpI (fun (rs : List Rule) vs G => ∃ v, vs = [v] ∧ PoV K Po rs v G) (fun _ => IsV .non)
def isMake (r : Rule) : Bool := decide (r.kind = ("make" : Str))
theorem isMake_skip {r : Rule} {l : List Rule} (h : isMake r = false) : (r :: l).filter isMake = l.filter isMake := by
  rw [List.filter_cons, h]
  rfl
theorem made_filter : ∀ rs : List Rule, madeOf rs = none ∧ rs.filter isMake = [] ∨ ∃ ws l, madeOf rs = some ws ∧ rs.filter isMake = .make ws :: l
  | [] => .inl ⟨rfl, rfl⟩
  | .make ws :: l => .inr ⟨ws, l.filter isMake, rfl, by rw [List.filter_cons, if_pos (show isMake (.make ws) = true from rfl)]⟩
  | .fetch a b :: l => by
    rw [isMake_skip rfl]
    exact made_filter l
  | .hand a b :: l => by
    rw [isMake_skip rfl]
    exact made_filter l
  | .rais a b :: l => by
    rw [isMake_skip rfl]
    exact made_filter l
  | .meet a b c :: l => by
    rw [isMake_skip rfl]
    exact made_filter l
section
variable {P : Program} {w : World} {K : PySem.W.Frag} {mg : Str → Option Value} {base : Heap} {S Po : Addr} (T : Tx K mg S Po)
include T
theorem ok_Policymade : MFn P w K mg base 1 Po "made" ["self"] (sp_Policymade K Po) := by
  refine mfn_mk (N := ["self", "found", "rule"]) T.f_Policymade (fun F => F.bindsN fun _ _ _ _ _ _ us hl => match us, hl with | [_], _ => rfl) sc_Policy_made (fun vs H Q E h => ?_) fun f cdv A outer s H vs Q E hr h => ?_
  · obtain ⟨n, G, sm, ⟨v, rfl, _⟩, _⟩ := h
    rfl
  · obtain ⟨rs, G, sm, ⟨v, rfl, hv, ok⟩, q⟩ := h
    refine ⟨_, PSs.nox (pss_cons (ps_setLc (i := 1) (own := [("rule", 2)]) rfl sc_Policy_made.nd rfl rfl (sw_true rfl rfl rfl (by decide +kernel)) (pi_tup (pe_fld (pv 0) rfl)) (blkOk_by (own := [("rule", 2)]) (N := ["self", "found", "rule"]) (sc := defScope s_Policymade) (by decide +kernel)) (fun _ _ _ _ _ => (pg_name (i := 2) sc_Policy_made.nd rfl (Or.inl rfl))) (fun _ _ _ _ _ => (pts_one (pt_cmpR op_eq (pe_ix (show IxR _ (rIxT K) from ix_tup) (pv 2) pe_int (fun _ _ => rfl)) pe_str (nomark _)))) (fun _ _ _ _ _ => (pe_ix (show IxR _ (rIxT K) from ix_tup) (pv 2) pe_int (fun _ _ => rfl))))
    (pss_one (ps_ret (pe_ifExp (pt_cmpR (op_neD hr.units) (pv 1) (pe_lst pa_nil) (nomark _)) (pe_ix ix_list (pv 1) pe_int (fun _ _ => rfl)) pe_non)))), ?_⟩
    refine seq_set (P := DD K (.list ((rs.filter isMake).map madeD))) (ev_lc (bs := rs) (keep := isMake) madeD (src_tup (enc := ruleD) (ev_rules T (ev_var rfl hv))) (sz64 (by have := ok.len; omega)) fun b hb u G' s i => ⟨_, tgt_name, rfl, eb_test (ev_eqS (ev_kind (ev_var rfl i)) (ev_c rfl)), fun hk => ?_⟩) sm fun u G1 H1 g1 hu => ?_
    · cases b with
      | make ws =>
        have i' : Dp K G' u (.tuple [.str "make", .tuple (ws.map sD)]) := i
        exact ev_ixT (ev_var rfl i') (ev_c rfl) rfl
      | fetch a b => exact absurd (show false = true from hk) (by decide)
      | hand a b => exact absurd (show false = true from hk) (by decide)
      | rais a b => exact absurd (show false = true from hk) (by decide)
      | meet a b c => exact absurd (show false = true from hk) (by decide)
    · have cm : ∀ d ∈ (rs.filter isMake).map madeD, Cm 1 d := fun d hd => by
        obtain ⟨r, hr, e⟩ := List.mem_map.mp hd
        rw [← e]
        cases r with
        | make ws =>
          refine Cm.tuple fun d hd => ?_
          obtain ⟨z, hz, e⟩ := List.mem_map.mp hd
          rw [← e]
          exact cm_str (okT_isW ((show WsOk ws from ok.ok _ (List.mem_filter.mp hr).1).wd z hz))
        | _ => exact ⟨rfl, Nat.zero_le _⟩
      have nb := ev_neD (K := K) (σ := [some v, some u, none]) (G := G1) (ta := tVar 1) (tb := tLst tNil) (ev_var rfl hu) (ev_lst ead_nil (by decide)) ((Cm.list cm).ok (by decide)) (by decide)
      rw [eqv_nil] at nb
      rcases made_filter rs with ⟨e1, e2⟩ | ⟨ws, l, e1, e2⟩
      · rw [e2] at nb
        refine run_ret (P := DD K (optD (madeOf rs))) (ev_if (b := false) (eb_test nb) mon_dd (fun z => nomatch z) fun _ => ?_) g1.sub fun w G3 H3 g3 => q w G3 H3 (g1.trans g3)
        rw [e1]
        exact ev_c .non
      · rw [e2] at nb hu
        refine run_ret (P := DD K (optD (madeOf rs))) (ev_if (b := true) (eb_test nb) mon_dd (fun _ => ?_) (fun z => nomatch z)) g1.sub fun w G3 H3 g3 => q w G3 H3 (g1.trans g3)
        rw [e1]
        exact ev_ixL (ev_var rfl hu) (ev_c rfl) (atI_nat (j := 0) rfl)
theorem ok_check_policy : Fn P w K mg base 1 "check_policy" ["thing"] (sp_check_policy K Po) := by
  refine fn_mk (N := ["thing"]) T.f_check_policy (fun F => F.bindsN fun _ _ _ _ _ _ us hl => match us, hl with | [_], _ => rfl) sc_check_policy (fun vs H Q E h => ?_) fun f cdv A outer s H vs Q E hr h => ?_
  · obtain ⟨n, G, sm, ⟨v, rfl, _⟩, _⟩ := h
    rfl
  · obtain ⟨i, G, sm, ⟨v, rfl, fs, hv, hf⟩, q⟩ := h
    refine ⟨_, PSs.nox (pss_one (ps_if (pt_not (pt_val (pe_callB (C8.call_isC T.i_Policy) (by rfl) T.b_isinstance (by decide +kernel) (pa_cons (pv 0) (pa_cons (pe_glob (v := .ref Po) (by rfl) T.g_Policy rfl) pa_nil)))))
    (pss_one ps_never) pss_nil)), ?_⟩
    exact run_guard (eb_notT (eb_T (ev_isiC (ev_var rfl hv)))) sm fun G2 H2 g2 => q _ G2 H2 g2 rfl
end
end Hk

set_option Elab.async false
set_option linter.all false
set_option maxRecDepth 100000
set_option maxHeartbeats 1000000
/-! What a deed asks for and brings; helpers. -/
namespace Hk
open PySem PySem.Spec PyProof.Rows L2
theorem sc_asked_and_got : FnScope ["rule", "deed", "actor", "other", "first", "second", "word"] ["rule", "deed"] (defScope s_asked_and_got) := ⟨rfl, rfl, rfl, by decide +kernel, rfl, by decide +kernel, by decide +kernel⟩
theorem sc_helper_of : FnScope ["person"] ["person"] (defScope s_helper_of) := ⟨rfl, rfl, rfl, by decide +kernel, rfl, by decide +kernel, by decide +kernel⟩
inductive Deed where
  | five (n : Nat) (p o v : Str) (pr : Str × Str)
  | three (n : Nat) (p o : Str)
def deedD : Deed → PyData
  | .five n p o v pr => .tuple [.int n, .str p, .str o, .str v, pD pr]
  | .three n p o => .tuple [.int n, .str p, .str o]
def Fits : Rule → Deed → Prop
  | .fetch .., .five .. => True
  | .hand .., .five .. => True
  | .rais .., .three .. => True
  | .meet .., .three .. => True
  | _, _ => False
/-- what it asks for, what it brings -/
def agOf : Rule → Deed → List Rt × List Rt
  | .fetch w _, .five _ a o v pr => ([(a, w, o), (o, pr.1, v)], [(a, pr.2, v)])
  | .hand w _, .five _ a o v pr => ([(a, w, o), (a, pr.1, v)], [(o, pr.2, v)])
  | .rais w x, .three _ a o => ([(a, w, o)], [(a, x, o)])
  | .meet w x y, .three _ a o => ([(a, w, o), (a, x, o)], [(a, y, o)])
  | _, _ => ([], [])
def agD (x : List Rt × List Rt) : PyData := .tuple [.list (x.1.map rD), .list (x.2.map rD)]
def plus (z : Str) : Str := z ++ "+"
section
variable {K : PySem.W.Frag} {σ : L2.St} {G H : Hp} {te : TE} {u : TS} {D : Ends}
theorem seq_asg2 {i j : Nat} {d1 d2 : PyData} (h : EvP te σ G (DD K (.tuple [d1, d2]))) (s : Same G H) (k : ∀ v1 v2 G2 H2, Gr G H G2 H2 → Dp K G2 v1 d1 → Dp K G2 v2 d2 → u D ((σ.set i (some v1)).set j (some v2)) H2) :
    tSeq (tAsg te (gTup K 2 (gCons (gName i) (gCons (gName j) gNil)))) u D σ H :=
  h H s _ fun v G2 H2 g hv => by
    obtain ⟨v1, v2, p1, p2, tg⟩ := tgt_2 (σ := σ) (g1 := gName i) (g2 := gName j) hv (fun v1 _ => tgt_name) (fun v1 v2 _ _ => tgt_name)
    exact tg H2 g.sub _ (k v1 v2 G2 H2 g p1 p2)
theorem seq_asg3 {i j l : Nat} {d1 d2 d3 : PyData} (h : EvP te σ G (DD K (.tuple [d1, d2, d3]))) (s : Same G H) (k : ∀ v1 v2 v3 G2 H2, Gr G H G2 H2 → Dp K G2 v1 d1 → Dp K G2 v2 d2 → Dp K G2 v3 d3 → u D (((σ.set i (some v1)).set j (some v2)).set l (some v3)) H2) :
    tSeq (tAsg te (gTup K 3 (gCons (gName i) (gCons (gName j) (gCons (gName l) gNil))))) u D σ H :=
  h H s _ fun v G2 H2 g hv => by
    obtain ⟨v1, v2, v3, p1, p2, p3, tg⟩ := tgt_3 (σ := σ) (g1 := gName i) (g2 := gName j) (g3 := gName l) hv (fun v1 _ => tgt_name) (fun v1 v2 _ _ => tgt_name) (fun v1 v2 v3 _ _ _ => tgt_name)
    exact tg H2 g.sub _ (k v1 v2 v3 G2 H2 g p1 p2 p3)
theorem ev_r3 {t1 t2 t3 : TE} {a b c : Str} (h1 : EvP t1 σ G (DD K (.str a))) (h2 : EvP t2 σ G (DD K (.str b))) (h3 : EvP t3 σ G (DD K (.str c))) : EvP (tTup (tCons t1 (tCons t2 (tCons t3 tNil)))) σ G (DD K (rD (a, b, c))) :=
  ev_tup (ead_cons h1 (ead_cons h2 (ead_cons h3 ead_nil))) (by show 3 ≤ 1000; decide)
theorem ev_l1 {t1 : TE} {a : Rt} (h1 : EvP t1 σ G (DD K (rD a))) : EvP (tLst (tCons t1 tNil)) σ G (DD K (.list ([a].map rD))) := ev_lst (ead_cons h1 ead_nil) (by show 1 ≤ 1000; decide)
theorem ev_l2 {t1 t2 : TE} {a b : Rt} (h1 : EvP t1 σ G (DD K (rD a))) (h2 : EvP t2 σ G (DD K (rD b))) : EvP (tLst (tCons t1 (tCons t2 tNil))) σ G (DD K (.list ([a, b].map rD))) := ev_lst (ead_cons h1 (ead_cons h2 ead_nil)) (by show 2 ≤ 1000; decide)
theorem ev_ag {t1 t2 : TE} {x : List Rt × List Rt} (h1 : EvP t1 σ G (DD K (.list (x.1.map rD)))) (h2 : EvP t2 σ G (DD K (.list (x.2.map rD)))) : EvP (tTup (tCons t1 (tCons t2 tNil))) σ G (DD K (agD x)) :=
  ev_tup (ead_cons h1 (ead_cons h2 ead_nil)) (by show 2 ≤ 1000; decide)
end
def sp_asked_and_got (K : PySem.W.Frag) : Sp := SpI (fun (i : Rule × Deed) vs G => ∃ v1 v2, vs = [v1, v2] ∧ Dp K G v1 (ruleD i.1) ∧ Dp K G v2 (deedD i.2) ∧ Fits i.1 i.2) (fun i => DD K (agD (agOf i.1 i.2)))
def sp_helper_of : Sp := SpI (fun (z : Str) vs _ => vs = [.str z] ∧ z.length ≤ 1000) (fun z => IsV (.str (plus z)))
section
variable {P : Program} {w : World} {K : PySem.W.Frag} {mg : Str → Option Value} {base : Heap} {S Po : Addr} (T : Tx K mg S Po)
include T
theorem ok_helper_of : Fn P w K mg base 1 "helper_of" ["person"] sp_helper_of := by
  obtain ⟨t1, k_HELPER⟩ := T.k_HELPER
  refine fn_mk (N := ["person"]) T.f_helper_of (fun F => F.bindsN fun _ _ _ _ _ _ us hl => match us, hl with | [_], _ => rfl) sc_helper_of (fun vs H Q E h => ?_) fun f cdv A outer s H vs Q E hr h => ?_
  · obtain ⟨n, G, sm, ⟨rfl, _⟩, _⟩ := h
    rfl
  · obtain ⟨z, G, sm, ⟨rfl, hz⟩, q⟩ := h
    refine ⟨_, PSs.nox (pss_one (ps_ret (pe_op op_add_str (pv 0) (pe_glob (v := .str "+") (by rfl) k_HELPER ⟨_, rfl⟩)))), ?_⟩
    exact run_ret (P := IsV (.str (plus z))) (ev_op mon_v mon_v (ev_var (P := IsV (.str z)) rfl rfl) (ev_c (P := IsV (.str "+")) rfl) fun x y G' s ex ey => rv_val (fun H _ Q q => ⟨z, "+", ex, ey, (by have : ("+" : Str).length = 1 := rfl; rw [this, sizeLine_eq]; omega), q⟩) rfl) sm q
theorem ok_asked_and_got : Fn P w K mg base 1 "asked_and_got" ["rule", "deed"] (sp_asked_and_got K) := by
  refine fn_mk (N := ["rule", "deed", "actor", "other", "first", "second", "word"]) T.f_asked_and_got (fun F => F.bindsN fun _ _ _ _ _ _ us hl => match us, hl with | [_, _], _ => rfl) sc_asked_and_got (fun vs H Q E h => ?_) fun f cdv A outer s H vs Q E hr h => ?_
  · obtain ⟨n, G, sm, ⟨v1, v2, rfl, _⟩, _⟩ := h
    rfl
  · obtain ⟨⟨r, d⟩, G, sm, ⟨v1, v2, rfl, hv1, hv2, fit⟩, q⟩ := h
    refine ⟨_, PSs.nox (pss_cons (ps_asg (pe_tup (pa_cons (pe_ix ix_tup (pv 1) pe_int (fun _ _ => rfl)) (pa_cons (pe_ix ix_tup (pv 1) pe_int (fun _ _ => rfl)) pa_nil))) (pg_tup rfl (pgs_cons (pg_name (i := 2) sc_asked_and_got.nd rfl (Or.inr rfl)) (pgs_cons (pg_name (i := 3) sc_asked_and_got.nd rfl (Or.inr rfl)) pgs_nil))))
    (pss_cons (ps_match (pe_ix ix_tup (pv 0) pe_int (fun _ _ => rfl))
    (pmc_cons pm_val
    (pss_cons (ps_asg (pe_ix ix_tup (pv 1) pe_int (fun _ _ => rfl)) (pg_tup rfl (pgs_cons (pg_name (i := 4) sc_asked_and_got.nd rfl (Or.inl rfl)) (pgs_cons (pg_name (i := 5) sc_asked_and_got.nd rfl (Or.inl rfl)) pgs_nil))))
    (pss_one (ps_ret (pe_tup (pa_cons (pe_lst (pa_cons (pe_tup (pa_cons (pv 2) (pa_cons (pe_ix ix_tup (pv 0) pe_int (fun _ _ => rfl)) (pa_cons (pv 3) pa_nil)))) (pa_cons (pe_tup (pa_cons (pv 3) (pa_cons (pv 4) (pa_cons (pe_ix ix_tup (pv 1) pe_int (fun _ _ => rfl)) pa_nil)))) pa_nil))) (pa_cons (pe_lst (pa_cons (pe_tup (pa_cons (pv 2) (pa_cons (pv 5) (pa_cons (pe_ix ix_tup (pv 1) pe_int (fun _ _ => rfl)) pa_nil)))) pa_nil)) pa_nil))))))
    (pmc_cons pm_val
    (pss_cons (ps_asg (pe_ix ix_tup (pv 1) pe_int (fun _ _ => rfl)) (pg_tup rfl (pgs_cons (pg_name (i := 4) sc_asked_and_got.nd rfl (Or.inl rfl)) (pgs_cons (pg_name (i := 5) sc_asked_and_got.nd rfl (Or.inl rfl)) pgs_nil))))
    (pss_one (ps_ret (pe_tup (pa_cons (pe_lst (pa_cons (pe_tup (pa_cons (pv 2) (pa_cons (pe_ix ix_tup (pv 0) pe_int (fun _ _ => rfl)) (pa_cons (pv 3) pa_nil)))) (pa_cons (pe_tup (pa_cons (pv 2) (pa_cons (pv 4) (pa_cons (pe_ix ix_tup (pv 1) pe_int (fun _ _ => rfl)) pa_nil)))) pa_nil))) (pa_cons (pe_lst (pa_cons (pe_tup (pa_cons (pv 3) (pa_cons (pv 5) (pa_cons (pe_ix ix_tup (pv 1) pe_int (fun _ _ => rfl)) pa_nil)))) pa_nil)) pa_nil))))))
    (pmc_cons pm_val
    (pss_one (ps_ret (pe_tup (pa_cons (pe_lst (pa_cons (pe_tup (pa_cons (pv 2) (pa_cons (pe_ix ix_tup (pv 0) pe_int (fun _ _ => rfl)) (pa_cons (pv 3) pa_nil)))) pa_nil)) (pa_cons (pe_lst (pa_cons (pe_tup (pa_cons (pv 2) (pa_cons (pe_ix ix_tup (pv 0) pe_int (fun _ _ => rfl)) (pa_cons (pv 3) pa_nil)))) pa_nil)) pa_nil)))))
    (pmc_cons pm_val
    (pss_one (ps_ret (pe_tup (pa_cons (pe_lst (pa_cons (pe_tup (pa_cons (pv 2) (pa_cons (pe_ix ix_tup (pv 0) pe_int (fun _ _ => rfl)) (pa_cons (pv 3) pa_nil)))) (pa_cons (pe_tup (pa_cons (pv 2) (pa_cons (pe_ix ix_tup (pv 0) pe_int (fun _ _ => rfl)) (pa_cons (pv 3) pa_nil)))) pa_nil))) (pa_cons (pe_lst (pa_cons (pe_tup (pa_cons (pv 2) (pa_cons (pe_ix ix_tup (pv 0) pe_int (fun _ _ => rfl)) (pa_cons (pv 3) pa_nil)))) pa_nil)) pa_nil)))))
    pmc_nil)))))
    (pss_one (ps_ret (pe_tup (pa_cons (pe_lst pa_nil) (pa_cons (pe_lc (own := [("word", 6)]) rfl sc_asked_and_got.nd (pi_tup (pe_ix ix_tup (pv 0) pe_int (fun _ _ => rfl))) (blkOk_by (own := [("word", 6)]) (N := ["rule", "deed", "actor", "other", "first", "second", "word"]) (sc := defScope s_asked_and_got) (by decide +kernel)) (fun _ _ _ _ _ => (pg_name (i := 6) sc_asked_and_got.nd rfl (Or.inl rfl))) (fun _ _ _ _ _ => pts_nil) (fun _ _ _ _ _ => (pe_tup (pa_cons (pv 2) (pa_cons (pv 6) (pa_cons (pv 3) pa_nil)))))) pa_nil))))))), ?_⟩
    cases d with
    | five n p o v pr =>
      have hd : Dp K G v2 (.tuple [.int n, .str p, .str o, .str v, pD pr]) := hv2
      refine seq_asg2 (ev_tup (ead_cons (ev_ixT (ev_var rfl hd) (ev_c rfl) rfl) (ead_cons (ev_ixT (ev_var rfl hd) (ev_c rfl) rfl) ead_nil)) (by show 2 ≤ 1000; decide)) sm fun x1 x2 G1 H1 g1 p1 p2 => ?_
      have hd1 := Dp.up g1.gg _ _ hd
      cases r with
      | fetch wd ps =>
        have hr1 : Dp K G v1 (.tuple [.str "fetch", .str wd, .tuple (ps.map pD)]) := hv1
        have hr1 := Dp.up g1.gg _ _ hr1
        refine seq_match (dd_str (ev_ixT (ev_var rfl hr1) (ev_c rfl) rfl)) g1.sub fun G2 H2 g2 => ?_
        refine tmc_yes (by decide) ?_
        refine seq_asg2 (ev_ixT (ev_var rfl (Dp.up g2.gg _ _ hd1)) (ev_c rfl) rfl) g2.sub fun x3 x4 G3 H3 g3 p3 p4 => ?_
        have gg := g2.gg.trans g3.gg
        have hd3 := Dp.up gg _ _ hd1
        have hr3 := Dp.up gg _ _ hr1
        have p1 := Dp.up gg _ _ p1
        have p2 := Dp.up gg _ _ p2
        exact run_ret (ev_ag (x := ([(p, wd, o), (o, pr.1, v)], [(p, pr.2, v)])) (ev_l2 (ev_r3 (ev_var rfl p1) (ev_ixT (ev_var rfl hr3) (ev_c rfl) rfl) (ev_var rfl p2)) (ev_r3 (ev_var rfl p2) (ev_var rfl p3) (ev_ixT (ev_var rfl hd3) (ev_c rfl) rfl))) (ev_l1 (ev_r3 (ev_var rfl p1) (ev_var rfl p4) (ev_ixT (ev_var rfl hd3) (ev_c rfl) rfl)))) g3.sub fun w G4 H4 g4 e => q w G4 H4 (((g1.trans g2).trans g3).trans g4) e
      | hand wd ps =>
        have hr1 : Dp K G v1 (.tuple [.str "hand", .str wd, .tuple (ps.map pD)]) := hv1
        have hr1 := Dp.up g1.gg _ _ hr1
        refine seq_match (dd_str (ev_ixT (ev_var rfl hr1) (ev_c rfl) rfl)) g1.sub fun G2 H2 g2 => ?_
        refine tmc_no (by decide) (tmc_yes (by decide) ?_)
        refine seq_asg2 (ev_ixT (ev_var rfl (Dp.up g2.gg _ _ hd1)) (ev_c rfl) rfl) g2.sub fun x3 x4 G3 H3 g3 p3 p4 => ?_
        have gg := g2.gg.trans g3.gg
        have hd3 := Dp.up gg _ _ hd1
        have hr3 := Dp.up gg _ _ hr1
        have p1 := Dp.up gg _ _ p1
        have p2 := Dp.up gg _ _ p2
        exact run_ret (ev_ag (x := ([(p, wd, o), (p, pr.1, v)], [(o, pr.2, v)])) (ev_l2 (ev_r3 (ev_var rfl p1) (ev_ixT (ev_var rfl hr3) (ev_c rfl) rfl) (ev_var rfl p2)) (ev_r3 (ev_var rfl p1) (ev_var rfl p3) (ev_ixT (ev_var rfl hd3) (ev_c rfl) rfl))) (ev_l1 (ev_r3 (ev_var rfl p2) (ev_var rfl p4) (ev_ixT (ev_var rfl hd3) (ev_c rfl) rfl)))) g3.sub fun w G4 H4 g4 e => q w G4 H4 (((g1.trans g2).trans g3).trans g4) e
      | _ => exact fit.elim
    | three n p o =>
      have hd : Dp K G v2 (.tuple [.int n, .str p, .str o]) := hv2
      refine seq_asg2 (ev_tup (ead_cons (ev_ixT (ev_var rfl hd) (ev_c rfl) rfl) (ead_cons (ev_ixT (ev_var rfl hd) (ev_c rfl) rfl) ead_nil)) (by show 2 ≤ 1000; decide)) sm fun x1 x2 G1 H1 g1 p1 p2 => ?_
      have hd1 := Dp.up g1.gg _ _ hd
      cases r with
      | rais wd x =>
        have hr1 : Dp K G v1 (.tuple [.str "raise", .str wd, .str x]) := hv1
        have hr1 := Dp.up g1.gg _ _ hr1
        refine seq_match (dd_str (ev_ixT (ev_var rfl hr1) (ev_c rfl) rfl)) g1.sub fun G2 H2 g2 => ?_
        refine tmc_no (by decide) (tmc_no (by decide) (tmc_yes (by decide) ?_))
        have hr3 := Dp.up g2.gg _ _ hr1
        have p1 := Dp.up g2.gg _ _ p1
        have p2 := Dp.up g2.gg _ _ p2
        exact run_ret (ev_ag (x := ([(p, wd, o)], [(p, x, o)])) (ev_l1 (ev_r3 (ev_var rfl p1) (ev_ixT (ev_var rfl hr3) (ev_c rfl) rfl) (ev_var rfl p2))) (ev_l1 (ev_r3 (ev_var rfl p1) (ev_ixT (ev_var rfl hr3) (ev_c rfl) rfl) (ev_var rfl p2)))) g2.sub fun w G4 H4 g4 e => q w G4 H4 ((g1.trans g2).trans g4) e
      | meet wd x y =>
        have hr1 : Dp K G v1 (.tuple [.str "meet", .str wd, .str x, .str y]) := hv1
        have hr1 := Dp.up g1.gg _ _ hr1
        refine seq_match (dd_str (ev_ixT (ev_var rfl hr1) (ev_c rfl) rfl)) g1.sub fun G2 H2 g2 => ?_
        refine tmc_no (by decide) (tmc_no (by decide) (tmc_no (by decide) (tmc_yes (by decide) ?_)))
        have hr3 := Dp.up g2.gg _ _ hr1
        have p1 := Dp.up g2.gg _ _ p1
        have p2 := Dp.up g2.gg _ _ p2
        exact run_ret (ev_ag (x := ([(p, wd, o), (p, x, o)], [(p, y, o)])) (ev_l2 (ev_r3 (ev_var rfl p1) (ev_ixT (ev_var rfl hr3) (ev_c rfl) rfl) (ev_var rfl p2)) (ev_r3 (ev_var rfl p1) (ev_ixT (ev_var rfl hr3) (ev_c rfl) rfl) (ev_var rfl p2))) (ev_l1 (ev_r3 (ev_var rfl p1) (ev_ixT (ev_var rfl hr3) (ev_c rfl) rfl) (ev_var rfl p2)))) g2.sub fun w G4 H4 g4 e => q w G4 H4 ((g1.trans g2).trans g4) e
      | _ => exact fit.elim
end
end Hk

set_option Elab.async false
set_option linter.all false
set_option maxRecDepth 100000
set_option maxHeartbeats 1000000
/-! Dicts whose keys are rights. -/
namespace Hk
open PySem PySem.Spec PyProof.Rows L2
/-- a right as a key -/
def kR (r : Rt) : List Key := [.inr r.1, .inr r.2.1, .inr r.2.2]
theorem kR_inj {a b : Rt} (h : kR a = kR b) : a = b := by
  obtain ⟨a1, a2, a3⟩ := a
  obtain ⟨b1, b2, b3⟩ := b
  simp [kR] at h
  obtain ⟨rfl, rfl, rfl⟩ := h
  rfl
def mR (l : List (Rt × V)) : List (List Key × V) := l.map fun p => (kR p.1, p.2)
abbrev DTo (l : List (Rt × V)) : HO := .dT (mR l)
theorem any_mR {l : List (Rt × V)} {r : Rt} : ((mR l).any fun kv => decide (kv.1 = kR r)) = l.any fun kv => decide (kv.1 = r) := by
  unfold mR
  rw [List.any_map]
  congr 1
  funext p
  by_cases h : p.1 = r
  · simp [h]
  · have hk : ¬ kR p.1 = kR r := fun z => h (kR_inj z)
    simp [h, hk]
theorem put_mR {l : List (Rt × V)} {r : Rt} {v : V} : putK (mR l) (kR r) v = mR (putK l r v) := by
  unfold putK
  rw [any_mR]
  split
  · unfold mR
    rw [List.map_map, List.map_map]
    congr 1
    funext p
    by_cases h : p.1 = r
    · simp [h]
    · have hk : ¬ kR p.1 = kR r := fun z => h (kR_inj z)
      simp [h, hk]
  · unfold mR
    rw [List.map_append]
    rfl
theorem val_mR {l : List (Rt × V)} {r : Rt} : valV (mR l) (kR r) = valV l r := by
  induction l with
  | nil => rfl
  | cons p l ih =>
    by_cases h : p.1 = r
    · rw [valV_pos h]
      exact valV_pos (show kR p.1 = kR r by rw [h])
    · have e1 : valV (p :: l) r = valV l r := by unfold valV; rw [List.find?_cons]; simp [h]
      have e2 : valV (mR (p :: l)) (kR r) = valV (mR l) (kR r) := by
        have hk : ¬ kR p.1 = kR r := fun z => h (kR_inj z)
        unfold valV mR
        rw [List.map_cons, List.find?_cons]
        simp [hk]
      rw [e1, e2, ih]
theorem len_mR {l : List (Rt × V)} : (mR l).length = l.length := List.length_map _
/-- the place of a right that is a key -/
theorem right_at {K : PySem.W.Frag} {G : Hp} {v : V} {r : Rt} (h : Dp K G v (rD r)) : ∃ q, v = .ref q ∧ G q = some (.tup ((kR r).map kV)) := by
  obtain ⟨a, xs, e, h1, h2⟩ := dp_tup' h
  have h3 : DpAll K G xs ([r.1, r.2.1, r.2.2].map PyData.str) := h2
  rw [DpAll.to_strs h3] at h1
  exact ⟨a, e, h1⟩
/-! ### ghosts -/
def del (G : Hp) (d : Addr) : Hp := fun b => if b = d then none else G b
theorem del_ne {G : Hp} {d b : Addr} (h : b ≠ d) : del G d b = G b := if_neg h
theorem del_same {G : Hp} {d : Addr} : del G d d = none := if_pos rfl
/-- what was lent is given back -/
theorem Gr.back {G H G2 H2 : Hp} {d : Addr} {o : HO} (g : Gr (upd G d o) H G2 H2) (hg : G d = none) : Gr G H (del G2 d) H2 := by
  refine ⟨fun b u e => ?_, g.hh, fun b u e => ?_, fun b u h1 h2 h3 => ?_⟩
  · have hb : b ≠ d := ne_of_none e hg
    rw [del_ne hb]
    exact g.gg _ _ (by rw [upd_ne hb]; exact e)
  · by_cases hb : b = d
    · rw [hb, del_same] at e; cases e
    · rw [del_ne hb] at e; exact g.sub _ _ e
  · by_cases hb : b = d
    · rw [hb]; exact del_same
    · rw [del_ne hb]
      exact g.old b u (by rw [upd_ne hb]; exact h1) h2 h3
theorem lend {G H : Hp} {d : Addr} {o : HO} (s : Same G H) (hd : H d = some o) : Same (upd G d o) H := fun b u e => by
  by_cases hb : b = d
  · rw [hb, upd_same] at e; rw [hb, hd]; exact e
  · rw [upd_ne hb] at e; exact s _ _ e
/-- data do not see a thing that is no list and no tuple -/
def NoLT (o : HO) : Prop := (∀ xs, o ≠ .lst xs) ∧ ∀ xs, o ≠ .tup xs
mutual
theorem dp_del {K : PySem.W.Frag} {G : Hp} {d : Addr} {o : HO} (e : G d = some o) (n : NoLT o) : ∀ (x : PyData) (v : V), Dp K G v x → Dp K (del G d) v x
  | .none, _, .non => .non
  | .bool _, _, .bl _ => .bl _
  | .int _, _, .int _ => .int _
  | .str _, _, .str _ => .str _
  | .list ds, _, .lst h1 h2 => .lst (by rw [del_ne (fun z => by rw [z, e] at h1; exact n.1 _ (Option.some.inj h1))]; exact h1) (dpa_del e n ds _ h2)
  | .tuple ds, _, .tup h1 h2 => .tup (by rw [del_ne (fun z => by rw [z, e] at h1; exact n.2 _ (Option.some.inj h1))]; exact h1) (dpa_del e n ds _ h2)
theorem dpa_del {K : PySem.W.Frag} {G : Hp} {d : Addr} {o : HO} (e : G d = some o) (n : NoLT o) : ∀ (ds : List PyData) (vs : List V), DpAll K G vs ds → DpAll K (del G d) vs ds
  | [], _, .nil => .nil
  | x :: ds, _, .cons h t => .cons (dp_del e n x _ h) (dpa_del e n ds _ t)
end
theorem nolt_dT {kvs : List (List Key × V)} : NoLT (.dT kvs) := ⟨(fun _ z => nomatch z), (fun _ z => nomatch z)⟩
/-- the tuples of H besides -/
def addT (G H : Hp) : Hp := fun b => match H b with
  | some (.tup xs) => some (.tup xs)
  | _ => G b
theorem Gr.addT {G0 H0 G H : Hp} (g : Gr G0 H0 G H) : Gr G0 H0 (addT G H) H := by
  refine ⟨fun b u e => ?_, g.hh, fun b u e => ?_, fun b u h1 h2 h3 => ?_⟩
  · have h1 := g.gg _ _ e
    have h2 := g.sub _ _ h1
    unfold Hk.addT
    rw [h2]
    cases u with
    | tup xs => rfl
    | _ => exact h1
  · unfold Hk.addT at e
    split at e
    · rename_i h; rw [h]; exact e
    · exact g.sub _ _ e
  · have h4 := g.hh _ _ h2
    have h5 := g.old b u h1 h2 h3
    unfold Hk.addT
    rw [h4]
    cases u with
    | tup xs => exact absurd rfl (h3 xs)
    | _ => exact h5
theorem same_addT {G0 H0 G H : Hp} (g : Gr G0 H0 G H) : Same G (addT G H) := (Gr.refl g.sub).addT.gg
theorem addT_tup {G H : Hp} {b : Addr} {xs : List V} (h : H b = some (.tup xs)) : addT G H b = some (.tup xs) := by
  unfold addT
  rw [h]
/-! ### readings -/
/-- a dict of rights that stays -/
def DctV (l : List (Rt × V)) : VP := fun v G => ∃ d, v = .ref d ∧ G d = some (DTo l)
theorem mon_dct {l : List (Rt × V)} : Mon (DctV l) := fun v _ _ s ⟨d, e, h⟩ => ⟨d, e, s _ _ h⟩
/-- the same, or for good -/
def DctR (l : List (Rt × V)) : VP := fun v G => ∃ d, v = .ref d ∧ Rd G d (DTo l)
theorem mon_dctR {l : List (Rt × V)} : Mon (DctR l) := fun v _ _ s ⟨d, e, h⟩ => ⟨d, e, h.elim (fun z => .inl (s _ _ z)) fun ⟨o, z⟩ => .inr ⟨o, s _ _ z⟩⟩
section
variable {K : PySem.W.Frag} {σ : L2.St} {G H : Hp} {ta tb te td tk tv : TE} {l : List (Rt × V)} {r : Rt} {v : V}
theorem dget_of {H : Hp} {d q : Addr} (h : H d = some (DTo l)) (hq : H q = some (.tup ((kR r).map kV))) : DGet H d (.ref q) (valV l r) := by
  rw [← val_mR]
  exact DGet.t h hq
theorem ev_dget (hd : EvP td σ G (DctV l)) (hk : EvP tk σ G (DD K (rD r))) (e : valV l r = some v) : EvP (tDGet td tk) σ G (IsV v) := fun H s Q q =>
  hd H s _ fun x G1 H1 g1 p1 => (hk.up mon_dd g1.gg) H1 g1.sub _ fun y G2 H2 g2 p2 => by
    obtain ⟨d, e1, h1⟩ := mon_dct _ _ _ g2.gg p1
    obtain ⟨qa, e2, h2⟩ := right_at p2
    refine ⟨d, v, e1, ?_, q v G2 H2 (g1.trans g2) rfl⟩
    rw [e2, ← e]
    exact dget_of (g2.sub _ _ h1) (g2.sub _ _ h2)
theorem ev_din (hk : EvP tk σ G (DD K (rD r))) (hd : EvP td σ G (DctV l)) : EvP (tDIn tk td) σ G (IsV (.bl (valV l r).isSome)) := fun H s Q q =>
  hk H s _ fun y G1 H1 g1 p1 => (hd.up mon_dct g1.gg) H1 g1.sub _ fun x G2 H2 g2 p2 => by
    obtain ⟨d, e1, h1⟩ := p2
    obtain ⟨qa, e2, h2⟩ := right_at (Dp.up g2.gg _ _ p1)
    refine ⟨d, _, e1, ?_, q _ G2 H2 (g1.trans g2) rfl⟩
    rw [e2]
    exact dget_of (g2.sub _ _ h1) (g2.sub _ _ h2)
theorem ev_dni (hk : EvP tk σ G (DD K (rD r))) (hd : EvP td σ G (DctV l)) : EvP (tDNotIn tk td) σ G (IsV (.bl (!(valV l r).isSome))) := fun H s Q q =>
  hk H s _ fun y G1 H1 g1 p1 => (hd.up mon_dct g1.gg) H1 g1.sub _ fun x G2 H2 g2 p2 => by
    obtain ⟨d, e1, h1⟩ := p2
    obtain ⟨qa, e2, h2⟩ := right_at (Dp.up g2.gg _ _ p1)
    refine ⟨d, _, e1, ?_, q _ G2 H2 (g1.trans g2) rfl⟩
    rw [e2]
    exact dget_of (g2.sub _ _ h1) (g2.sub _ _ h2)
end
end Hk

set_option Elab.async false
set_option linter.all false
set_option maxRecDepth 100000
set_option maxHeartbeats 1000000
/-! Dicts whose keys are rights: made by a comprehension, listed, sorted, stored into. -/
namespace Hk
open PySem PySem.Spec PyProof.Rows L2
/-- what a comprehension makes: key by key -/
def putAll {β : Type} (key : β → Rt) (val : β → V) (l : List β) (acc : List (Rt × V)) : List (Rt × V) := l.foldl (fun acc b => putK acc (key b) (val b)) acc
theorem putAll_snoc {β : Type} {key : β → Rt} {val : β → V} {l : List β} {b : β} {acc : List (Rt × V)} : putAll key val (l ++ [b]) acc = putK (putAll key val l acc) (key b) (val b) := by
  unfold putAll
  rw [List.foldl_append]
  rfl
theorem len_putAll {β : Type} {key : β → Rt} {val : β → V} : ∀ (l : List β) (acc : List (Rt × V)), (putAll key val l acc).length ≤ acc.length + l.length
  | [], _ => Nat.le_refl _
  | b :: l, acc => by
    have h1 := len_putAll (key := key) (val := val) l (putK acc (key b) (val b))
    have h2 := length_putK acc (key b) (val b)
    show (putAll key val l (putK acc (key b) (val b))).length ≤ _
    rw [List.length_cons]
    omega
section
variable {K : PySem.W.Frag} {σ : L2.St} {G H : Hp} {ta tb te td tk tv : TE} {l : List (Rt × V)} {r : Rt} {v : V}
theorem em_dcT {β : Type} {bs : List β} {wi : TI} {g : TG} {tt : TT} {vs : List Nat} {I : β → VP} {keep : β → Bool} {key : β → Rt} {val : β → V} (src : SrcB wi σ G bs I) (hz : bs.length ≤ 1000000)
    (turn : ∀ b, b ∈ bs → ∀ v G', Same G G' → I b v G' → ∃ σ2, Tgt g v (wipe σ vs) σ2 G' ∧ wipe σ2 vs = wipe σ vs ∧ EvB tt σ2 G' (keep b) ∧ (keep b = true → EvP tk σ2 G' (DD K (rD (key b))) ∧ EvP tv σ2 G' (IsV (val b)))) :
    EvM (tDcT wi g tt tk tv vs) σ G (fun o _ => o = DTo (putAll key val (bs.filter keep) [])) := fun H s Q q =>
  src H s _ fun J G1 H1 g1 w D hD => by
    let Pv : Nat → Hp → Prop := fun i H' => ∃ G', Gr G1 H1 G' H' ∧ G' D = none ∧ H' D = some (DTo (putAll key val ((bs.take i).filter keep) []))
    refine ⟨fun i m H => m = bs.length - i ∧ i ≤ bs.length ∧ Pv i H, ⟨bs.length, by simp, Nat.zero_le _, G1, (Gr.refl g1.sub).mnew hD, g1.freeG hD, upd_same⟩, ?_⟩
    rintro i m H' ⟨rfl, hi, G', gp, hg, hD'⟩
    have hq : Same G1 H' := gp.gg.trans gp.sub
    by_cases hlt : i < bs.length
    · refine .inr ⟨w.goes i H' hlt hq, Pv (i + 1), fun H'' p' => ⟨bs.length - (i + 1), by omega, rfl, hlt, p'⟩, fun x H2 y => ?_⟩
      obtain ⟨G2, b, g2, hb, ib⟩ := w.yields i H' x H2 hlt hq y G' gp.gg gp.sub
      obtain ⟨σ2, ht, hw, htt, hte⟩ := turn b (List.mem_of_getElem? hb) x G2 (g1.gg.trans (gp.gg.trans g2.gg)) ib
      refine ht H2 g2.sub _ ⟨hw, htt H2 g2.sub _ fun G3 H3 g3 => ?_⟩
      have nt : ∀ ys : List V, DTo (putAll key val ((bs.take i).filter keep) []) ≠ HO.tup ys := fun _ z => nomatch z
      have gD3 : G3 D = none := (g2.trans g3).old D _ hg hD' nt
      have hD3 := (g2.trans g3).hh _ _ hD'
      cases hk : keep b with
      | true =>
        rw [if_pos rfl]
        obtain ⟨k1, k2⟩ := hte hk
        refine k1.up mon_dd g3.gg H3 g3.sub _ fun u G4 H4 g4 p4 => ?_
        refine k2.up mon_v (g3.gg.trans g4.gg) H4 g4.sub _ fun z G5 H5 g5 p5 => ?_
        have gD4 : G4 D = none := g4.old D _ gD3 hD3 nt
        have hD4 := g4.hh _ _ hD3
        have gD5 : G5 D = none := g5.old D _ gD4 hD4 nt
        have hD5 := g5.hh _ _ hD4
        obtain ⟨qa, e1, e2⟩ := right_at (Dp.up g5.gg _ _ p4)
        have hl : (mR (putAll key val ((bs.take i).filter keep) [])).length < sizeLine := by
          have h1 := len_putAll (key := key) (val := val) ((bs.take i).filter keep) []
          have h2 := List.length_filter_le keep (bs.take i)
          rw [List.length_take] at h2
          rw [len_mR, sizeLine_eq]
          rw [List.length_nil] at h1
          omega
        refine ⟨_, kR (key b), qa, e1, g5.sub _ _ e2, hD5, hl, G5, (gp.trans (((g2.trans g3).trans g4).trans g5)).mut hD gD5, gD5, ?_⟩
        rw [upd_same, take_filter_yes hb hk, putAll_snoc, put_mR, show z = val b from p5]
      | false =>
        rw [if_neg (by simp)]
        refine ⟨G3, gp.trans (g2.trans g3), gD3, ?_⟩
        rw [take_filter_no hb hk]
        exact hD3
    · have e : i = bs.length := by omega
      subst e
      refine .inl ⟨w.stops H' hq, ?_⟩
      rw [List.take_length] at hD'
      exact q D _ G' H' (g1.trans gp) (g1.free0 hD) hg hD' rfl
theorem em_dct {te : TE} (h : EvM te σ G (fun o _ => o = DTo l)) : EvP te σ G (DctV l) := h.stay fun p o G' hp e => ⟨p, rfl, by rw [e]; exact upd_same⟩
theorem keys_at {G H : Hp} : ∀ {l : List (Rt × V)} {bs : List Addr}, IsKeys H (mR l) bs → DpAll K (addT G H) (bs.map V.ref) ((l.map (·.1)).map rD)
  | [], _, .nil => .nil
  | p :: l, _, .cons h t => .cons (.tup (xs := (kR p.1).map kV) (addT_tup h) (.cons (.str _) (.cons (.str _) (.cons (.str _) .nil)))) (keys_at t)
/-- list(d) -/
theorem em_listD (h : EvP te σ G (DctR l)) :
    EvM (tCB (fun xs H Q => ∃ d kvs, xs = [V.ref d] ∧ Rd H d (.dT kvs) ∧ ∀ p bs, H p = none → IsKeys H kvs bs → Q (.ref p) (upd H p (.lst (bs.map V.ref)))) (tCons te tNil)) σ G (fun o G' => ∃ xs, o = .lst xs ∧ DpAll K G' xs ((l.map (·.1)).map rD)) := fun H s Q q =>
  h H s _ fun v G1 H1 g1 ⟨d, e, hd⟩ => ⟨d, mR l, by rw [e], hd.elim (fun z => .inl (g1.sub _ _ z)) (fun ⟨o, z⟩ => .inr ⟨o, g1.sub _ _ z⟩), fun p bs hp hk => by
    have g2 := g1.addT
    exact q p _ (addT G1 H1) _ (g2.mnew hp) (g1.free0 hp) (g2.freeG hp) upd_same ⟨_, rfl, keys_at hk⟩⟩
theorem ev_listD (h : EvP te σ G (DctR l)) :
    EvP (tCB (fun xs H Q => ∃ d kvs, xs = [V.ref d] ∧ Rd H d (.dT kvs) ∧ ∀ p bs, H p = none → IsKeys H kvs bs → Q (.ref p) (upd H p (.lst (bs.map V.ref)))) (tCons te tNil)) σ G (DD K (.list ((l.map (·.1)).map rD))) :=
  (em_listD (K := K) h).stay fun p o G' hp ⟨xs, e, h⟩ => by
    subst e
    exact .lst upd_same (DpAll.up (same_new hp) _ _ h)
theorem dct_R (h : EvP te σ G (DctV l)) : EvP te σ G (DctR l) := h.imp fun _ _ _ ⟨d, e, h⟩ => ⟨d, e, .inl h⟩
theorem srt_r (K : PySem.W.Frag) {l : List Rt} (h : l.length ≤ 1000000) : Srt K rD l :=
  ⟨PySem.W.AllAlike.of fun _ _ => rfl, PySem.W.Sortable.tuples fun _ => ⟨_, _, rfl⟩, fun b _ => by simp [rD, PyData.depth, PyData.depthAll], h⟩
abbrev sortR (l : List Rt) : List Rt := l.mergeSort (PySem.W.dataLe false rD)
/-- sorted(d) -/
theorem ev_sortD (h : EvP te σ G (DctR l)) (hl : l.length ≤ 1000000) : EvP (tCB (rSortDT K rD) (tCons te tNil)) σ G (DD K (.list ((sortR (l.map (·.1))).map rD))) := fun H s Q q =>
  h H s _ fun v G1 H1 g1 ⟨d, e, hd⟩ => ⟨d, mR l, l.map (·.1), by rw [e], hd.elim (fun z => .inl (g1.sub _ _ z)) (fun ⟨o, z⟩ => .inr ⟨o, g1.sub _ _ z⟩), fun cs hk => by
      have z := keys_at (K := K) (G := fun _ => none) hk
      have e2 : addT (fun _ => none) H1 = tupsOf H1 := by
        funext b
        unfold addT tupsOf
        rfl
      rwa [e2] at z, srt_r K (by rw [List.length_map]; exact hl), fun p vs hp hv => by
    have g2 := g1.addT
    have sm : Same (tupsOf H1) (addT G1 H1) := fun b u e => by
      unfold tupsOf at e
      split at e
      · rename_i h; rw [← e]; exact addT_tup h
      · cases e
    refine q (.ref p) _ _ (g2.trans (Gr.new g2.sub hp)) (.lst upd_same (DpAll.up (sm.trans (same_new (g2.freeG hp))) _ _ hv))⟩
/-- d[r] = v, d ours -/
theorem run_dput {i : Nat} {d : Addr} {G0 H0 : Hp} {D : Ends} (g0 : Gr G0 H0 G H) (hk : EvP tk σ G (DD K (rD r))) (hv : EvP tv σ G (IsV v)) (e : σ[i]? = some (some (.ref d))) (hd : H d = some (DTo l)) (hg : G d = none) (h0 : H0 d = none) (hl : l.length ≤ 1000000)
    (k : ∀ G2 H2, Gr G0 H0 G2 H2 → G2 d = none → Same G G2 → H2 d = some (DTo (putK l r v)) → D.nx σ H2) : sDPut (tVar i) tk tv D σ H :=
  hv H g0.sub _ fun z G1 H1 g1 ez => ⟨.ref d, e, (hk.up mon_dd g1.gg) H1 g1.sub _ fun y G2 H2 g2 p2 => by
    obtain ⟨qa, e2, h2⟩ := right_at p2
    have g := g1.trans g2
    have hg2 : G2 d = none := g.old d _ hg hd fun _ z => nomatch z
    refine ⟨d, upd H2 d (DTo (putK l r v)), rfl, ?_, k G2 _ ((g0.trans g).mut h0 hg2) hg2 g.gg upd_same⟩
    rw [e2, show z = v from ez]
    show DPut H2 d (.ref qa) v (upd H2 d (.dT (mR (putK l r v))))
    rw [← put_mR]
    exact DPut.t (g.hh _ _ hd) (g2.sub _ _ h2) (by rw [len_mR, sizeLine_eq]; omega)⟩
end
end Hk

set_option Elab.async false
set_option linter.all false
set_option maxRecDepth 100000
set_option maxHeartbeats 1000000
/-! beginning. -/
namespace Hk
open PySem PySem.Spec PyProof.Rows L2
theorem sc_beginning : FnScope ["policy", "state", "people", "found", "right", "made", "person", "word"] ["policy", "state", "people"] (defScope s_beginning) := ⟨rfl, rfl, rfl, by decide +kernel, rfl, by decide +kernel, by decide +kernel⟩
section
variable {K : PySem.W.Frag} {σ : L2.St} {G H : Hp} {te ta : TE} {u : TS} {D : Ends}
theorem seq_setM {i : Nat} {R : HO → Hp → Prop} (h : EvM te σ G R) (s : Same G H) (k : ∀ p o G2 H2, Gr G H G2 H2 → H p = none → G2 p = none → H2 p = some o → R o G2 → u D (σ.set i (some (.ref p))) H2) : tSeq (tAsg te (gName i)) u D σ H :=
  h H s _ fun p o G2 H2 g h0 hg e r => k p o G2 H2 g h0 hg e r
theorem ev_notN {x : V} (h : EvP ta σ G (IsV x)) : EvP (tOp (fun x y H Q => y = .non ∧ Q (.bl (!decide (x = .non))) H) ta (tC .non)) σ G (IsV (.bl (!decide (x = .non)))) :=
  ev_op mon_v mon_v h (ev_c (P := IsV .non) rfl) fun x' y G' s ex ey => rv_val (fun H _ Q q => ⟨ey, by rw [ex]; exact q⟩) rfl
end
/-- the rights on what one person makes -/
def mk1 (ws : List Str) (p : Str) : List Rt := ws.map fun w => (p, w, plus p)
def madeR (ws : List Str) (ppl : List Str) : List Rt := ppl.flatMap (mk1 ws)
theorem len_madeR (ws : List Str) : ∀ ppl : List Str, (madeR ws ppl).length = ppl.length * ws.length
  | [] => by simp [madeR]
  | p :: l => by
    have h := len_madeR ws l
    unfold madeR at h ⊢
    rw [List.flatMap_cons, List.length_append, h, List.length_cons, Nat.succ_mul]
    unfold mk1
    rw [List.length_map]
    omega
/-- the rights at the beginning -/
def begL (rts : List Rt) (m : Option (List Str)) (ppl : List Str) : List Rt := rts ++ (match m with
  | some ws => madeR ws ppl
  | none => [])
abbrev putN (l : List Rt) : List (Rt × V) := putAll (fun r => r) (fun _ => V.non) l []
structure BegIn where
  rs : List Rule
  st : StIn
  ppl : List Str
structure BegIn.Ok (i : BegIn) : Prop where
  pol : PolOk i.rs
  lr : i.st.rts.length ≤ 1000
  lp : i.ppl.length ≤ 12
  lz : ∀ p ∈ i.ppl, p.length ≤ 1000
  ws : ∀ ws, madeOf i.rs = some ws → ws.length ≤ 9
def sp_beginning (K : PySem.W.Frag) (S Po : Addr) : Sp := SpM (fun (i : BegIn) vs G => ∃ v1 v2 v3, vs = [v1, v2, v3] ∧ PoV K Po i.rs v1 G ∧ StV K S i.st v2 G ∧ Dp K G v3 (.list (i.ppl.map sD)) ∧ i.Ok) (fun i o _ => o = DTo (putN (begL i.st.rts (madeOf i.rs) i.ppl)))
theorem madeOf_len {rs : List Rule} (ok : ∀ r ∈ rs, r.Ok) : ∀ ws, madeOf rs = some ws → ws.length ≤ 9 := by
  induction rs with
  | nil => intro ws e; cases e
  | cons r l ih =>
    intro ws e
    have z := ih fun r hr => ok r (List.mem_cons_of_mem _ hr)
    cases r with
    | make ws' =>
      have e : some ws' = some ws := e
      cases e
      exact (show WsOk ws from ok _ (List.mem_cons_self ..)).hi
    | fetch a b => exact z ws e
    | hand a b => exact z ws e
    | rais a b => exact z ws e
    | meet a b c => exact z ws e
section
variable {P : Program} {w : World} {K : PySem.W.Frag} {mg : Str → Option Value} {base : Heap} {S Po : Addr} (T : Tx K mg S Po)
include T
theorem ok_beginning : Fn P w K mg base 2 "beginning" ["policy", "state", "people"] (sp_beginning K S Po) := by
  obtain ⟨f_helper_of, fd_helper_of, G_helper_of, m_helper_of, k_helper_of, b_helper_of⟩ := (ok_helper_of (P := P) (w := w) (base := base) T)
  obtain ⟨f_Policymade, fd_Policymade, G_Policymade, M_Policymade, b_Policymade⟩ := (ok_Policymade (P := P) (w := w) (base := base) T)
  refine fn_mk (N := ["policy", "state", "people", "found", "right", "made", "person", "word"]) T.f_beginning (fun F => F.bindsN fun _ _ _ _ _ _ us hl => match us, hl with | [_, _, _], _ => rfl) sc_beginning (fun vs H Q E h => ?_) fun f cdv A outer s H vs Q E hr h => ?_
  · obtain ⟨n, G, sm, ⟨v1, v2, v3, rfl, _⟩, _⟩ := h
    rfl
  · obtain ⟨i, G, sm, ⟨v1, v2, v3, rfl, h1, h2, h3, ok⟩, q⟩ := h
    have hu := hu_of hr
    have lr := ok.lr
    have lp := ok.lp
    refine ⟨_, PSs.nox (pss_cons (ps_setDcT (i := 3) (own := [("right", 4)]) rfl hu sc_beginning.nd rfl rfl (sw_trueD rfl rfl rfl (by decide +kernel)) (pi_list (pe_fld (pv 1) rfl)) (blkOk_by (own := [("right", 4)]) (N := ["policy", "state", "people", "found", "right", "made", "person", "word"]) (sc := defScope s_beginning) (by decide +kernel)) (fun _ _ _ _ _ => (pg_name (i := 4) sc_beginning.nd rfl (Or.inl rfl))) (fun _ _ _ _ _ => pts_nil) (fun _ _ _ _ _ => (pv 4)) (fun _ _ _ _ _ => pe_non))
    (pss_cons (ps_set (i := 5) sc_beginning.nd rfl (Or.inl rfl) (pe_meth0 (pv 0) T.c_Policy M_Policymade G_Policymade (hr.mono (by decide)) b_Policymade .nil pass0))
    (pss_cons (ps_if (pt_cmpR op_notN (pv 5) pe_non (nomark _))
    (pss_one (ps_for PassesOwn.never rfl (pi_list (pv 2)) (pg_name (i := 6) sc_beginning.nd rfl (Or.inl rfl))
    (pss_one (ps_for PassesOwn.never rfl (pi_tup (pv 5)) (pg_name (i := 7) sc_beginning.nd rfl (Or.inl rfl))
    (pss_one (ps_dput hu (pv 3) (pe_tup (pa_cons (pv 6) (pa_cons (pv 7) (pa_cons (pe_call G_helper_of (hr.mono (by decide)) (by rfl) m_helper_of k_helper_of b_helper_of .nil pass0 (pa_cons (pv 6) pa_nil)) pa_nil)))) pe_non rfl)))))) pss_nil)
    (pss_one (ps_ret (pv 3)))))), ?_⟩
    refine seq_setM (em_dcT (bs := i.st.rts) (keep := fun _ => true) (key := fun r => r) (val := fun _ => V.non) (src_list (enc := rD) (ev_rights T (ev_var rfl h2))) (by omega) fun b hb v G' s i => ⟨_, tgt_name, rfl, eb_yes, fun _ => ⟨ev_var rfl i, ev_c rfl⟩⟩) sm fun d o G1 H1 g1 h0 hg e er => ?_
    rw [List.filter_eq_self.mpr (fun _ _ => rfl)] at er
    subst er
    have h11 := mon_po _ _ _ g1.gg h1
    refine seq_set (ev_methP i.rs (ev_var rfl h11) (by decide) fun v G' _ e => fun H s Q k => k [] _ H (Gr.refl s) ⟨v, rfl, e, ok.pol⟩) g1.sub fun m G2 H2 g2 hm => ?_
    have gd2 : G2 d = none := g2.old _ _ hg e fun _ z => nomatch z
    have hd2 := g2.hh _ _ e
    have g02 := g1.trans g2
    have fin : ∀ (σ' : L2.St) (G' H' : Hp), σ'[3]? = some (some (.ref d)) → Gr G H G' H' → G' d = none → H' d = some (DTo (putN (begL i.st.rts (madeOf i.rs) i.ppl))) → tRet (tVar 3) { nx := fun _ H' => Q .non H', rt := Q } σ' H' := fun σ' G' H' es gp hg' hd' =>
      ⟨_, es, q d _ G' H' gp h0 hg' hd' rfl⟩
    cases hmo : madeOf i.rs with
    | none =>
      rw [hmo] at hm
      have em : m = .non := by cases hm; rfl
      subst em
      refine seq_guard (eb_test (ev_notN (x := .non) (ev_var rfl rfl))) g2.sub fun G3 H3 g3 => ?_
      refine fin _ G3 H3 rfl (g02.trans g3) (g3.old _ _ gd2 hd2 fun _ z => nomatch z) ?_
      rw [hmo]
      unfold begL
      rw [List.append_nil]
      exact g3.hh _ _ hd2
    | some ws =>
      rw [hmo] at hm
      have lw := ok.ws ws hmo
      obtain ⟨tm, xm, rfl, _⟩ := dp_tup hm
      refine seq_ifT (eb_test (ev_notN (x := .ref tm) (ev_var rfl rfl))) g2.sub fun G3 H3 g3 => ?_
      have nt : ∀ (l : List (Rt × V)) (ys : List V), DTo l ≠ HO.tup ys := fun _ _ z => nomatch z
      have gd3 := g3.old _ _ gd2 hd2 (nt _)
      have hd3 := g3.hh _ _ hd2
      have g03 := g02.trans g3
      have h33 := Dp.up g03.gg _ _ h3
      have hm3 : Dp K G3 (.ref tm) (.tuple (ws.map sD)) := Dp.up g3.gg _ _ hm
      refine for_src (src_list (bs := i.ppl) (enc := sD) (ev_var rfl h33)) g3.sub fun G4 H4 g4 => ⟨fun j σ' G' H' => Gr G H G' H' ∧ G' d = none ∧ H' d = some (DTo (putN (i.st.rts ++ madeR ws (i.ppl.take j)))) ∧ ∃ a b c, σ' = [some v1, some v2, some v3, some (.ref d), a, some (.ref tm), b, c],
        ⟨g03.trans g4, g4.old _ _ gd3 hd3 (nt _), by rw [List.take_zero]; unfold madeR; rw [List.flatMap_nil, List.append_nil]; exact g4.hh _ _ hd3, _, _, _, rfl⟩, ?_, ?_⟩
      · rintro j p σ' G' H' hb s1 s2 ⟨gp, gd', hd', a1, b1, c1, rfl⟩ x G5 H5 g5 ix
        have ex := dp_str ix
        subst ex
        refine for_src (σ := [some v1, some v2, some v3, some (.ref d), a1, some (.ref tm), some (.str p), c1]) (src_tup (bs := ws) (enc := sD) (ev_var rfl (Dp.up ((g4.gg.trans s1).trans g5.gg) _ _ hm3))) g5.sub fun G6 H6 g6 => ⟨fun l σ' G' H' => Gr G H G' H' ∧ G' d = none ∧ H' d = some (DTo (putN (i.st.rts ++ madeR ws (i.ppl.take j) ++ (mk1 ws p).take l))) ∧ ∃ c, σ' = [some v1, some v2, some v3, some (.ref d), a1, some (.ref tm), some (.str p), c],
          ⟨(gp.trans g5).trans g6, (g5.trans g6).old _ _ gd' hd' (nt _), by rw [List.take_zero, List.append_nil]; exact (g5.trans g6).hh _ _ hd', _, rfl⟩, ?_, ?_⟩
        · rintro l wd σ' G' H' hb2 t1 t2 ⟨gp2, gd2', hd2', c2, rfl⟩ y G7 H7 g7 iy
          have ey := dp_str iy
          subst ey
          have hpm := List.mem_of_getElem? hb
          have hlt := (List.getElem?_eq_some_iff.mp hb2).1
          refine run_dput (K := K) (r := (p, wd, plus p)) (v := .non) (i := 3) (σ := [some v1, some v2, some v3, some (.ref d), a1, some (.ref tm), some (.str p), some (.str wd)]) (gp2.trans g7) (ev_r3 (str_dd (ev_var rfl rfl)) (str_dd (ev_var rfl rfl)) (str_dd (ev_call p (ea1 (ev_var (P := IsV (.str p)) rfl rfl) fun v G' _ e => ⟨by rw [show v = V.str p from e], ok.lz p hpm⟩)))) (ev_c rfl) rfl (g7.hh _ _ hd2') (g7.old _ _ gd2' hd2' (nt _)) h0 ?_ fun G8 H8 g8 gd8 s8 hd8 => ?_
          · refine Nat.le_trans (len_putAll _ _) ?_
            have k1 := len_madeR ws (i.ppl.take j)
            have k2 : (i.ppl.take j).length ≤ 12 := by rw [List.length_take]; omega
            have k3 : ((mk1 ws p).take l).length ≤ 9 := by rw [List.length_take]; unfold mk1; rw [List.length_map]; omega
            have k4 : (i.ppl.take j).length * ws.length ≤ 12 * 9 := Nat.mul_le_mul k2 lw
            rw [List.length_append, List.length_append, k1, List.length_nil]
            omega
          · refine ⟨G8, (t1.trans g7.gg).trans s8, g8.sub, g8, gd8, ?_, _, rfl⟩
            have e1 : (mk1 ws p)[l]? = some (p, wd, plus p) := by unfold mk1; rw [List.getElem?_map, hb2]; rfl
            rw [hd8, List.take_add_one, e1, ← List.append_assoc]
            show some (DTo (putK (putN _) _ _)) = some (DTo (putN (_ ++ [_])))
            rw [show putN ((i.st.rts ++ madeR ws (i.ppl.take j) ++ (mk1 ws p).take l) ++ [(p, wd, plus p)]) = putK (putN (i.st.rts ++ madeR ws (i.ppl.take j) ++ (mk1 ws p).take l)) (p, wd, plus p) .non from putAll_snoc]
        · rintro σ' G' H' t1 t2 ⟨gp2, gd2', hd2', c2, rfl⟩
          refine ⟨G', ((s1.trans g5.gg).trans g6.gg).trans t1, t2, gp2, gd2', ?_, _, _, _, rfl⟩
          have e1 : madeR ws (i.ppl.take (j + 1)) = madeR ws (i.ppl.take j) ++ mk1 ws p := by
            unfold madeR
            rw [List.take_add_one, hb, List.flatMap_append]
            simp
          have e2 : (mk1 ws p).take ws.length = mk1 ws p := List.take_of_length_le (by unfold mk1; rw [List.length_map]; exact Nat.le_refl _)
          rw [hd2', e1, e2, List.append_assoc]
      · rintro σ' G' H' s1 s2 ⟨gp, gd', hd', a1, b1, c1, rfl⟩
        refine fin _ G' H' rfl gp gd' ?_
        rw [hmo]
        rw [List.take_length] at hd'
        exact hd'
end
end Hk

set_option Elab.async false
set_option linter.all false
set_option maxRecDepth 100000
set_option maxHeartbeats 1000000
/-! Comprehensions with two fors; lists of ours that grow. -/
namespace Hk
open PySem PySem.Spec PyProof.Rows L2
section
variable {K : PySem.W.Frag} {σ : L2.St} {G H : Hp} {ta te : TE} {u : TS} {D : Ends}
theorem len_flat {β : Type} {n : Nat} {f : β → List PyData} : ∀ {l : List β}, (∀ b ∈ l, (f b).length ≤ n) → (l.flatMap f).length ≤ l.length * n
  | [], _ => Nat.le_of_eq (by simp)
  | b :: l, h => by
    have h1 := len_flat (l := l) (n := n) (f := f) fun x hx => h x (List.mem_cons_of_mem _ hx)
    have h2 := h b (List.mem_cons_self ..)
    rw [List.flatMap_cons, List.length_append, List.length_cons, Nat.succ_mul]
    omega
theorem yes_if {A B : Hp → Prop} (h : A H) : tYes σ H fun b H3 => if b = true then A H3 else B H3 := by
  show if true = true then A H else B H
  rw [if_pos rfl]
  exact h
theorem em_lc2 {β γ : Type} {bs : List β} {wi wi1 : TI} {g g1 : TG} {tt1 : TT} {vs vs1 : List Nat} {I : β → VP} {I1 : β → γ → VP} {cs : β → List γ} {keep : β → γ → Bool} {n : Nat} (f : β → γ → PyData) (src : SrcB wi σ G bs I) (hn : ∀ b ∈ bs, (cs b).length ≤ n) (hz : bs.length * n ≤ sizeLine)
    (turn : ∀ b, b ∈ bs → ∀ v G', Same G G' → I b v G' → ∃ σ2, Tgt g v (wipe σ vs) σ2 G' ∧ wipe σ2 vs = wipe σ vs ∧ SrcB wi1 σ2 G' (cs b) (I1 b) ∧
      ∀ c, c ∈ cs b → ∀ w G'', Same G' G'' → I1 b c w G'' → ∃ σ3, Tgt g1 w (wipe σ2 vs1) σ3 G'' ∧ wipe σ3 vs1 = wipe σ2 vs1 ∧ EvB tt1 σ3 G'' (keep b c) ∧ (keep b c = true → EvP te σ3 G'' (DD K (f b c)))) :
    EvM (tLc2 wi g tYes wi1 g1 tt1 te vs vs1) σ G (fun o G' => ∃ xs, o = .lst xs ∧ DpAll K G' xs (bs.flatMap fun b => ((cs b).filter (keep b)).map (f b))) := fun H s Q q =>
  src H s _ fun J G1 H1 g1' w D hD => by
    let out : β → List PyData := fun b => ((cs b).filter (keep b)).map (f b)
    let Pv : Nat → Hp → Prop := fun i H' => ∃ G' acc, Gr G1 H1 G' H' ∧ G' D = none ∧ H' D = some (.lst acc) ∧ DpAll K G' acc ((bs.take i).flatMap out)
    have nt : ∀ (acc ys : List V), HO.lst acc ≠ HO.tup ys := fun _ _ z => nomatch z
    have outl : ∀ b ∈ bs, (out b).length ≤ n := fun b hb => by
      show (((cs b).filter (keep b)).map (f b)).length ≤ n
      rw [List.length_map]
      exact Nat.le_trans (List.length_filter_le _ _) (hn b hb)
    refine ⟨fun i m H => m = bs.length - i ∧ i ≤ bs.length ∧ Pv i H, ⟨bs.length, by simp, Nat.zero_le _, G1, [], (Gr.refl g1'.sub).mnew hD, g1'.freeG hD, upd_same, .nil⟩, ?_⟩
    rintro i m H' ⟨rfl, hi, G', acc, gp, hg, hD', he⟩
    have hq : Same G1 H' := gp.gg.trans gp.sub
    by_cases hlt : i < bs.length
    · refine .inr ⟨w.goes i H' hlt hq, Pv (i + 1), fun H'' p' => ⟨bs.length - (i + 1), by omega, rfl, hlt, p'⟩, fun x H2 y => ?_⟩
      obtain ⟨G2, b, g2, hb, ib⟩ := w.yields i H' x H2 hlt hq y G' gp.gg gp.sub
      have hbm := List.mem_of_getElem? hb
      obtain ⟨σ2, ht, hw, src1, turn1⟩ := turn b hbm x G2 (g1'.gg.trans (gp.gg.trans g2.gg)) ib
      refine ht H2 g2.sub _ ⟨hw, yes_if ?_⟩
      refine src1 H2 g2.sub _ fun J1 G4 H4 g4 w1 => ?_
      let P1 : Nat → Hp → Prop := fun j H'' => ∃ G'' acc', Gr G1 H1 G'' H'' ∧ Same G4 G'' ∧ G'' D = none ∧ H'' D = some (.lst acc') ∧ DpAll K G'' acc' ((bs.take i).flatMap out ++ (((cs b).take j).filter (keep b)).map (f b))
      have gA := g2.trans g4
      refine ⟨fun j k H'' => k = (cs b).length - j ∧ j ≤ (cs b).length ∧ P1 j H'', ⟨(cs b).length, by simp, Nat.zero_le _, G4, acc, gp.trans gA, Same.refl _, gA.old D _ hg hD' (nt _), gA.hh _ _ hD', ?_⟩, ?_⟩
      · rw [List.take_zero, List.filter_nil, List.map_nil, List.append_nil]
        exact DpAll.up gA.gg _ _ he
      · rintro j k H5 ⟨rfl, hj, G5, acc5, gp5, s45, hg5, hD5, he5⟩
        have hq5 : Same G4 H5 := s45.trans gp5.sub
        by_cases hjl : j < (cs b).length
        · refine .inr ⟨w1.goes j H5 hjl hq5, P1 (j + 1), fun H'' p' => ⟨(cs b).length - (j + 1), by omega, rfl, hjl, p'⟩, fun x1 H6 y1 => ?_⟩
          obtain ⟨G6, c, g6, hc, ic⟩ := w1.yields j H5 x1 H6 hjl hq5 y1 G5 s45 gp5.sub
          obtain ⟨σ3, ht3, hw3, htt, hte⟩ := turn1 c (List.mem_of_getElem? hc) x1 G6 (g4.gg.trans (s45.trans g6.gg)) ic
          refine ht3 H6 g6.sub _ ⟨hw3, htt H6 g6.sub _ fun G7 H7 g7 => ?_⟩
          have gB := g6.trans g7
          have gD7 : G7 D = none := gB.old D _ hg5 hD5 (nt _)
          have hD7 := gB.hh _ _ hD5
          cases hk : keep b c with
          | true =>
            rw [if_pos rfl]
            refine (hte hk).up mon_dd g7.gg H7 g7.sub _ fun v G8 H8 g8 p8 => ?_
            have hl : acc5.length < sizeLine := by
              have e1 := DpAll.len he5
              have e2 := len_flat (l := bs.take i) (n := n) (f := out) fun x hx => outl x (List.mem_of_mem_take hx)
              have e3 := List.length_filter_le (keep b) ((cs b).take j)
              have e4 := hn b hbm
              rw [List.length_take] at e2 e3
              rw [List.length_append, List.length_map] at e1
              have e5 : min i bs.length * n + n ≤ bs.length * n := by
                rw [Nat.min_eq_left hi, ← Nat.succ_mul]
                exact Nat.mul_le_mul_right _ hlt
              omega
            refine ⟨acc5, g8.hh _ _ hD7, hl, G8, acc5 ++ [v], (gp5.trans (gB.trans g8)).mut hD (g8.old D _ gD7 hD7 (nt _)), s45.trans (gB.gg.trans g8.gg), g8.old D _ gD7 hD7 (nt _), upd_same, ?_⟩
            rw [take_filter_yes hc hk, List.map_append, ← List.append_assoc]
            exact DpAll.snoc (DpAll.up (gB.gg.trans g8.gg) _ _ he5) p8
          | false =>
            rw [if_neg (by simp)]
            refine ⟨G7, acc5, gp5.trans gB, s45.trans gB.gg, gD7, hD7, ?_⟩
            rw [take_filter_no hc hk]
            exact DpAll.up gB.gg _ _ he5
        · have e : j = (cs b).length := by omega
          subst e
          refine .inl ⟨w1.stops H5 hq5, G5, acc5, gp5, hg5, hD5, ?_⟩
          rw [List.take_length] at he5
          have e2 : (bs.take (i + 1)).flatMap out = (bs.take i).flatMap out ++ out b := by
            rw [List.take_add_one, hb, List.flatMap_append]
            simp
          rw [e2]
          exact he5
    · have e : i = bs.length := by omega
      subst e
      refine .inl ⟨w.stops H' hq, ?_⟩
      rw [List.take_length] at he
      exact q D _ G' H' (g1'.trans gp) (g1'.free0 hD) hg hD' ⟨acc, rfl, he⟩
/-- xs.append(e), xs ours -/
theorem run_append {i : Nat} {l : Addr} {xs : List V} {G0 H0 : Hp} {P : VP} (g0 : Gr G0 H0 G H) (h : EvP te σ G P) (e : σ[i]? = some (some (.ref l))) (hl : H l = some (.lst xs)) (hg : G l = none) (h0 : H0 l = none) (hz : xs.length < sizeLine)
    (k : ∀ v G2 H2, Gr G0 H0 G2 H2 → G2 l = none → Same G G2 → P v G2 → H2 l = some (.lst (xs ++ [v])) → D.nx σ H2) : tDrop (tBM K "list" rAppend (tVar i) (tCons te tNil)) D σ H :=
  ⟨.ref l, e, .inl ⟨rfl, _, SqL.of hl⟩, h H g0.sub _ fun v G2 H2 g p => ⟨l, xs, v, rfl, rfl, g.hh _ _ hl, hz, by
    have hg2 : G2 l = none := g.old l _ hg hl fun _ z => nomatch z
    exact k v G2 _ ((g0.trans g).mut h0 hg2) hg2 g.gg p upd_same⟩⟩
/-- xs.extend(ys), xs ours, ys a new list -/
theorem run_extend {i : Nat} {l : Addr} {xs : List V} {G0 H0 : Hp} {ds : List PyData} (g0 : Gr G0 H0 G H) (h : EvM te σ G (fun o G' => ∃ ys, o = .lst ys ∧ DpAll K G' ys ds)) (e : σ[i]? = some (some (.ref l))) (hl : H l = some (.lst xs)) (hg : G l = none) (h0 : H0 l = none) (hz : xs.length + ds.length ≤ sizeLine)
    (k : ∀ ys G2 H2, Gr G0 H0 G2 H2 → G2 l = none → Same G G2 → DpAll K G2 ys ds → H2 l = some (.lst (xs ++ ys)) → D.nx σ H2) : tDrop (tBM K "list" rExtend (tVar i) (tCons te tNil)) D σ H :=
  ⟨.ref l, e, .inl ⟨rfl, _, SqL.of hl⟩, h H g0.sub _ fun p o G2 H2 g hp hgp e2 ⟨ys, eo, hd⟩ => by
    subst eo
    have hg2 : G2 l = none := g.old l _ hg hl fun _ z => nomatch z
    exact ⟨l, p, xs, ys, rfl, rfl, g.hh _ _ hl, e2, by rw [DpAll.len hd]; exact hz, k ys G2 _ ((g0.trans g).mut h0 hg2) hg2 g.gg hd upd_same⟩⟩
end
end Hk

set_option Elab.async false
set_option linter.all false
set_option maxRecDepth 100000
set_option maxHeartbeats 1000000
/-! deeds_by. -/
namespace Hk
open PySem PySem.Spec PyProof.Rows L2
theorem sc_deeds_by : FnScope ["rule", "number", "person", "by_first", "own", "found", "first", "other", "rows", "second", "over", "pair"] ["rule", "number", "person", "by_first"] (defScope s_deeds_by) := ⟨rfl, rfl, rfl, by decide +kernel, rfl, by decide +kernel, by decide +kernel⟩
/-- what a party has, on whom -/
def own (rts : List Rt) (p : Str) : List (Str × Str) := (rts.filter fun r => decide (r.1 = p)).map fun r => (r.2.1, r.2.2)
/-- the rights by who has them -/
def ByV (K : PySem.W.Frag) (rts : List Rt) : VP := fun v G => ∃ d kvs, v = .ref d ∧ G d = some (.dK kvs) ∧ ∀ p : Str, (valV kvs (.inr p) = none ∧ own rts p = []) ∨ ∃ u, valV kvs (.inr p) = some u ∧ Dp K G u (.list ((own rts p).map pD))
theorem mon_by {K : PySem.W.Frag} {rts : List Rt} : Mon (ByV K rts) := fun v _ _ s ⟨d, kvs, e, h, f⟩ => ⟨d, kvs, e, s _ _ h, fun p => (f p).imp id fun ⟨u, h1, h2⟩ => ⟨u, h1, Dp.up s _ _ h2⟩⟩
section
variable {K : PySem.W.Frag} {σ : L2.St} {G H : Hp} {ta tb tk : TE} {rts : List Rt} {p : Str}
theorem ev_getBy (hb : EvP tb σ G (ByV K rts)) (hk : EvP tk σ G (IsV (.str p))) : EvP (tDGet2 tb tk (tLst tNil)) σ G (DD K (.list ((own rts p).map pD))) := fun H s Q q =>
  hb H s _ fun x G1 H1 g1 ⟨d, kvs, e, hd, f⟩ => by
    have hd1 := g1.sub _ _ hd
    refine ⟨d, e, .inl ⟨kvs, .inl hd1⟩, (hk.up mon_v g1.gg) H1 g1.sub _ fun y G2 H2 g2 ey => ?_⟩
    have el : EvP (tLst tNil) σ G2 (DD K (.list [])) := ev_lst ead_nil (by decide)
    refine el H2 g2.sub _ fun z G3 H3 g3 ez => ⟨valV kvs (.inr p), ?_, ?_⟩
    · rw [show y = V.str p from ey]
      exact DGet.k (k := Sum.inr p) (g3.hh _ _ (g2.hh _ _ hd1))
    · rcases f p with ⟨h1, h2⟩ | ⟨w, h1, h2⟩
      · rw [h1]
        rw [h2] at q
        exact q z G3 H3 ((g1.trans g2).trans g3) ez
      · rw [h1]
        exact q w G3 H3 ((g1.trans g2).trans g3) (Dp.up (g2.gg.trans g3.gg) _ _ h2)
theorem seq_parM {i j : Nat} {P : VP} {R : HO → Hp → Prop} {u : TS} {D : Ends} (h : EvP ta σ G P) (m : Mon P) (h2 : ∀ G', Same G G' → EvM tb σ G' R) (s : Same G H)
    (k : ∀ v p o G2 H2, Gr G H G2 H2 → P v G2 → H p = none → G2 p = none → H2 p = some o → R o G2 → u D ((σ.set i (some v)).set j (some (.ref p))) H2) : tSeq (tPar i j (tCons ta (tCons tb tNil))) u D σ H :=
  h H s _ fun v G1 H1 g1 p1 => h2 G1 g1.gg H1 g1.sub _ fun p o G2 H2 g2 hp hg e r => ⟨v, .ref p, rfl, k v p o G2 H2 (g1.trans g2) (m _ _ _ g2.gg p1) (g1.free0 hp) hg e r⟩
end
def Rule.word : Rule → Str
  | .fetch w _ => w
  | .hand w _ => w
  | .rais w _ => w
  | .meet w _ _ => w
  | .make _ => ""
def fiveOf (n : Nat) (p o : Str) (ps : List (Str × Str)) (so : Str × Str) : List Deed := (ps.filter fun pr => decide (pr.1 = so.1)).map fun pr => .five n p o so.2 pr
def dOne (r : Rule) (n : Nat) (p : Str) (rts : List Rt) (fo : Str × Str) : List Deed :=
  if fo.1 = r.word then
    match r with
    | .fetch _ ps => (own rts fo.2).flatMap (fiveOf n p fo.2 ps)
    | .hand _ ps => (own rts p).flatMap (fiveOf n p fo.2 ps)
    | .rais _ _ => [.three n p fo.2]
    | .meet _ x _ => if (x, fo.2) ∈ own rts p then [.three n p fo.2] else []
    | .make _ => []
  else []
/-- the deeds of a rule that a person can do -/
def dby (r : Rule) (n : Nat) (p : Str) (rts : List Rt) : List Deed := (own rts p).flatMap (dOne r n p rts)
/-- texts that may be compared -/
def okR (r : Rt) : Prop := okT r.1 ∧ okT r.2.1 ∧ okT r.2.2
structure DbIn where
  r : Rule
  n : Nat
  p : Str
  rts : List Rt
structure DbIn.Ok (i : DbIn) : Prop where
  ok : i.r.Ok
  nm : i.r.kind ≠ ("make" : Str)
  lr : i.rts.length ≤ 400
  cm : ∀ r ∈ i.rts, okR r
def sp_deeds_by (K : PySem.W.Frag) : Sp := SpI (fun (i : DbIn) vs G => ∃ v1 v4, vs = [v1, .int i.n, .str i.p, v4] ∧ Dp K G v1 (ruleD i.r) ∧ ByV K i.rts v4 G ∧ i.Ok) (fun i => DD K (.list ((dby i.r i.n i.p i.rts).map deedD)))
theorem own_len {rts : List Rt} {p : Str} : (own rts p).length ≤ rts.length := by
  unfold own
  rw [List.length_map]
  exact List.length_filter_le _ _
theorem own_mem {rts : List Rt} {p : Str} {x : Str × Str} (h : x ∈ own rts p) : (p, x.1, x.2) ∈ rts := by
  obtain ⟨r, hr, e⟩ := List.mem_map.mp h
  obtain ⟨h1, h2⟩ := List.mem_filter.mp hr
  have := of_decide_eq_true h2
  rw [← e, ← this]
  exact h1
theorem eqv_pD (a b : Str × Str) : PyData.eqv (pD a) (pD b) = decide (a = b) := by
  obtain ⟨a1, a2⟩ := a
  obtain ⟨b1, b2⟩ := b
  simp [pD, PyData.eqv, PyData.eqvAll]
  rfl
theorem any_pD {x : Str × Str} : ∀ {l : List (Str × Str)}, ((l.map pD).any fun z => PyData.eqv z (pD x)) = decide (x ∈ l)
  | [] => rfl
  | a :: l => by
    rw [List.map_cons, List.any_cons, any_pD, eqv_pD]
    by_cases h : a = x
    · subst h; simp
    · simp [h, Ne.symm h]
theorem cm_pD {x : Str × Str} (h1 : okT x.1) (h2 : okT x.2) : Cm 1 (pD x) := Cm.tuple fun d hd => by
  simp only [List.mem_cons, List.mem_nil_iff, or_false] at hd
  rcases hd with rfl | rfl
  · exact cm_str h1
  · exact cm_str h2
theorem len_flatB {β γ : Type} {n : Nat} {f : β → List γ} : ∀ {l : List β}, (∀ b ∈ l, (f b).length ≤ n) → (l.flatMap f).length ≤ l.length * n
  | [], _ => Nat.le_of_eq (by simp)
  | b :: l, h => by
    have h1 := len_flatB (l := l) (n := n) (f := f) fun x hx => h x (List.mem_cons_of_mem _ hx)
    have h2 := h b (List.mem_cons_self ..)
    rw [List.flatMap_cons, List.length_append, List.length_cons, Nat.succ_mul]
    omega
theorem len_five {n : Nat} {p o : Str} {ps : List (Str × Str)} {so : Str × Str} : (fiveOf n p o ps so).length ≤ ps.length := by
  unfold fiveOf
  rw [List.length_map]
  exact List.length_filter_le _ _
theorem len_dOne {r : Rule} {n : Nat} {p : Str} {rts : List Rt} {fo : Str × Str} (ok : r.Ok) : (dOne r n p rts fo).length ≤ rts.length * 9 + 1 := by
  unfold dOne
  split
  · cases r with
    | fetch w ps =>
      have h1 := len_flatB (l := own rts fo.2) (n := 9) (f := fiveOf n p fo.2 ps) fun b _ => Nat.le_trans len_five (show PsOk ps from ok.2).hi
      have h2 := @own_len rts fo.2
      show ((own rts fo.2).flatMap (fiveOf n p fo.2 ps)).length ≤ _
      omega
    | hand w ps =>
      have h1 := len_flatB (l := own rts p) (n := 9) (f := fiveOf n p fo.2 ps) fun b _ => Nat.le_trans len_five (show PsOk ps from ok.2).hi
      have h2 := @own_len rts p
      show ((own rts p).flatMap (fiveOf n p fo.2 ps)).length ≤ _
      omega
    | rais a b => exact Nat.le_add_left _ _
    | meet a x c =>
      show (if (x, fo.2) ∈ own rts p then [Deed.three n p fo.2] else []).length ≤ _
      split
      · exact Nat.le_add_left _ _
      · exact Nat.zero_le _
    | make ws => exact Nat.zero_le _
  · exact Nat.zero_le _
theorem map_five {n : Nat} {p o : Str} {ps : List (Str × Str)} {l : List (Str × Str)} : (l.flatMap fun so => (ps.filter fun pr => decide (pr.1 = so.1)).map fun pr => deedD (.five n p o so.2 pr)) = (l.flatMap (fiveOf n p o ps)).map deedD := by
  rw [List.map_flatMap]
  congr 1
  funext so
  unfold fiveOf
  rw [List.map_map]
  rfl
theorem ev_word {K : PySem.W.Frag} {σ : L2.St} {G : Hp} {ta : TE} {r : Rule} (h : EvP ta σ G (DD K (ruleD r))) (nm : r.kind ≠ ("make" : Str)) : EvP (tOp (rIxT K) ta (tC (.int 1))) σ G (IsV (.str r.word)) := by
  cases r with
  | make ws => exact absurd rfl nm
  | fetch a b => exact dd_str (ev_ixT (ds := [.str "fetch", .str a, .tuple (b.map pD)]) h (ev_c rfl) rfl)
  | hand a b => exact dd_str (ev_ixT (ds := [.str "hand", .str a, .tuple (b.map pD)]) h (ev_c rfl) rfl)
  | rais a b => exact dd_str (ev_ixT (ds := [.str "raise", .str a, .str b]) h (ev_c rfl) rfl)
  | meet a b c => exact dd_str (ev_ixT (ds := [.str "meet", .str a, .str b, .str c]) h (ev_c rfl) rfl)
section
variable {P : Program} {w : World} {K : PySem.W.Frag} {mg : Str → Option Value} {base : Heap} {S Po : Addr} (T : Tx K mg S Po)
include T
theorem ok_deeds_by : Fn P w K mg base 1 "deeds_by" ["rule", "number", "person", "by_first"] (sp_deeds_by K) := by
  refine fn_mk (N := ["rule", "number", "person", "by_first", "own", "found", "first", "other", "rows", "second", "over", "pair"]) T.f_deeds_by (fun F => F.bindsN fun _ _ _ _ _ _ us hl => match us, hl with | [_, _, _, _], _ => rfl) sc_deeds_by (fun vs H Q E h => ?_) fun f cdv A outer s H vs Q E hr h => ?_
  · obtain ⟨n, G, sm, ⟨v1, v2, rfl, _⟩, _⟩ := h
    rfl
  · obtain ⟨⟨r, n, p, rts⟩, G, sm, ⟨v1, v4, rfl, h1, h4, ok⟩, q⟩ := h
    have hu := hu_of hr
    have hu65 : A.units + 3 + 65 < cLine := by have := hr.un; show A.units + 3 + 65 < cLine; have h2 : (A.deeper (envOfC "deeds_by" (defScope s_deeds_by) s.heap.objs.size f cdv)).units = A.units + 3 := rfl; omega
    refine ⟨_, PSs.nox (pss_cons (ps_par (i := 4) (j := 5) rfl sc_deeds_by.nd rfl rfl (by decide) rfl rfl (pa_cons (pe_dget2 hu (pv 3) (pv 2) (pe_lst pa_nil) ⟨rfl, rfl, rfl, rfl⟩) (pa_cons (pe_lst pa_nil) pa_nil)) (by rfl))
    (pss_cons (ps_for PassesOwn.never rfl (pi_list (pv 4)) (pg_tup rfl (pgs_cons (pg_name (i := 6) sc_deeds_by.nd rfl (Or.inl rfl)) (pgs_cons (pg_name (i := 7) sc_deeds_by.nd rfl (Or.inr rfl)) pgs_nil)))
    (pss_one (ps_if (pt_cmpR op_eq (pv 6) (pe_ix ix_tup (pv 0) pe_int (fun _ _ => rfl)) (nomark _))
    (pss_one (ps_match (pe_ix ix_tup (pv 0) pe_int (fun _ _ => rfl))
    (pmc_cons (pm_or (pms_cons pm_val (pms_cons pm_val pms_nil)))
    (pss_cons (ps_set (i := 8) sc_deeds_by.nd rfl (Or.inl rfl) (pe_ifExp (pt_cmpR op_eq (pe_ix ix_tup (pv 0) pe_int (fun _ _ => rfl)) pe_str (nomark _)) (pe_dget2 hu (pv 3) (pv 7) (pe_lst pa_nil) ⟨rfl, rfl, rfl, rfl⟩) (pv 4)))
    (pss_one (ps_expr (pe_bm PySem.F.plainAttrs_list PySem.F.slot_list_extend PySem.F.type_list_extend mt_extend (pv 5) (pa_cons (pe_lc2 (own := [("second", 9), ("over", 10), ("pair", 11)]) (vs1 := [11]) rfl sc_deeds_by.nd (pi_list (pv 8)) (blkOk_by (own := [("second", 9), ("over", 10), ("pair", 11)]) (N := ["rule", "number", "person", "by_first", "own", "found", "first", "other", "rows", "second", "over", "pair"]) (sc := defScope s_deeds_by) (by decide +kernel)) (by decide) (fun _ _ _ _ _ => (show PG _ _ (gTup K 2 _) from pg_tup rfl (pgs_cons (pg_name (i := 9) sc_deeds_by.nd rfl (Or.inl rfl)) (pgs_cons (pg_name (i := 10) sc_deeds_by.nd rfl (Or.inl rfl)) pgs_nil)))) (fun _ _ _ _ _ => pts_nil) (fun _ _ _ _ _ => (show PI _ _ _ (iTup K _) from pi_tup (pe_ix (show IxR _ (rIxT K) from ix_tup) (pv 0) pe_int (fun _ _ => rfl)))) (fun _ _ _ _ _ => (pg_name (i := 11) sc_deeds_by.nd rfl (Or.inl rfl))) (fun _ _ _ _ _ => (pts_one (pt_cmpR op_eq (pe_ix (show IxR _ (rIxT K) from ix_tup) (pv 11) pe_int (fun _ _ => rfl)) (pv 9) (nomark _)))) (fun _ _ _ _ _ => (pe_tup (pa_cons (pv 1) (pa_cons (pv 2) (pa_cons (pv 7) (pa_cons (pv 10) (pa_cons (pv 11) pa_nil)))))))) pa_nil)))))
    (pmc_cons pm_val
    (pss_one (ps_expr (pe_bm PySem.F.plainAttrs_list PySem.F.slot_list_append PySem.F.type_list_append mt_append (pv 5) (pa_cons (pe_tup (pa_cons (pv 1) (pa_cons (pv 2) (pa_cons (pv 7) pa_nil)))) pa_nil))))
    (pmc_cons pm_val
    (pss_one (ps_if (pt_cmpR (op_inD hu65) (pe_tup (pa_cons (pe_ix ix_tup (pv 0) pe_int (fun _ _ => rfl)) (pa_cons (pv 7) pa_nil))) (pv 4) rfl)
    (pss_one (ps_expr (pe_bm PySem.F.plainAttrs_list PySem.F.slot_list_append PySem.F.type_list_append mt_append (pv 5) (pa_cons (pe_tup (pa_cons (pv 1) (pa_cons (pv 2) (pa_cons (pv 7) pa_nil)))) pa_nil)))) pss_nil))
    pmc_nil))))) pss_nil)))
    (pss_one (ps_ret (pv 5))))), ?_⟩
    have lr : rts.length ≤ 400 := ok.lr
    have nm : r.kind ≠ ("make" : Str) := ok.nm
    have okr : r.Ok := ok.ok
    refine seq_parM (P := DD K (.list ((own rts p).map pD))) (R := fun o G' => ∃ xs, o = .lst xs ∧ DpAll K G' xs []) (ev_getBy (ev_var rfl h4) (ev_var rfl rfl)) mon_dd (fun G' _ => em_lst (K := K) ead_nil (by decide)) sm fun x4 l o G2 H2 g02 p4 hl0 hgl e2 ⟨xs, eo, hxs⟩ => ?_
    subst eo
    refine seq_for (src_list (bs := own rts p) (enc := pD) (ev_var rfl p4)) g02.sub fun G3 H3 g3 => ⟨fun j σ' G' H' => Gr G H G' H' ∧ G' l = none ∧ (∃ xs, H' l = some (.lst xs) ∧ DpAll K G' xs ((((own rts p).take j).flatMap (dOne r n p rts)).map deedD)) ∧
        ∃ a b c d e f, σ' = [some v1, some (.int n), some (.str p), some v4, some x4, some (.ref l), a, b, c, d, e, f], ⟨g02.trans g3, g3.old _ _ hgl e2 (fun _ z => nomatch z), ⟨xs, g3.hh _ _ e2, DpAll.up g3.gg _ _ hxs⟩, _, _, _, _, _, _, rfl⟩, ?_, ?_⟩
    · rintro j fo σ' G' H' hb s1 s2 ⟨gp, hg', ⟨ys, hd', hy⟩, a1, b1, c1, d1, e1', f1, rfl⟩ x G5 H5 g5 ix
      have hbm := List.mem_of_getElem? hb
      have hjl := (List.getElem?_eq_some_iff.mp hb).1
      obtain ⟨x6, x7, p6, p7, tg⟩ := tgt_2 (σ := [some v1, some (.int n), some (.str p), some v4, some x4, some (.ref l), a1, b1, c1, d1, e1', f1]) (g1 := gName 6) (g2 := gName 7) ix (fun v1 _ => tgt_name) (fun v1 v2 _ _ => tgt_name)
      refine tg H5 g5.sub _ ?_
      have ntl : ∀ (xs ys : List V), HO.lst xs ≠ HO.tup ys := fun _ _ z => nomatch z
      have ex6 := dp_str p6
      have ex7 := dp_str p7
      subst ex6 ex7
      have step : ∀ (σ6 : L2.St) (G' H' : Hp) (xs : List V), Same G3 G' → Gr G H G' H' → G' l = none → H' l = some (.lst xs) → DpAll K G' xs ((((own rts p).take j).flatMap (dOne r n p rts)).map deedD ++ (dOne r n p rts fo).map deedD) →
          (∃ a b c d e f, σ6 = [some v1, some (.int n), some (.str p), some v4, some x4, some (.ref l), a, b, c, d, e, f]) → ∃ G'', Same G3 G'' ∧ Same G'' H' ∧ Gr G H G'' H' ∧ G'' l = none ∧ (∃ xs, H' l = some (.lst xs) ∧ DpAll K G'' xs ((((own rts p).take (j + 1)).flatMap (dOne r n p rts)).map deedD)) ∧
          ∃ a b c d e f, σ6 = [some v1, some (.int n), some (.str p), some v4, some x4, some (.ref l), a, b, c, d, e, f] := fun σ6 G' H' xs s g hg hh hd hs =>
        ⟨G', s, g.sub, g, hg, ⟨xs, hh, by rw [List.take_add_one, hb, List.flatMap_append, List.map_append]; simpa using hd⟩, hs⟩
      have gq5 := gp.trans g5
      have s35 : Same G3 G5 := s1.trans g5.gg
      have hg5 := g5.old _ _ hg' hd' (ntl _)
      have hd5 := g5.hh _ _ hd'
      have hy5 := DpAll.up g5.gg _ _ hy
      have hr5 := Dp.up gq5.gg _ _ h1
      have hys : ys.length ≤ j * 3601 := by
        have k1 := DpAll.len hy
        have k2 := len_flatB (l := (own rts p).take j) (n := 3601) (f := dOne r n p rts) fun b _ => Nat.le_trans (len_dOne okr) (by show rts.length * 9 + 1 ≤ 3601; omega)
        rw [List.length_map] at k1
        rw [List.length_take] at k2
        rw [k1]
        exact Nat.le_trans k2 (Nat.mul_le_mul_right _ (Nat.min_le_left _ _))
      have hj4 : j < 400 := Nat.lt_of_lt_of_le hjl (Nat.le_trans own_len lr)
      have hsz : ys.length + 3601 ≤ sizeLine := by rw [sizeLine_eq]; omega
      refine run_if (b := decide (fo.1 = r.word)) (eb_test (ev_eqS (ev_var rfl rfl) (ev_word (ev_var rfl hr5) nm))) g5.sub (fun hw G6 H6 g6 => ?_) (fun hw G6 H6 g6 => ?_)
      · have hw := of_decide_eq_true hw
        have gq6 := gq5.trans g6
        have hg6 := g6.old _ _ hg5 hd5 (ntl _)
        have hd6 := g6.hh _ _ hd5
        have hy6 := DpAll.up g6.gg _ _ hy5
        have hr6 := Dp.up g6.gg _ _ hr5
        have by6 := mon_by _ _ _ gq6.gg h4
        have p46 := Dp.up (((g3.gg.trans s1).trans g5.gg).trans g6.gg) _ _ p4
        cases r with
        | make ws => exact absurd rfl nm
        | rais a b =>
          refine run_match (z := "raise") (ev_kind (r := .rais a b) (ev_var rfl hr6)) g6.sub fun G7 H7 g7 => ?_
          refine tmc_no (by decide) (tmc_yes (by decide) ?_)
          refine run_append (K := K) (i := 5) (P := DD K (deedD (.three n p fo.2))) (gq6.trans g7) (ev_tup (ead_cons (int_dd (ev_var rfl rfl)) (ead_cons (str_dd (ev_var rfl rfl)) (ead_cons (str_dd (ev_var rfl rfl)) ead_nil))) (by show 3 ≤ 1000; decide)) rfl (g7.hh _ _ hd6) (g7.old _ _ hg6 hd6 (ntl _)) hl0 (by omega) fun v G8 H8 g8 gl8 s8 pv hd8 => ?_
          refine step _ G8 H8 _ (((s35.trans g6.gg).trans g7.gg).trans s8) g8 gl8 hd8 ?_ ⟨_, _, _, _, _, _, rfl⟩
          have e1 : dOne (.rais a b) n p rts fo = [.three n p fo.2] := by
            unfold dOne
            rw [if_pos hw]
          rw [e1]
          exact DpAll.snoc (DpAll.up (g7.gg.trans s8) _ _ hy6) pv
        | meet a b c =>
          refine run_match (z := "meet") (ev_kind (r := .meet a b c) (ev_var rfl hr6)) g6.sub fun G7 H7 g7 => ?_
          refine tmc_no (by decide) (tmc_no (by decide) (tmc_yes (by decide) ?_))
          have hr7 : Dp K G7 v1 (.tuple [.str "meet", .str a, .str b, .str c]) := Dp.up g7.gg _ _ hr6
          have p47 := Dp.up g7.gg _ _ p46
          have cm : ∀ y ∈ own rts p, Cm 1 (pD y) := fun y hy => by
            have z := ok.cm _ (own_mem hy)
            exact cm_pD z.2.1 z.2.2
          have cs : SeqAt.shaped (.list ((own rts p).map pD)) = true := (Cm.list (n := 1) fun d hd => by
            obtain ⟨y, hy, e⟩ := List.mem_map.mp hd
            rw [← e]
            exact cm y hy).ok (by decide)
          have cd : SeqAt.shaped (pD (b, fo.2)) = true := (cm_pD (x := (b, fo.2)) (okT_isW okr.2.1) (ok.cm _ (own_mem hbm)).2.2).ok (by decide)
          have ei := ev_inD (K := K) (ev_tup (ds := [.str b, .str fo.2]) (ead_cons (ev_ixT (ev_var (σ := [some v1, some (.int n), some (.str p), some v4, some x4, some (.ref l), some (.str fo.1), some (.str fo.2), c1, d1, e1', f1]) (i := 0) rfl hr7) (ev_c (v := .int 2) (P := IsV (.int 2)) rfl) rfl) (ead_cons (str_dd (ev_var (i := 7) (P := IsV (.str fo.2)) rfl rfl)) ead_nil)) (by show 2 ≤ 1000; decide)) (ev_var (i := 4) rfl p47) cd cs
          rw [show PyData.tuple [.str b, .str fo.2] = pD (b, fo.2) from rfl, any_pD] at ei
          refine run_if (eb_test ei) g7.sub (fun hin G8 H8 g8 => ?_) (fun hin G8 H8 g8 => ?_)
          · have hin := of_decide_eq_true hin
            have g78 := g7.trans g8
            refine run_append (K := K) (i := 5) (P := DD K (deedD (.three n p fo.2))) (gq6.trans g78) (ev_tup (ead_cons (int_dd (ev_var rfl rfl)) (ead_cons (str_dd (ev_var rfl rfl)) (ead_cons (str_dd (ev_var rfl rfl)) ead_nil))) (by show 3 ≤ 1000; decide)) rfl (g78.hh _ _ hd6) (g78.old _ _ hg6 hd6 (ntl _)) hl0 (by omega) fun v G9 H9 g9 gl9 s9 pv hd9 => ?_
            refine step _ G9 H9 _ (((s35.trans g6.gg).trans g78.gg).trans s9) g9 gl9 hd9 ?_ ⟨_, _, _, _, _, _, rfl⟩
            have e1 : dOne (.meet a b c) n p rts fo = [.three n p fo.2] := by
              unfold dOne
              rw [if_pos hw]
              exact if_pos hin
            rw [e1]
            exact DpAll.snoc (DpAll.up (g78.gg.trans s9) _ _ hy6) pv
          · have hin := of_decide_eq_false hin
            have g78 := g7.trans g8
            refine step _ G8 H8 ys ((s35.trans g6.gg).trans g78.gg) (gq6.trans g78) (g78.old _ _ hg6 hd6 (ntl _)) (g78.hh _ _ hd6) ?_ ⟨_, _, _, _, _, _, rfl⟩
            have e1 : dOne (.meet a b c) n p rts fo = [] := by
              unfold dOne
              rw [if_pos hw]
              exact if_neg hin
            rw [e1, List.map_nil, List.append_nil]
            exact DpAll.up g78.gg _ _ hy6
        | hand a ps =>
          refine run_match (z := "hand") (ev_kind (r := .hand a ps) (ev_var rfl hr6)) g6.sub fun G7 H7 g7 => ?_
          refine tmc_yes (by decide) ?_
          have hr7 : Dp K G7 v1 (.tuple [.str "hand", .str a, .tuple (ps.map pD)]) := Dp.up g7.gg _ _ hr6
          have p47 := Dp.up g7.gg _ _ p46
          have by7 := mon_by _ _ _ g7.gg by6
          refine seq_set (P := DD K (.list ((own rts p).map pD))) (ev_if (b := false) (eb_test (ev_is (ev_eqS (dd_str (ev_ixT (ev_var rfl hr7) (ev_c rfl) rfl)) (ev_c rfl)) (by decide))) mon_dd (fun z => nomatch z) (fun _ => ev_var rfl p47)) g7.sub fun x8 G8 H8 g8 h8 => ?_
          have hr8 := Dp.up g8.gg _ _ hr7
          have pso : PsOk ps := okr.2
          have hd8 := g8.hh _ _ (g7.hh _ _ hd6)
          have hg8 := (g7.trans g8).old _ _ hg6 hd6 (ntl _)
          refine run_extend (K := K) (i := 5) (ds := (dOne (.hand a ps) n p rts fo).map deedD) ((gq6.trans g7).trans g8) ?_ rfl hd8 hg8 hl0 ?_ fun zs G9 H9 g9 gl9 s9 pz hd9 => ?_
          · have e1 : (dOne (.hand a ps) n p rts fo).map deedD = (own rts p).flatMap fun so => (ps.filter fun pr => decide (pr.1 = so.1)).map fun pr => deedD (.five n p fo.2 so.2 pr) := by
              rw [map_five]
              unfold dOne
              rw [if_pos hw]
            rw [e1]
            refine em_lc2 (bs := own rts p) (I1 := fun _ pr => DD K (pD pr)) (cs := fun _ => ps) (keep := fun so pr => decide (pr.1 = so.1)) (n := 9) (fun so pr => deedD (.five n p fo.2 so.2 pr)) (src_list (enc := pD) (ev_var rfl h8)) (fun _ _ => pso.hi) ?_ fun so hso u G' s iu => ?_
            · have := @own_len rts p
              rw [sizeLine_eq]
              omega
            · obtain ⟨y1, y2, w1, w2, tg⟩ := tgt_2 (σ := wipe [some v1, some (.int n), some (.str p), some v4, some x4, some (.ref l), some (.str fo.1), some (.str fo.2), some x8, d1, e1', f1] [9, 10, 11]) (g1 := gName 9) (g2 := gName 10) iu (fun v1 _ => tgt_name) (fun v1 v2 _ _ => tgt_name)
              refine ⟨_, tg, rfl, src_tup (bs := ps) (enc := pD) (ev_ixT (ev_var rfl (Dp.up s _ _ hr8)) (ev_c rfl) rfl), fun pr hpr y G'' s' iy => ⟨_, tgt_name, rfl, eb_test (ev_eqS (dd_str (ev_ixT (ds := [.str pr.1, .str pr.2]) (ev_var rfl iy) (ev_c rfl) rfl)) (dd_str (ev_var rfl (Dp.up s' _ _ w1)))), fun _ => ?_⟩⟩
              exact ev_tup (ead_cons (int_dd (ev_var rfl rfl)) (ead_cons (str_dd (ev_var rfl rfl)) (ead_cons (str_dd (ev_var rfl rfl)) (ead_cons (ev_var rfl (Dp.up s' _ _ w2)) (ead_cons (ev_var rfl iy) ead_nil))))) (by show 5 ≤ 1000; decide)
          · rw [List.length_map]
            have := len_dOne (n := n) (p := p) (rts := rts) (fo := fo) (r := .hand a ps) okr
            omega
          · exact step _ G9 H9 _ ((((s35.trans g6.gg).trans g7.gg).trans g8.gg).trans s9) g9 gl9 hd9 (DpAll.append (DpAll.up ((g7.gg.trans g8.gg).trans s9) _ _ hy6) pz) ⟨_, _, _, _, _, _, rfl⟩
        | fetch a ps =>
          refine run_match (z := "fetch") (ev_kind (r := .fetch a ps) (ev_var rfl hr6)) g6.sub fun G7 H7 g7 => ?_
          refine tmc_yes (by decide) ?_
          have hr7 : Dp K G7 v1 (.tuple [.str "fetch", .str a, .tuple (ps.map pD)]) := Dp.up g7.gg _ _ hr6
          have p47 := Dp.up g7.gg _ _ p46
          have by7 := mon_by _ _ _ g7.gg by6
          refine seq_set (P := DD K (.list ((own rts fo.2).map pD))) (ev_if (b := true) (eb_test (ev_is (ev_eqS (dd_str (ev_ixT (ev_var rfl hr7) (ev_c rfl) rfl)) (ev_c rfl)) (by decide))) mon_dd (fun _ => ev_getBy (ev_var rfl by7) (ev_var rfl rfl)) (fun z => nomatch z)) g7.sub fun x8 G8 H8 g8 h8 => ?_
          have hr8 := Dp.up g8.gg _ _ hr7
          have pso : PsOk ps := okr.2
          have hd8 := g8.hh _ _ (g7.hh _ _ hd6)
          have hg8 := (g7.trans g8).old _ _ hg6 hd6 (ntl _)
          refine run_extend (K := K) (i := 5) (ds := (dOne (.fetch a ps) n p rts fo).map deedD) ((gq6.trans g7).trans g8) ?_ rfl hd8 hg8 hl0 ?_ fun zs G9 H9 g9 gl9 s9 pz hd9 => ?_
          · have e1 : (dOne (.fetch a ps) n p rts fo).map deedD = (own rts fo.2).flatMap fun so => (ps.filter fun pr => decide (pr.1 = so.1)).map fun pr => deedD (.five n p fo.2 so.2 pr) := by
              rw [map_five]
              unfold dOne
              rw [if_pos hw]
            rw [e1]
            refine em_lc2 (bs := own rts fo.2) (I1 := fun _ pr => DD K (pD pr)) (cs := fun _ => ps) (keep := fun so pr => decide (pr.1 = so.1)) (n := 9) (fun so pr => deedD (.five n p fo.2 so.2 pr)) (src_list (enc := pD) (ev_var rfl h8)) (fun _ _ => pso.hi) ?_ fun so hso u G' s iu => ?_
            · have := @own_len rts fo.2
              rw [sizeLine_eq]
              omega
            · obtain ⟨y1, y2, w1, w2, tg⟩ := tgt_2 (σ := wipe [some v1, some (.int n), some (.str p), some v4, some x4, some (.ref l), some (.str fo.1), some (.str fo.2), some x8, d1, e1', f1] [9, 10, 11]) (g1 := gName 9) (g2 := gName 10) iu (fun v1 _ => tgt_name) (fun v1 v2 _ _ => tgt_name)
              refine ⟨_, tg, rfl, src_tup (bs := ps) (enc := pD) (ev_ixT (ev_var rfl (Dp.up s _ _ hr8)) (ev_c rfl) rfl), fun pr hpr y G'' s' iy => ⟨_, tgt_name, rfl, eb_test (ev_eqS (dd_str (ev_ixT (ds := [.str pr.1, .str pr.2]) (ev_var rfl iy) (ev_c rfl) rfl)) (dd_str (ev_var rfl (Dp.up s' _ _ w1)))), fun _ => ?_⟩⟩
              exact ev_tup (ead_cons (int_dd (ev_var rfl rfl)) (ead_cons (str_dd (ev_var rfl rfl)) (ead_cons (str_dd (ev_var rfl rfl)) (ead_cons (ev_var rfl (Dp.up s' _ _ w2)) (ead_cons (ev_var rfl iy) ead_nil))))) (by show 5 ≤ 1000; decide)
          · rw [List.length_map]
            have := len_dOne (n := n) (p := p) (rts := rts) (fo := fo) (r := .fetch a ps) okr
            omega
          · exact step _ G9 H9 _ ((((s35.trans g6.gg).trans g7.gg).trans g8.gg).trans s9) g9 gl9 hd9 (DpAll.append (DpAll.up ((g7.gg.trans g8.gg).trans s9) _ _ hy6) pz) ⟨_, _, _, _, _, _, rfl⟩
      · have hw := of_decide_eq_false hw
        refine step _ G6 H6 ys (s35.trans g6.gg) (gq5.trans g6) (g6.old _ _ hg5 hd5 (ntl _)) (g6.hh _ _ hd5) ?_ ⟨_, _, _, _, _, _, rfl⟩
        unfold dOne
        rw [if_neg hw, List.map_nil, List.append_nil]
        exact DpAll.up g6.gg _ _ hy5
    · rintro σ' G' H' s1 s2 ⟨gp, hg', ⟨ys, hd', hy⟩, a1, b1, c1, d1, e1, f1, rfl⟩
      rw [List.take_length] at hy
      exact ⟨_, rfl, q (.ref l) _ H' (gp.keepIt hl0 hg' hd') (.lst upd_same (DpAll.up (same_new hg') _ _ hy))⟩
end
end Hk

set_option Elab.async false
set_option linter.all false
set_option maxRecDepth 100000
set_option maxHeartbeats 1000000
/-! is_own, check_asked. -/
namespace Hk
open PySem PySem.Spec PyProof.Rows L2
theorem sc_is_own : FnScope ["right", "state"] ["right", "state"] (defScope s_is_own) := ⟨rfl, rfl, rfl, by decide +kernel, rfl, by decide +kernel, by decide +kernel⟩
theorem sc_check_asked : FnScope ["policy", "state", "right"] ["policy", "state", "right"] (defScope s_check_asked) := ⟨rfl, rfl, rfl, by decide +kernel, rfl, by decide +kernel, by decide +kernel⟩
/-- between the parties -/
def isOwn (ns : List Str) (r : Rt) : Bool := !decide (43 ∈ r.1.cps.toList) && (!decide (43 ∈ r.2.2.cps.toList) && decide (r.1 ∈ ns))
def sp_is_own (K : PySem.W.Frag) (S : Addr) : Sp := SpI (fun (i : Rt × StIn) vs G => ∃ v1 v2, vs = [v1, v2] ∧ Dp K G v1 (rD i.1) ∧ StV K S i.2 v2 G ∧ (i.2.ppl ++ i.2.ths).length ≤ 12) (fun i => IsV (.bl (isOwn (i.2.ppl ++ i.2.ths) i.1)))
structure AskIn where
  rs : List Rule
  st : StIn
  r : Rt
structure AskIn.Ok (i : AskIn) : Prop where
  len : (i.st.ppl ++ i.st.ths).length ≤ 12
  m1 : i.r.1 ∈ i.st.ppl ++ i.st.ths
  m2 : i.r.2.2 ∈ i.st.ppl ++ i.st.ths
  w1 : isW i.r.2.1 = true
  ws : ∀ z ∈ i.st.ppl ++ i.st.ths, isW z = true
def sp_check_asked (K : PySem.W.Frag) (S Po : Addr) : Sp := SpI (fun (i : AskIn) vs G => ∃ v1 v2 v3, vs = [v1, v2, v3] ∧ PoV K Po i.rs v1 G ∧ StV K S i.st v2 G ∧ Dp K G v3 (rD i.r) ∧ i.Ok) (fun _ => IsV .non)
section
variable {P : Program} {w : World} {K : PySem.W.Frag} {mg : Str → Option Value} {base : Heap} {S Po : Addr} (T : Tx K mg S Po)
include T
theorem ok_is_own : Fn P w K mg base 2 "is_own" ["right", "state"] (sp_is_own K S) := by
  obtain ⟨f_Stateparties, fd_Stateparties, G_Stateparties, M_Stateparties, b_Stateparties⟩ := (ok_Stateparties (P := P) (w := w) (base := base) T)
  obtain ⟨t1, k_HELPER⟩ := T.k_HELPER
  refine fn_mk (N := ["right", "state"]) T.f_is_own (fun F => F.bindsN fun _ _ _ _ _ _ us hl => match us, hl with | [_, _], _ => rfl) sc_is_own (fun vs H Q E h => ?_) fun f cdv A outer s H vs Q E hr h => ?_
  · obtain ⟨n, G, sm, ⟨v1, v2, rfl, _⟩, _⟩ := h
    rfl
  · obtain ⟨⟨r, i⟩, G, sm, ⟨v1, v2, rfl, h1, h2, hl⟩, q⟩ := h
    refine ⟨_, PSs.nox (pss_one (ps_ret (pe_and (pe_cmpR op_notIn_sign (pe_glob (v := .str "+") (by rfl) k_HELPER ⟨_, rfl⟩) (pe_ix ix_tup (pv 0) pe_int (fun _ _ => rfl)) rfl) (pe_and (pe_cmpR op_notIn_sign (pe_glob (v := .str "+") (by rfl) k_HELPER ⟨_, rfl⟩) (pe_ix ix_tup (pv 0) pe_int (fun _ _ => rfl)) rfl) (pe_one (pe_cmpR op_in_seq (pe_ix ix_tup (pv 0) pe_int (fun _ _ => rfl)) (pe_meth0 (pv 1) T.c_State M_Stateparties G_Stateparties (hr.mono (by decide)) b_Stateparties .nil pass0) rfl)))))), ?_⟩
    have h1' : Dp K G v1 (.tuple [.str r.1, .str r.2.1, .str r.2.2]) := h1
    refine run_ret (ev_andV (ev_niSign (c := 43) (ev_c rfl) (dd_str (ev_ixT (ev_var rfl h1') (ev_c rfl) rfl))) fun _ => ev_andV (ev_niSign (c := 43) (ev_c rfl) (dd_str (ev_ixT (ev_var rfl h1') (ev_c rfl) rfl))) fun _ => ev_is (ev_inS (l := sortS (i.ppl ++ i.ths)) (dd_str (ev_ixT (ev_var rfl h1') (ev_c rfl) rfl)) (ev_methS i (ev_var rfl h2) ⟨by decide, by decide, by decide⟩ fun v G' _ e => fun H s Q k => k [] _ H (Gr.refl s) ⟨v, rfl, e, hl⟩)) (c := decide (r.1 ∈ i.ppl ++ i.ths)) ?_) sm q
    by_cases hm : r.1 ∈ i.ppl ++ i.ths
    · rw [decide_eq_true hm, decide_eq_true (List.mem_mergeSort.mpr hm)]
    · rw [decide_eq_false hm, decide_eq_false (fun z => hm (List.mem_mergeSort.mp z))]
theorem ok_check_asked : Fn P w K mg base 4 "check_asked" ["policy", "state", "right"] (sp_check_asked K S Po) := by
  obtain ⟨f_check_policy, fd_check_policy, G_check_policy, m_check_policy, k_check_policy, b_check_policy⟩ := (ok_check_policy (P := P) (w := w) (base := base) T)
  obtain ⟨f_check_small, fd_check_small, G_check_small, m_check_small, k_check_small, b_check_small⟩ := (ok_check_small (P := P) (w := w) (base := base) T)
  obtain ⟨f_check_right, fd_check_right, G_check_right, m_check_right, k_check_right, b_check_right⟩ := (ok_check_right (P := P) (w := w) (base := base) T)
  refine fn_mk (N := ["policy", "state", "right"]) T.f_check_asked (fun F => F.bindsN fun _ _ _ _ _ _ us hl => match us, hl with | [_, _, _], _ => rfl) sc_check_asked (fun vs H Q E h => ?_) fun f cdv A outer s H vs Q E hr h => ?_
  · obtain ⟨n, G, sm, ⟨v1, v2, v3, rfl, _⟩, _⟩ := h
    rfl
  · obtain ⟨i, G, sm, ⟨v1, v2, v3, rfl, h1, h2, h3, ok⟩, q⟩ := h
    refine ⟨_, PSs.nox (pss_cons (ps_expr (pe_call G_check_policy (hr.mono (by decide)) (by rfl) m_check_policy k_check_policy b_check_policy .nil pass0 (pa_cons (pv 0) pa_nil)))
    (pss_cons (ps_expr (pe_call G_check_small (hr.mono (by decide)) (by rfl) m_check_small k_check_small b_check_small .nil pass0 (pa_cons (pv 1) pa_nil)))
    (pss_one (ps_expr (pe_call G_check_right (hr.mono (by decide)) (by rfl) m_check_right k_check_right b_check_right .nil pass0 (pa_cons (pv 1) (pa_cons (pv 2) pa_nil))))))), ?_⟩
    refine seq_do (ev_call i.rs (ea1 (ev_var rfl h1) fun v G' _ e => ⟨v, rfl, e⟩)) sm fun _ G1 H1 g1 _ => ?_
    refine seq_do (ev_call i.st (ea1 (ev_var rfl (mon_st _ _ _ g1.gg h2)) fun v G' _ e => ⟨v, rfl, e, ok.len⟩)) g1.sub fun _ G2 H2 g2 _ => ?_
    have s02 := g1.gg.trans g2.gg
    exact (ev_call (post := fun _ => IsV .non) (i.st, i.r) (ea2 mon_st mon_dd (ev_var rfl (mon_st _ _ _ s02 h2)) (ev_var rfl (Dp.up s02 _ _ h3)) fun u1 u2 G' _ e1 e2 => ⟨u1, u2, rfl, e1, e2, ok.len, ok.m1, ok.m2, ok.w1, ok.ws⟩)) H2 g2.sub _ fun v G3 H3 g3 _ => q .non G3 H3 ((g1.trans g2).trans g3) rfl
end
end Hk

set_option Elab.async false
set_option linter.all false
set_option maxRecDepth 100000
set_option maxHeartbeats 1000000
/-! _law_made, _law_own, _law_cell_at. -/
namespace Hk
open PySem PySem.Spec PyProof.Rows L2
theorem sc_law_made : FnScope ["_law_rules_here", "_law_rows", "_law_rule"] ["_law_rules_here"] (defScope s_law_made) := ⟨rfl, rfl, rfl, by decide +kernel, rfl, by decide +kernel, by decide +kernel⟩
theorem sc_law_own : FnScope ["_law_rights", "_law_right"] ["_law_rights"] (defScope s_law_own) := ⟨rfl, rfl, rfl, by decide +kernel, rfl, by decide +kernel, by decide +kernel⟩
theorem sc_law_cell_at : FnScope ["_law_script", "_law_k"] ["_law_script", "_law_k"] (defScope s_law_cell_at) := ⟨rfl, rfl, rfl, by decide +kernel, rfl, by decide +kernel, by decide +kernel⟩
def lawOwn (r : Rt) : Bool := !decide (43 ∈ (r.1 ++ r.2.2).cps.toList)
def sp_law_made (K : PySem.W.Frag) : Sp := SpI (fun (rs : List Rule) vs G => ∃ v, vs = [v] ∧ Dp K G v (.list (rs.map ruleD)) ∧ PolOk rs) (fun rs => DD K (optD (madeOf rs)))
def sp_law_own (K : PySem.W.Frag) : Sp := SpI (fun (l : List Rt) vs G => ∃ v, vs = [v] ∧ Dp K G v (.list (l.map rD)) ∧ l.length ≤ 1000 ∧ ∀ r ∈ l, r.1.length ≤ 1000 ∧ r.2.2.length ≤ 1000) (fun l => DD K (.list ((l.filter lawOwn).map rD)))
def cellAt (ns : List Int) (k : Nat) : Int := (ns[k]?).getD 0
def sp_law_cell_at (K : PySem.W.Frag) : Sp := SpI (fun (i : List Int × Nat) vs G => ∃ v, vs = [v, .int (i.2 : Nat)] ∧ Dp K G v (.list (i.1.map PyData.int))) (fun i => IsV (.int (cellAt i.1 i.2)))
section
variable {P : Program} {w : World} {K : PySem.W.Frag} {mg : Str → Option Value} {base : Heap} {S Po : Addr} (T : Tx K mg S Po)
include T
theorem ok_law_made : Fn P w K mg base 1 "_law_made" ["_law_rules_here"] (sp_law_made K) := by
  refine fn_mk (N := ["_law_rules_here", "_law_rows", "_law_rule"]) T.f_law_made (fun F => F.bindsN fun _ _ _ _ _ _ us hl => match us, hl with | [_], _ => rfl) sc_law_made (fun vs H Q E h => ?_) fun f cdv A outer s H vs Q E hr h => ?_
  · obtain ⟨n, G, sm, ⟨v, rfl, _⟩, _⟩ := h
    rfl
  · obtain ⟨rs, G, sm, ⟨v, rfl, hv, ok⟩, q⟩ := h
    refine ⟨_, PSs.nox (pss_cons (ps_setLc (i := 1) (own := [("_law_rule", 2)]) rfl sc_law_made.nd rfl rfl (sw_true rfl rfl rfl (by decide +kernel)) (pi_list (pv 0)) (blkOk_by (own := [("_law_rule", 2)]) (N := ["_law_rules_here", "_law_rows", "_law_rule"]) (sc := defScope s_law_made) (by decide +kernel)) (fun _ _ _ _ _ => (pg_name (i := 2) sc_law_made.nd rfl (Or.inl rfl))) (fun _ _ _ _ _ => (pts_one (pt_cmpR op_eq (pe_ix (show IxR _ (rIxT K) from ix_tup) (pv 2) pe_int (fun _ _ => rfl)) pe_str (nomark _)))) (fun _ _ _ _ _ => (pe_ix (show IxR _ (rIxT K) from ix_tup) (pv 2) pe_int (fun _ _ => rfl))))
    (pss_one (ps_ret (pe_ifExp (pt_cmpR (op_neD hr.units) (pv 1) (pe_lst pa_nil) (nomark _)) (pe_ix ix_list (pv 1) pe_int (fun _ _ => rfl)) pe_non)))), ?_⟩
    refine seq_set (P := DD K (.list ((rs.filter isMake).map madeD))) (ev_lc (bs := rs) (keep := isMake) madeD (src_list (enc := ruleD) (ev_var rfl hv)) (sz64 (by have := ok.len; omega)) fun b hb u G' s i => ⟨_, tgt_name, rfl, eb_test (ev_eqS (ev_kind (ev_var rfl i)) (ev_c rfl)), fun hk => ?_⟩) sm fun u G1 H1 g1 hu => ?_
    · cases b with
      | make ws =>
        have i' : Dp K G' u (.tuple [.str "make", .tuple (ws.map sD)]) := i
        exact ev_ixT (ev_var rfl i') (ev_c rfl) rfl
      | fetch a b => exact absurd (show false = true from hk) (by decide)
      | hand a b => exact absurd (show false = true from hk) (by decide)
      | rais a b => exact absurd (show false = true from hk) (by decide)
      | meet a b c => exact absurd (show false = true from hk) (by decide)
    · have cm : ∀ d ∈ (rs.filter isMake).map madeD, Cm 1 d := fun d hd => by
        obtain ⟨r, hr, e⟩ := List.mem_map.mp hd
        rw [← e]
        cases r with
        | make ws =>
          refine Cm.tuple fun d hd => ?_
          obtain ⟨z, hz, e⟩ := List.mem_map.mp hd
          rw [← e]
          exact cm_str (okT_isW ((show WsOk ws from ok.ok _ (List.mem_filter.mp hr).1).wd z hz))
        | _ => exact ⟨rfl, Nat.zero_le _⟩
      have nb := ev_neD (K := K) (σ := [some v, some u, none]) (G := G1) (ta := tVar 1) (tb := tLst tNil) (ev_var rfl hu) (ev_lst ead_nil (by decide)) ((Cm.list cm).ok (by decide)) (by decide)
      rw [eqv_nil] at nb
      rcases made_filter rs with ⟨e1, e2⟩ | ⟨ws, l, e1, e2⟩
      · rw [e2] at nb
        refine run_ret (P := DD K (optD (madeOf rs))) (ev_if (b := false) (eb_test nb) mon_dd (fun z => nomatch z) fun _ => ?_) g1.sub fun w G3 H3 g3 => q w G3 H3 (g1.trans g3)
        rw [e1]
        exact ev_c .non
      · rw [e2] at nb hu
        refine run_ret (P := DD K (optD (madeOf rs))) (ev_if (b := true) (eb_test nb) mon_dd (fun _ => ?_) (fun z => nomatch z)) g1.sub fun w G3 H3 g3 => q w G3 H3 (g1.trans g3)
        rw [e1]
        exact ev_ixL (ev_var rfl hu) (ev_c rfl) (atI_nat (j := 0) rfl)
theorem ok_law_own : Fn P w K mg base 1 "_law_own" ["_law_rights"] (sp_law_own K) := by
  refine fn_mk (N := ["_law_rights", "_law_right"]) T.f_law_own (fun F => F.bindsN fun _ _ _ _ _ _ us hl => match us, hl with | [_], _ => rfl) sc_law_own (fun vs H Q E h => ?_) fun f cdv A outer s H vs Q E hr h => ?_
  · obtain ⟨n, G, sm, ⟨v, rfl, _⟩, _⟩ := h
    rfl
  · obtain ⟨l, G, sm, ⟨v, rfl, hv, hl, hz⟩, q⟩ := h
    refine ⟨_, PSs.nox (pss_one (ps_ret (pe_lc (own := [("_law_right", 1)]) rfl sc_law_own.nd (pi_list (pv 0)) (blkOk_by (own := [("_law_right", 1)]) (N := ["_law_rights", "_law_right"]) (sc := defScope s_law_own) (by decide +kernel)) (fun _ _ _ _ _ => (pg_name (i := 1) sc_law_own.nd rfl (Or.inl rfl))) (fun _ _ _ _ _ => (pts_one (pt_cmpR op_notIn_sign pe_str (pe_op op_add_str (pe_ix (show IxR _ (rIxT K) from ix_tup) (pv 1) pe_int (fun _ _ => rfl)) (pe_ix (show IxR _ (rIxT K) from ix_tup) (pv 1) pe_int (fun _ _ => rfl))) rfl))) (fun _ _ _ _ _ => (pv 1))))), ?_⟩
    refine run_ret (ev_lc (bs := l) (keep := lawOwn) rD (src_list (enc := rD) (ev_var rfl hv)) (Nat.le_trans hl (by decide)) fun r hr u G' s i => ⟨_, tgt_name, rfl, ?_, fun _ => ev_var rfl i⟩) sm q
    have i' : Dp K G' u (.tuple [.str r.1, .str r.2.1, .str r.2.2]) := i
    refine eb_test (ev_niSign (c := 43) (z := r.1 ++ r.2.2) (ev_c rfl) (ev_op mon_v mon_v (dd_str (ev_ixT (ev_var rfl i') (ev_c rfl) rfl)) (dd_str (ev_ixT (ev_var rfl i') (ev_c rfl) rfl)) fun x y G' s ex ey => rv_val (fun H _ Q q => ⟨r.1, r.2.2, ex, ey, ?_, q⟩) rfl))
    have := hz r hr
    rw [sizeLine_eq]
    omega
theorem ok_law_cell_at : Fn P w K mg base 1 "_law_cell_at" ["_law_script", "_law_k"] (sp_law_cell_at K) := by
  refine fn_mk (N := ["_law_script", "_law_k"]) T.f_law_cell_at (fun F => F.bindsN fun _ _ _ _ _ _ us hl => match us, hl with | [_, _], _ => rfl) sc_law_cell_at (fun vs H Q E h => ?_) fun f cdv A outer s H vs Q E hr h => ?_
  · obtain ⟨n, G, sm, ⟨v, rfl, _⟩, _⟩ := h
    rfl
  · obtain ⟨⟨ns, k⟩, G, sm, ⟨v, rfl, hv⟩, q⟩ := h
    refine ⟨_, PSs.nox (pss_cons (ps_if (pt_cmpR op_lt (pv 1) (pe_callB call_len_seq (by rfl) T.b_len (by decide +kernel) (pa_cons (pv 0) pa_nil)) (nomark _))
    (pss_one (ps_ret (pe_ix ix_list (pv 0) (pv 1) (fun _ _ => rfl)))) pss_nil)
    (pss_one (ps_ret pe_int))), ?_⟩
    by_cases hk : k < ns.length
    · refine seq_ifT (eb_test (ev_is (ev_int (i := (k : Nat)) (ev_var rfl rfl) (ev_lenL (ev_var rfl hv))) (decide_eq_true (by rw [List.length_map]; show (k : Int) < (ns.length : Nat); omega)))) sm fun G1 H1 g1 => ?_
      have e : (ns.map PyData.int)[k]? = some (.int (cellAt ns k)) := by
        rw [List.getElem?_map]
        unfold cellAt
        rw [List.getElem?_eq_getElem hk]
        rfl
      exact run_ret (dd_int (ev_ixL (ev_var rfl (Dp.up g1.gg _ _ hv)) (ev_var rfl rfl) (atI_nat e))) g1.sub fun w G3 H3 g3 => q w G3 H3 (g1.trans g3)
    · refine seq_guard (eb_test (ev_is (ev_int (i := (k : Nat)) (ev_var rfl rfl) (ev_lenL (ev_var rfl hv))) (decide_eq_false (by rw [List.length_map]; show ¬ (k : Int) < (ns.length : Nat); omega)))) sm fun G1 H1 g1 => ?_
      have e : cellAt ns k = 0 := by
        unfold cellAt
        rw [List.getElem?_eq_none (by omega)]
        rfl
      exact run_ret (P := IsV (.int (cellAt ns k))) (ev_c (by rw [e])) g1.sub fun w G3 H3 g3 => q w G3 H3 (g1.trans g3)
end
end Hk

set_option Elab.async false
set_option linter.all false
set_option maxRecDepth 100000
set_option maxHeartbeats 1000000
/-! Draws: what matters is their range. -/
namespace Hk
open PySem PySem.Spec PyProof.Rows L2
theorem sc_law_draw : FnScope ["_law_cell", "_law_k", "_law_bound", "_law_primes"] ["_law_cell", "_law_k", "_law_bound"] (defScope s_law_draw) := ⟨rfl, rfl, rfl, by decide +kernel, rfl, by decide +kernel, by decide +kernel⟩
theorem sc_law_number : FnScope ["_law_cell", "_law_k", "_law_bound", "_law_power", "_law_lap", "_law_remains", "_law_small"] ["_law_cell", "_law_k", "_law_bound"] (defScope s_law_number) := ⟨rfl, rfl, rfl, by decide +kernel, rfl, by decide +kernel, by decide +kernel⟩
/-- a number below b -/
def RgV (b : Nat) : VP := fun v _ => ∃ d : Nat, d < b ∧ v = V.int (d : Nat)
theorem mon_rg {b : Nat} : Mon (RgV b) := fun _ _ _ _ h => h
section
variable {K : PySem.W.Frag} {σ : L2.St} {G : Hp} {ta tb : TE}
theorem ev_int1 {i : Int} (h : EvP ta σ G (IsV (.int i))) : EvP (tCB (fun xs H Q => (∃ i, xs = [.int i] ∧ Q (.int i) H) ∨ ∃ k, xs = [.bl k] ∧ Q (.int (if k then 1 else 0)) H) (tCons ta tNil)) σ G (IsV (.int i)) := fun H s Q q =>
  h H s _ fun v G1 H1 g1 e => .inl ⟨i, by rw [e], q _ G1 H1 g1 rfl⟩
theorem ev_modR {i : Int} {b : Nat} (ha : EvP ta σ G (IsV (.int i))) (hb : EvP tb σ G (IsV (.int (b : Nat)))) (h : 0 < b) : EvP (tOp (rI (fun _ j => 0 < j) fun i j => .int (i % j)) ta tb) σ G (RgV b) :=
  (ev_intC ha hb (by omega)).imp fun v _ _ e => by
    have e : v = V.int (i % (b : Nat)) := e
    have h1 : 0 ≤ i % (b : Nat) := Int.emod_nonneg _ (by omega)
    have h2 : i % (b : Nat) < (b : Nat) := Int.emod_lt_of_pos _ (by omega)
    exact ⟨(i % (b : Nat)).toNat, by omega, by rw [e, Int.toNat_of_nonneg h1]⟩
theorem ev_modI {i j : Int} (ha : EvP ta σ G (IsV (.int i))) (hb : EvP tb σ G (IsV (.int j))) (h : 0 < j) : EvP (tOp (rI (fun _ j => 0 < j) fun i j => .int (i % j)) ta tb) σ G (IsV (.int (i % j))) := ev_intC ha hb h
end
theorem ev_modRg {σ : L2.St} {G : Hp} {ta tb : TE} {n b : Nat} (ha : EvP ta σ G (RgV n)) (hb : EvP tb σ G (IsV (.int (b : Nat)))) (h : 0 < b) : EvP (tOp (rI (fun _ j => 0 < j) fun i j => .int (i % j)) ta tb) σ G (RgV b) :=
  ev_op mon_rg mon_v ha hb fun x y G' s ⟨d, hd, ex⟩ ey => rv_val (z := .int (((d % b : Nat)) : Int)) (fun H _ Q q => ⟨(d : Nat), (b : Nat), ex, ey, by omega, by show Q (.int ((d : Int) % (b : Int))) H; rw [← Int.natCast_emod]; exact q⟩) ⟨d % b, Nat.mod_lt _ h, rfl⟩
theorem pow_1009 {i : Nat} (h : i ≤ 23) : ((1009 : Int) ^ i).natAbs < 2 ^ 230 ∧ 0 < (1009 : Int) ^ i := by
  refine ⟨?_, Int.pow_pos (by decide)⟩
  rw [Int.natAbs_pow]
  have h1 : (1009 : Nat) ^ i ≤ 1009 ^ 23 := Nat.pow_le_pow_right (by decide) h
  exact Nat.lt_of_le_of_lt h1 (by decide)
def primes : List Int := [1000003, 1000033, 1000037, 1000039, 1000081, 1000099, 1000117, 1000121, 1000133, 1000151, 1000159, 1000171, 1000183, 1000187, 1000193, 1000199]
def sp_law_draw : Sp := SpI (fun (i : Int × Nat × Nat) vs _ => vs = [.int i.1, .int (i.2.1 : Nat), .int (i.2.2 : Nat)] ∧ i.1.natAbs < 2 ^ 100 ∧ i.2.1 ≤ 1000 ∧ 0 < i.2.2) (fun i => RgV i.2.2)
def sp_law_number : Sp := SpI (fun (i : Int × Nat × Nat) vs _ => vs = [.int i.1, .int (i.2.1 : Nat), .int (i.2.2 : Nat)] ∧ i.2.1 ≤ 1000 ∧ 0 < i.2.2) (fun i => RgV i.2.2)
section
variable {P : Program} {w : World} {K : PySem.W.Frag} {mg : Str → Option Value} {base : Heap} {S Po : Addr} (T : Tx K mg S Po)
include T
theorem ok_law_draw : Fn P w K mg base 1 "_law_draw" ["_law_cell", "_law_k", "_law_bound"] sp_law_draw := by
  refine fn_mk (N := ["_law_cell", "_law_k", "_law_bound", "_law_primes"]) T.f_law_draw (fun F => F.bindsN fun _ _ _ _ _ _ us hl => match us, hl with | [_, _, _], _ => rfl) sc_law_draw (fun vs H Q E h => ?_) fun f cdv A outer s H vs Q E hr h => ?_
  · obtain ⟨n, G, sm, ⟨rfl, _⟩, _⟩ := h
    rfl
  · obtain ⟨⟨c, k, b⟩, G, sm, ⟨rfl, hc, hk, hb⟩, q⟩ := h
    refine ⟨_, PSs.nox (pss_cons (ps_set (i := 3) sc_law_draw.nd rfl (Or.inl rfl) (pe_tup (pa_cons pe_int (pa_cons pe_int (pa_cons pe_int (pa_cons pe_int (pa_cons pe_int (pa_cons pe_int (pa_cons pe_int (pa_cons pe_int (pa_cons pe_int (pa_cons pe_int (pa_cons pe_int (pa_cons pe_int (pa_cons pe_int (pa_cons pe_int (pa_cons pe_int (pa_cons pe_int pa_nil))))))))))))))))))
    (pss_one (ps_ret (pe_op op_mod (pe_op op_mod (pe_callTy call_int1 (by rfl) T.b_int (by decide +kernel) (pa_cons (pe_op op_add (pe_op op_mulW (pv 0) pe_int) (pe_op op_mulW (pv 1) pe_int)) pa_nil)) (pe_ix ix_tup (pv 3) (pe_op op_mod (pe_callTy call_int1 (by rfl) T.b_int (by decide +kernel) (pa_cons (pv 1) pa_nil)) pe_int) (fun _ _ => rfl))) (pv 2))))), ?_⟩
    have hk : k ≤ 1000 := hk
    have hb : 0 < b := hb
    have hc : c.natAbs < 2 ^ 100 := hc
    refine seq_set (P := DD K (.tuple (primes.map PyData.int))) (ev_tup (ead_cons (int_dd (ev_c rfl)) (ead_cons (int_dd (ev_c rfl)) (ead_cons (int_dd (ev_c rfl)) (ead_cons (int_dd (ev_c rfl)) (ead_cons (int_dd (ev_c rfl)) (ead_cons (int_dd (ev_c rfl)) (ead_cons (int_dd (ev_c rfl)) (ead_cons (int_dd (ev_c rfl)) (ead_cons (int_dd (ev_c rfl)) (ead_cons (int_dd (ev_c rfl)) (ead_cons (int_dd (ev_c rfl)) (ead_cons (int_dd (ev_c rfl)) (ead_cons (int_dd (ev_c rfl)) (ead_cons (int_dd (ev_c rfl)) (ead_cons (int_dd (ev_c rfl)) (ead_cons (int_dd (ev_c rfl)) ead_nil)))))))))))))))) (by decide)) sm fun v G1 H1 g1 hv => ?_
    obtain ⟨p, hp1, hp2⟩ : ∃ p, (primes.map PyData.int)[k % 16]? = some (.int p) ∧ 0 < p := by
      have hl : k % 16 < primes.length := Nat.mod_lt _ (by decide)
      exact ⟨primes[k % 16], by rw [List.getElem?_map, List.getElem?_eq_getElem hl]; rfl, (by decide : ∀ p ∈ primes, 0 < p) _ (List.getElem_mem hl)⟩
    have ek : ((k : Int) % 16) = ((k % 16 : Nat) : Int) := by omega
    refine run_ret (ev_modR (ev_modI (ev_int1 (ev_int (ev_intC (ev_var rfl rfl) (ev_c rfl) (wide_mul (a := 100) (b := 20) hc (by decide) (by decide) (by decide) (by decide))) (ev_intC (ev_var rfl rfl) (ev_c rfl) (wide_mul (a := 10) (b := 20) (by omega) (by decide) (by decide) (by decide) (by decide))))) (dd_int (ev_ixT (i := ((k % 16 : Nat) : Int)) (ev_var rfl hv) (by rw [← ek]; exact ev_modI (ev_int1 (ev_var rfl rfl)) (ev_c rfl) (by decide)) (atI_nat hp1))) hp2) (ev_var rfl rfl) hb) g1.sub fun v G2 H2 g2 e => q v G2 H2 (g1.trans g2) e
theorem ok_law_number : Fn P w K mg base 2 "_law_number" ["_law_cell", "_law_k", "_law_bound"] sp_law_number := by
  obtain ⟨f_law_draw, fd_law_draw, G_law_draw, m_law_draw, k_law_draw, b_law_draw⟩ := (ok_law_draw (P := P) (w := w) (base := base) T)
  refine fn_mk (N := ["_law_cell", "_law_k", "_law_bound", "_law_power", "_law_lap", "_law_remains", "_law_small"]) T.f_law_number (fun F => F.bindsN fun _ _ _ _ _ _ us hl => match us, hl with | [_, _, _], _ => rfl) sc_law_number (fun vs H Q E h => ?_) fun f cdv A outer s H vs Q E hr h => ?_
  · obtain ⟨n, G, sm, ⟨rfl, _⟩, _⟩ := h
    rfl
  · obtain ⟨⟨c, k, b⟩, G, sm, ⟨rfl, hk, hb⟩, q⟩ := h
    refine ⟨_, PSs.nox (pss_cons (ps_set (i := 3) sc_law_number.nd rfl (Or.inl rfl) pe_int)
    (pss_cons (ps_for PassesOwn.never rfl (pi_range1 rfl T.b_range (pa_cons (pe_op op_mod (pe_callTy call_int1 (by rfl) T.b_int (by decide +kernel) (pa_cons (pv 1) pa_nil)) pe_int) pa_nil)) (pg_name (i := 4) sc_law_number.nd rfl (Or.inl rfl))
    (pss_one (ps_set (i := 3) sc_law_number.nd rfl (Or.inl rfl) (pe_op op_mulW (pv 3) pe_int))))
    (pss_cons (ps_set (i := 5) sc_law_number.nd rfl (Or.inl rfl) (pe_op op_fdivW (pe_op op_sub (pv 0) (pe_op op_pow pe_int pe_int)) (pv 3)))
    (pss_cons (ps_if (pt_cmpR op_gt (pv 5) pe_int (nomark _))
    (pss_one (ps_ret (pe_op op_mod (pe_op op_mod (pe_callTy call_int1 (by rfl) T.b_int (by decide +kernel) (pa_cons (pv 5) pa_nil)) pe_int) (pv 2)))) pss_nil)
    (pss_cons (ps_set (i := 6) sc_law_number.nd rfl (Or.inl rfl) (pe_op op_mod (pe_callTy call_int1 (by rfl) T.b_int (by decide +kernel) (pa_cons (pv 0) pa_nil)) pe_int))
    (pss_one (ps_ret (pe_op op_mod (pe_call G_law_draw (hr.mono (by decide)) (by rfl) m_law_draw k_law_draw b_law_draw .nil pass0 (pa_cons (pe_op op_mulW (pe_op op_add (pv 6) (pe_op op_mulW pe_int (pv 1))) (pe_op op_add (pe_op op_add (pv 6) (pe_op op_mulW pe_int (pv 1))) pe_int)) (pa_cons (pe_op op_add (pe_op op_mod (pe_callTy call_int1 (by rfl) T.b_int (by decide +kernel) (pa_cons (pv 1) pa_nil)) pe_int) pe_int) (pa_cons pe_int pa_nil)))) (pv 2))))))))), ?_⟩
    have hk : k ≤ 1000 := hk
    have hb : 0 < b := hb
    have ek : ((k : Int) % 24) = ((k % 24 : Nat) : Int) := by omega
    have ek9 : ((k : Int) % 9 + 1) = ((k % 9 + 1 : Nat) : Int) := by omega
    refine seq_set (P := IsV (.int 1)) (ev_c rfl) sm fun v1 G1 H1 g1 e1 => ?_
    rw [show v1 = V.int 1 from e1]
    refine seq_for (src_range (n := k % 24) (by rw [← ek]; exact ev_modI (ev_int1 (ev_var rfl rfl)) (ev_c rfl) (by decide)) (by omega)) g1.sub fun G2 H2 g2 => ⟨fun i σ' G' H' => Gr G H G' H' ∧ i ≤ k % 24 ∧ ∃ a, σ' = [some (.int c), some (.int (k : Nat)), some (.int (b : Nat)), some (.int ((1009 : Int) ^ i)), a, none, none], ⟨g1.trans g2, Nat.zero_le _, _, rfl⟩, ?_, ?_⟩
    · rintro i j σ' G' H' hj s1 s2 ⟨gp, hi, a, rfl⟩ x G3 H3 g3 ix
      have hlt := (List.getElem?_eq_some_iff.mp hj).1
      rw [List.length_range] at hlt
      have hp := pow_1009 (i := i) (by omega)
      have em : EvP (tOp (rI CMulW fun i j => .int (i * j)) (tVar 3) (tC (.int 1009))) [some (.int c), some (.int (k : Nat)), some (.int (b : Nat)), some (.int ((1009 : Int) ^ i)), some x, none, none] G3 (IsV (.int ((1009 : Int) ^ i * 1009))) :=
        ev_intC (ev_var rfl rfl) (ev_c rfl) (wide_mul (a := 230) (b := 10) hp.1 (by decide) (by decide) (by decide) (by decide))
      refine em H3 g3.sub _ fun v G4 H4 g4 e => ?_
      rw [show v = V.int ((1009 : Int) ^ i * 1009) from e]
      exact ⟨G4, (s1.trans g3.gg).trans g4.gg, g4.sub, (gp.trans g3).trans g4, hlt, _, by rw [Int.pow_succ]; rfl⟩
    · rintro σ' G' H' s1 s2 ⟨gp, hi, a, rfl⟩
      rw [List.length_range]
      have hp := pow_1009 (i := k % 24) (by omega)
      refine seq_set (ev_intC (g := fun i j => .int (i / j)) (ev_int (g := fun i j => .int (i - j)) (ev_var rfl rfl) (ev_intC (ev_c (v := .int 10) rfl) (ev_c (v := .int 18) rfl) ⟨by decide, by decide, by decide⟩)) (ev_var rfl rfl) (wide_div (b := 230) hp.2 hp.1 (by decide) (by decide))) s2 fun v5 G3 H3 g3 e5 => ?_
      generalize hrem : (c - (10 : Int) ^ (18 : Int).toNat) / (1009 : Int) ^ (k % 24) = rem at e5
      rw [show v5 = V.int rem from e5]
      by_cases hpos : 0 < rem
      · refine seq_ifT (eb_test (ev_is (ev_int (ev_var rfl rfl) (ev_c rfl)) (decide_eq_true hpos))) g3.sub fun G4 H4 g4 => ?_
        exact run_ret (ev_modR (ev_modI (ev_int1 (ev_var rfl rfl)) (ev_c rfl) (by decide)) (ev_var rfl rfl) hb) g4.sub fun v G5 H5 g5 e => q v G5 H5 (((gp.trans g3).trans g4).trans g5) e
      · refine seq_guard (eb_test (ev_is (ev_int (ev_var rfl rfl) (ev_c rfl)) (decide_eq_false hpos))) g3.sub fun G4 H4 g4 => ?_
        refine seq_set (ev_modI (ev_int1 (ev_var rfl rfl)) (ev_c rfl) (by decide)) g4.sub fun v6 G5 H5 g5 e6 => ?_
        have r1 : 0 ≤ c % 1000003 := Int.emod_nonneg _ (by decide)
        have r2 : c % 1000003 < 1000003 := Int.emod_lt_of_pos _ (by decide)
        generalize hsm : c % 1000003 = sm6 at e6 r1 r2
        rw [show v6 = V.int sm6 from e6]
        have b1 : (sm6 + 977 * (k : Int)).natAbs < 2 ^ 30 := by omega
        have b2 : (sm6 + 31 * (k : Int) + 5).natAbs < 2 ^ 30 := by omega
        have b3 : ((sm6 + 977 * (k : Int)) * (sm6 + 31 * (k : Int) + 5)).natAbs < 2 ^ 100 := Nat.lt_of_lt_of_le (wide_lt b1 b2) (by decide)
        have wk : ∀ n : Int, n.natAbs < 2 ^ 20 → CMulW n (k : Int) := fun n hn => wide_mul (a := 20) (b := 10) hn (by omega) (by decide) (by decide) (by decide)
        refine run_ret (ev_modRg (n := 999983) (ev_call ((sm6 + 977 * (k : Int)) * (sm6 + 31 * (k : Int) + 5), k % 9 + 1, 999983) (ea3 mon_v mon_v mon_v
          (ev_intC (g := fun i j => .int (i * j)) (ev_int (g := fun i j => .int (i + j)) (ev_var rfl rfl) (ev_intC (g := fun i j => .int (i * j)) (ev_c rfl) (ev_var rfl rfl) (wk 977 (by decide)))) (ev_int (g := fun i j => .int (i + j)) (ev_int (g := fun i j => .int (i + j)) (ev_var rfl rfl) (ev_intC (g := fun i j => .int (i * j)) (ev_c rfl) (ev_var rfl rfl) (wk 31 (by decide)))) (ev_c rfl)) (wide_mul b1 b2 (by decide) (by decide) (by decide)))
          (ev_int (g := fun i j => .int (i + j)) (ev_modI (ev_int1 (ev_var rfl rfl)) (ev_c rfl) (by decide)) (ev_c (v := .int 1) rfl)) (ev_c (v := .int 999983) rfl) fun u1 u2 u3 G' _ x1 x2 x3 => ⟨?_, b3, by show k % 9 + 1 ≤ 1000; omega, by show 0 < 999983; decide⟩)) (ev_var rfl rfl) hb) g5.sub fun v G6 H6 g6 e => q v G6 H6 ((((gp.trans g3).trans g4).trans g5).trans g6) e
        rw [x1, x2, x3, ek9]
        rfl
end
end Hk

set_option Elab.async false
set_option linter.all false
set_option maxRecDepth 100000
set_option maxHeartbeats 1000000
/-! The draws: a list of ours that counts. -/
namespace Hk
open PySem PySem.Spec PyProof.Rows L2
theorem sc_law_next : FnScope ["_law_draw_here", "_law_bound", "_law_at", "_law_cell"] ["_law_draw_here", "_law_bound"] (defScope s_law_next) := ⟨rfl, rfl, rfl, by decide +kernel, rfl, by decide +kernel, by decide +kernel⟩
theorem sc_law_pick : FnScope ["_law_draw_here", "_law_things"] ["_law_draw_here", "_law_things"] (defScope s_law_pick) := ⟨rfl, rfl, rfl, by decide +kernel, rfl, by decide +kernel, by decide +kernel⟩
/-- the list of the draws: the script, 0, how many were drawn -/
abbrev drw (sc : V) (n : Nat) : HO := .lst [sc, .int 0, .int (n : Nat)]
theorem Gr.del2 {G0 H0 G H : Hp} {d : Addr} (g : Gr G0 H0 G H) (h0 : H0 d = none) (hg : G d = none) : Gr G0 H0 G (del H d) :=
  ⟨g.gg, fun b u e => by rw [del_ne (ne_of_none e h0)]; exact g.hh _ _ e, fun b u e => by rw [del_ne (ne_of_none e hg)]; exact g.sub _ _ e, g.old⟩
theorem same_del {G H : Hp} {d : Addr} (s : Same G H) (hg : G d = none) : Same G (del H d) := fun b u e => by rw [del_ne (ne_of_none e hg)]; exact s _ _ e
/-- what kept all but what stands at d -/
structure GD (d : Addr) (G H G2 H2 : Hp) : Prop where
  gr : Gr G (del H d) G2 H2
  no : G2 d = none
theorem GD.refl {d : Addr} {G H : Hp} (s : Same G H) (hg : G d = none) : GD d G H G H := ⟨⟨Same.refl G, fun b u e => by
    by_cases hb : b = d
    · rw [hb, del_same] at e; cases e
    · rw [del_ne hb] at e; exact e, s, fun _ _ h _ _ => h⟩, hg⟩
theorem GD.trans {d : Addr} {G H G1 H1 G2 H2 : Hp} (a : GD d G H G1 H1) (b : GD d G1 H1 G2 H2) : GD d G H G2 H2 := ⟨(a.gr.del2 del_same a.no).trans b.gr, b.no⟩
theorem GD.of {d : Addr} {G H G2 H2 : Hp} {o : HO} (g : Gr G H G2 H2) (hg : G d = none) (hd : H d = some o) (n : ∀ ys, o ≠ .tup ys) : GD d G H G2 H2 :=
  ⟨⟨g.gg, fun b u e => by
    by_cases hb : b = d
    · rw [hb, del_same] at e; cases e
    · rw [del_ne hb] at e; exact g.hh _ _ e, g.sub, fun b u h1 h2 h3 => by
    by_cases hb : b = d
    · rw [hb, del_same] at h2; cases h2
    · rw [del_ne hb] at h2; exact g.old b u h1 h2 h3⟩, g.old d _ hg hd n⟩
theorem GD.mut {d : Addr} {G H G2 H2 : Hp} {o : HO} (g : GD d G H G2 H2) : GD d G H G2 (upd H2 d o) := ⟨g.gr.mut del_same g.no, g.no⟩
/-- what a def promises that draws, at most c i times -/
def SpD (K : PySem.W.Frag) {α : Type} (c : α → Nat) (pre : α → List V → Hp → Prop) (post : α → VP) : Sp := fun vs H Q _ => ∃ (i : α) (G : Hp) (d : Addr) (sc : V) (ns : List Int) (n : Nat) (ws : List V), vs = .ref d :: ws ∧ H d = some (drw sc n) ∧ G d = none ∧ Same G H ∧ Dp K G sc (.list (ns.map PyData.int)) ∧ n + c i ≤ 1000000 ∧ pre i ws G ∧
  ∀ v n' G2 H2, GD d G H G2 H2 → H2 d = some (drw sc n') → n' ≤ n + c i → post i v G2 → Q v H2
/-- an expression that draws -/
def EvD (d : Addr) (sc : V) (te : TE) (σ : L2.St) (G : Hp) (n c : Nat) (P : VP) : Prop := ∀ H, Same G H → G d = none → H d = some (drw sc n) → ∀ Q : VK, (∀ v n' G2 H2, GD d G H G2 H2 → H2 d = some (drw sc n') → n' ≤ n + c → P v G2 → Q v H2) → te σ H Q
theorem nt_drw {sc : V} {n : Nat} : ∀ ys, drw sc n ≠ .tup ys := fun _ z => nomatch z
theorem evD_call {K : PySem.W.Frag} {d : Addr} {sc : V} {ns : List Int} {σ : L2.St} {G : Hp} {n j : Nat} {α : Type} {c : α → Nat} {pre : α → List V → Hp → Prop} {post : α → VP} {t : TA} {E : XK} (i : α) (hσ : σ[j]? = some (some (.ref d))) (hsc : Dp K G sc (.list (ns.map PyData.int))) (h : EvA t σ G (pre i)) (hb : n + c i ≤ 1000000) :
    EvD d sc (tCall (SpD K c pre post) [] E (tCons (tVar j) t)) σ G n (c i) (post i) := fun H s hg hd Q q =>
  ⟨.ref d, hσ, h H s _ fun ws G1 H1 g1 p1 => ⟨i, G1, d, sc, ns, n, ws, by rw [List.append_nil], g1.hh _ _ hd, g1.old _ _ hg hd nt_drw, g1.sub, Dp.up g1.gg _ _ hsc, hb, p1, fun v n' G2 H2 g2 hd2 hn p2 => q v n' G2 H2 ((GD.of g1 hg hd nt_drw).trans g2) hd2 hn p2⟩⟩
def sp_law_next (K : PySem.W.Frag) : Sp := SpD K (fun _ => 1) (fun (b : Nat) ws _ => ws = [.int (b : Nat)] ∧ 0 < b) (fun b => RgV b)
theorem drw_dp {K : PySem.W.Frag} {G : Hp} {d : Addr} {sc : V} {ns : List Int} {n : Nat} (hg : G d = none) (h : Dp K G sc (.list (ns.map PyData.int))) : Dp K (upd G d (drw sc n)) (.ref d) (.list [.list (ns.map PyData.int), .int 0, .int (n : Nat)]) :=
  .lst upd_same (.cons (Dp.up (same_new hg) _ _ h) (.cons (.int _) (.cons (.int _) .nil)))
section
variable {P : Program} {w : World} {K : PySem.W.Frag} {mg : Str → Option Value} {base : Heap} {S Po : Addr} (T : Tx K mg S Po)
include T
theorem ok_law_next : Fn P w K mg base 3 "_law_next" ["_law_draw_here", "_law_bound"] (sp_law_next K) := by
  obtain ⟨f_law_cell_at, fd_law_cell_at, G_law_cell_at, m_law_cell_at, k_law_cell_at, b_law_cell_at⟩ := (ok_law_cell_at (P := P) (w := w) (base := base) T)
  obtain ⟨f_law_number, fd_law_number, G_law_number, m_law_number, k_law_number, b_law_number⟩ := (ok_law_number (P := P) (w := w) (base := base) T)
  refine fn_mk (N := ["_law_draw_here", "_law_bound", "_law_at", "_law_cell"]) T.f_law_next (fun F => F.bindsN fun _ _ _ _ _ _ us hl => match us, hl with | [_, _], _ => rfl) sc_law_next (fun vs H Q E h => ?_) fun f cdv A outer s H vs Q E hr h => ?_
  · obtain ⟨b, G, d, sc, ns, n, ws, rfl, _, _, _, _, _, ⟨rfl, _⟩, _⟩ := h
    rfl
  · obtain ⟨b, G, d, sc, ns, n, ws, rfl, hd, hg, sm, hsc, hn, ⟨rfl, hb⟩, q⟩ := h
    have hn : n + 1 ≤ 1000000 := hn
    refine ⟨_, PSs.nox (pss_cons (ps_asg (pe_op op_add (pe_ix ix_list (pv 0) pe_int (fun _ _ => rfl)) pe_int) (pg_sub (pv 0) pe_int set_list))
    (pss_cons (ps_set (i := 2) sc_law_next.nd rfl (Or.inl rfl) (pe_op op_fdivW (pe_ix ix_list (pv 0) pe_int (fun _ _ => rfl)) pe_int))
    (pss_cons (ps_set (i := 3) sc_law_next.nd rfl (Or.inl rfl) (pe_op op_add (pe_call G_law_cell_at (hr.mono (by decide)) (by rfl) m_law_cell_at k_law_cell_at b_law_cell_at .nil pass0 (pa_cons (pe_ix ix_list (pv 0) pe_int (fun _ _ => rfl)) (pa_cons (pe_op op_add (pe_ix ix_list (pv 0) pe_int (fun _ _ => rfl)) (pv 2)) pa_nil))) (pe_op op_mulW pe_int (pv 2))))
    (pss_one (ps_ret (pe_call G_law_number (hr.mono (by decide)) (by rfl) m_law_number k_law_number b_law_number .nil pass0 (pa_cons (pv 3) (pa_cons (pe_op op_add (pe_op op_mod (pe_callTy call_int1 (by rfl) T.b_int (by decide +kernel) (pa_cons (pe_ix ix_list (pv 0) pe_int (fun _ _ => rfl)) pa_nil)) pe_int) pe_int) (pa_cons (pv 1) pa_nil))))))))), ?_⟩
    have e1 : EvP (tOp (rI0 fun i j => .int (i + j)) (tOp (rIxL K) (tVar 0) (tC (.int 2))) (tC (.int 1))) (start ["_law_draw_here", "_law_bound", "_law_at", "_law_cell"] [.ref d, .int (b : Nat)]) (upd G d (drw sc n)) (IsV (.int ((n : Int) + 1))) :=
      ev_int (dd_int (ev_ixL (ev_var rfl (drw_dp hg hsc)) (ev_c rfl) rfl)) (ev_c rfl)
    refine e1 H (lend sm hd) _ fun v G1 H1 g1 ev => ?_
    rw [show v = V.int (((n + 1 : Nat)) : Int) from ev]
    have gb := g1.back hg
    have hd1 := gb.hh _ _ hd
    refine ⟨.ref d, rfl, d, _, 2, 2, rfl, rfl, hd1, rfl, ?_⟩
    have ga : GD d G H (del G1 d) (upd H1 d (drw sc (n + 1))) := (GD.of gb hg hd nt_drw).mut
    have hsa := Dp.up gb.gg _ _ hsc
    have ha : (upd H1 d (drw sc (n + 1))) d = some (drw sc (n + 1)) := upd_same
    have dl := drw_dp (n := n + 1) ga.no hsa
    have at_ : (((n + 1 : Nat) : Int) / 12) = (((n + 1) / 12 : Nat) : Int) := by omega
    have ek : (((n + 1 : Nat) : Int) % 12 + 1) = (((n + 1) % 12 + 1 : Nat) : Int) := by omega
    have sl := lend ga.gr.sub ha
    show tSeq _ _ _ _ (upd H1 d (drw sc (n + 1)))
    refine seq_set (P := IsV (.int (((n + 1) / 12 : Nat) : Int))) ((ev_intC (g := fun i j => .int (i / j)) (dd_int (ev_ixL (ev_var rfl dl) (ev_c rfl) rfl)) (ev_c rfl) (wide_div (b := 20) (by decide) (by decide) (by decide) (by decide))).imp fun v _ _ e => (show v = V.int _ from e).trans (congrArg V.int at_)) sl fun v2 G2 H2 g2 e2 => ?_
    rw [show v2 = V.int (((n + 1) / 12 : Nat) : Int) from e2]
    have dl2 := Dp.up g2.gg _ _ dl
    refine seq_set (P := IsV (.int (cellAt ns ((n + 1) / 12) + 31 * (((n + 1) / 12 : Nat) : Int)))) (ev_int (g := fun i j => .int (i + j)) (ev_call (ns, (n + 1) / 12) (ea2 mon_dd mon_v (ev_ixL (ev_var rfl dl2) (ev_c rfl) rfl) (ev_int (g := fun i j => .int (i + j)) (dd_int (ev_ixL (ev_var rfl dl2) (ev_c rfl) rfl)) (ev_var rfl rfl)) fun u1 u2 G' _ x1 x2 => ⟨u1, ?_, x1⟩)) (ev_intC (g := fun i j => .int (i * j)) (ev_c rfl) (ev_var rfl rfl) (wide_mul (a := 10) (b := 30) (by decide) (by omega) (by decide) (by decide) (by decide)))) g2.sub fun v3 G3 H3 g3 e3 => ?_
    · rw [x2, Int.zero_add]
    rw [show v3 = V.int (cellAt ns ((n + 1) / 12) + 31 * (((n + 1) / 12 : Nat) : Int)) from e3]
    have dl3 := Dp.up g3.gg _ _ dl2
    refine run_ret (P := RgV b) (ev_call (cellAt ns ((n + 1) / 12) + 31 * (((n + 1) / 12 : Nat) : Int), (n + 1) % 12 + 1, b) (ea3 mon_v mon_v mon_v (ev_var rfl rfl) (ev_int (g := fun i j => .int (i + j)) (ev_modI (ev_int1 (dd_int (ev_ixL (ev_var rfl dl3) (ev_c rfl) rfl))) (ev_c rfl) (by decide)) (ev_c (v := .int 1) rfl)) (ev_var rfl rfl) fun u1 u2 u3 G' _ x1 x2 x3 => ⟨?_, by show (n + 1) % 12 + 1 ≤ 1000; omega, hb⟩)) g3.sub fun v4 G4 H4 g4 e4 => ?_
    · rw [x1, x2, x3, ek]
    · have gb2 := ((g2.trans g3).trans g4).back ga.no
      exact q v4 (n + 1) (del G4 d) H4 (ga.trans (GD.of gb2 ga.no ha nt_drw)) (gb2.hh _ _ ha) (Nat.le_refl _) e4
end
def sp_law_pick (K : PySem.W.Frag) : Sp := SpD K (fun _ => 1) (fun (l : List Str) ws G => ∃ v, ws = [v] ∧ Dp K G v (.list (l.map sD)) ∧ l ≠ []) (fun l v _ => ∃ z, z ∈ l ∧ v = .str z)
section
variable {P : Program} {w : World} {K : PySem.W.Frag} {mg : Str → Option Value} {base : Heap} {S Po : Addr} (T : Tx K mg S Po)
include T
theorem ok_law_pick : Fn P w K mg base 4 "_law_pick" ["_law_draw_here", "_law_things"] (sp_law_pick K) := by
  obtain ⟨f_law_next, fd_law_next, G_law_next, m_law_next, k_law_next, b_law_next⟩ := (ok_law_next (P := P) (w := w) (base := base) T)
  refine fn_mk (N := ["_law_draw_here", "_law_things"]) T.f_law_pick (fun F => F.bindsN fun _ _ _ _ _ _ us hl => match us, hl with | [_, _], _ => rfl) sc_law_pick (fun vs H Q E h => ?_) fun f cdv A outer s H vs Q E hr h => ?_
  · obtain ⟨b, G, d, sc, ns, n, ws, rfl, _, _, _, _, _, ⟨v, rfl, _⟩, _⟩ := h
    rfl
  · obtain ⟨l, G, d, sc, ns, n, ws, rfl, hd, hg, sm, hsc, hn, ⟨v, rfl, hv, hl⟩, q⟩ := h
    refine ⟨_, PSs.nox (pss_one (ps_ret (pe_ix ix_list (pv 1) (pe_call G_law_next (hr.mono (by decide)) (by rfl) m_law_next k_law_next b_law_next .nil pass0 (pa_cons (pv 0) (pa_cons (pe_callB call_len_seq (by rfl) T.b_len (by decide +kernel) (pa_cons (pv 1) pa_nil)) pa_nil))) (fun _ _ => rfl)))), ?_⟩
    refine ⟨v, rfl, ?_⟩
    have hpos : 0 < l.length := List.length_pos_iff.mpr hl
    refine evD_call (K := K) (ns := ns) (n := n) (c := fun _ => 1) l.length rfl hsc (ea1 (ev_lenL (ev_var rfl hv)) fun u G' _ e => ⟨by rw [show u = V.int ((l.map sD).length : Nat) from e, List.length_map], hpos⟩) hn H sm hg hd _ fun y n' G2 H2 g2 hd2 hn2 hy => ?_
    · obtain ⟨k, hk, ey⟩ := hy
      obtain ⟨a, xs, rfl, h1, h2⟩ := dp_list (Dp.up g2.gr.gg _ _ hv)
      obtain ⟨u, hu, du⟩ := DpAll.get' h2 (i := k) (d := sD l[k]) (by rw [List.getElem?_map, List.getElem?_eq_getElem hk]; rfl)
      exact ⟨a, xs, (k : Nat), u, rfl, ey, g2.gr.sub.seq h1, atI_nat hu, q u n' G2 H2 g2 hd2 hn2 ⟨l[k], List.getElem_mem hk, dp_str du⟩⟩
end
end Hk

set_option Elab.async false
set_option linter.all false
set_option maxRecDepth 100000
set_option maxHeartbeats 1000000
/-! State.__add__. -/
namespace Hk
open PySem PySem.Spec PyProof.Rows L2
theorem sc_State___add : FnScope ["self", "rights"] ["self", "rights"] (defScope s_State__add__) := ⟨rfl, rfl, rfl, by decide +kernel, rfl, by decide +kernel, by decide +kernel⟩
/-- a state made of these -/
def StMade (K : PySem.W.Frag) (S : Addr) (i : StIn) : VP := fun v G => ∃ rs : List Rt, rs.Nodup ∧ (∀ r, r ∈ rs ↔ r ∈ i.rts) ∧ Up rD rs ∧ StV K S ⟨sortS i.ppl, sortS i.ths, rs⟩ v G
theorem mon_stmade {K : PySem.W.Frag} {S : Addr} {i : StIn} : Mon (StMade K S i) := fun v _ _ s ⟨rs, h1, h2, h3, h4⟩ => ⟨rs, h1, h2, h3, mon_st _ _ _ s h4⟩
theorem mon_stpost {K : PySem.W.Frag} {i : StIn} : ∀ fs G G', Same G G' → StPost K i fs G → StPost K i fs G' := fun fs _ _ s ⟨rs, h1, h2, h3, h4⟩ => ⟨rs, h1, h2, h3, mon_stf s h4⟩
def sp_Stateadd (K : PySem.W.Frag) (S : Addr) : Sp := SpI (fun (i : StIn × List Rt) vs G => ∃ v1 v2, vs = [v1, v2] ∧ StV K S i.1 v1 G ∧ Dp K G v2 (.list (i.2.map rD)) ∧ (StIn.mk i.1.ppl i.1.ths (i.1.rts ++ i.2)).Ok) (fun i => StMade K S ⟨i.1.ppl, i.1.ths, i.1.rts ++ i.2⟩)
section
variable {P : Program} {w : World} {K : PySem.W.Frag} {mg : Str → Option Value} {base : Heap} {S Po : Addr} (T : Tx K mg S Po)
include T
theorem ok_Stateadd : MFn P w K mg base 5 S "__add__" ["self", "rights"] (sp_Stateadd K S) := by
  obtain ⟨f_State__init__, fd_State__init__, G_State__init__, k_State, b_State__init__⟩ := ok_Stateinit (P := P) (w := w) (base := base) T
  refine mfn_mk (N := ["self", "rights"]) T.f_State__add__ (fun F => F.bindsN fun _ _ _ _ _ _ us hl => match us, hl with | [_, _], _ => rfl) sc_State___add (fun vs H Q E h => ?_) fun f cdv A outer s H vs Q E hr h => ?_
  · obtain ⟨n, G, sm, ⟨v1, v2, rfl, _⟩, _⟩ := h
    rfl
  · obtain ⟨⟨i, more⟩, G, sm, ⟨v1, v2, rfl, h1, h2, ok⟩, q⟩ := h
    refine ⟨_, PSs.nox (pss_cons (ps_if (pt_not (pt_val (pe_callB call_isiT (by rfl) T.b_isinstance (by decide +kernel) (pa_cons (pv 1) (pa_cons (pe_tup (pa_cons (pe_bltn (v := .ty "list") (u := .type "list") (by rfl) T.b_list (by decide +kernel) rfl) (pa_cons (pe_bltn (v := .ty "tuple") (u := .type "tuple") (by rfl) T.b_tuple (by decide +kernel) rfl) pa_nil))) pa_nil)))))
    (pss_one ps_never) pss_nil)
    (pss_one (ps_ret (pe_make k_State G_State__init__ (hr.mono (by decide)) (by rfl) T.g_State b_State__init__ .nil pass0 (pa_cons (pe_fld (pv 0) rfl) (pa_cons (pe_fld (pv 0) rfl) (pa_cons (pe_lst (StX.pa_star (pe_fld (pv 0) rfl) (StX.pa_star (pv 1) pa_nil))) pa_nil))))))), ?_⟩
    refine seq_guard (eb_notT (eb_T (ev_isi2 (ev_var rfl h2) kB_list_list kB_list_tuple))) sm fun G1 H1 g1 => ?_
    have h11 := mon_st _ _ _ g1.gg h1
    have h21 := Dp.up g1.gg _ _ h2
    refine run_ret (P := StMade K S ⟨i.ppl, i.ths, i.rts ++ more⟩) (EvP.imp (ev_make (C := S) (post := StPost K) (pre := fun (i : StIn) ws G => ∃ a b c, ws = [a, b, c] ∧ Dp K G a (.list (i.ppl.map sD)) ∧ Dp K G b (.list (i.ths.map sD)) ∧ Dp K G c (.list (i.rts.map rD)) ∧ i.Ok) ⟨i.ppl, i.ths, i.rts ++ more⟩ mon_stpost
      (ea3 mon_dd mon_dd mon_dd (ev_people T (ev_var rfl h11)) (ev_things T (ev_var rfl h11)) (ev_lst (ead_star (ev_list (ev_rights T (ev_var rfl h11))) (ead_star (ev_list (ev_var rfl h21)) ead_nil)) ?_) fun u1 u2 u3 G' _ x1 x2 x3 => ⟨u1, u2, u3, rfl, x1, x2, ?_, ok⟩)) fun v G' _ ⟨fs, hi, rs, n, m, u, hf⟩ => ⟨rs, n, m, u, fs, hi, hf⟩) g1.sub fun v G3 H3 g3 => q v G3 H3 (g1.trans g3)
    · have := ok.lr
      have z : (i.rts ++ more).length < 64 := this
      rw [List.length_append] at z
      rw [List.append_nil, List.length_append, List.length_map, List.length_map]
      show i.rts.length + more.length ≤ 1000
      omega
    · have z := x3
      rw [List.append_nil, ← List.map_append] at z
      exact z
end
end Hk

set_option Elab.async false
set_option linter.all false
set_option maxRecDepth 100000
set_option maxHeartbeats 1000000
/-! A comprehension whose test draws. -/
namespace Hk
open PySem PySem.Spec PyProof.Rows L2
section
variable {K : PySem.W.Frag} {d : Addr} {sc : V} {σ : L2.St} {G : Hp} {ta tb te : TE} {n c : Nat}
/-- a test that draws -/
def EvTD (d : Addr) (sc : V) (tt : TT) (σ : L2.St) (G : Hp) (n c : Nat) : Prop := ∀ H, Same G H → G d = none → H d = some (drw sc n) → ∀ Q : Bool → Hp → Prop, (∀ b n' G2 H2, GD d G H G2 H2 → H2 d = some (drw sc n') → n' ≤ n + c → Q b H2) → tt σ H Q
theorem etd_cmp {m : Nat} {j : Int} {p : Int → Int → Bool} (h : EvD d sc ta σ G n c (RgV m)) : EvTD d sc (tTest (tOp (rI0 fun i j => .bl (p i j)) ta (tC (.int j)))) σ G n c := fun H s hg hd Q q =>
  h H s hg hd _ fun v n' G2 H2 g2 hd2 hn ⟨k, _, e⟩ => ⟨(k : Nat), j, e, rfl, _, rfl, q _ n' G2 H2 g2 hd2 hn⟩
theorem em_lcD {β : Type} {bs : List β} {enc : β → PyData} {wi : TI} {g : TG} {tt : TT} {vs : List Nat} {I : β → VP} (src : SrcB wi σ G bs I) (hz : bs.length ≤ 1000)
    (turn : ∀ b, b ∈ bs → ∀ v G' n', n' ≤ n + bs.length * c → Same G G' → I b v G' → ∃ σ2, Tgt g v (wipe σ vs) σ2 G' ∧ wipe σ2 vs = wipe σ vs ∧ EvTD d sc tt σ2 G' n' c ∧ ∀ G'', Same G' G'' → EvP te σ2 G'' (DD K (enc b)))
    {H : Hp} (s : Same G H) (hg : G d = none) (hd : H d = some (drw sc n)) {Q : VK}
    (q : ∀ p xs (L : List β) n' G2 H2, GD d G H G2 H2 → H p = none → G2 p = none → H2 p = some (.lst xs) → H2 d = some (drw sc n') → n' ≤ n + bs.length * c → L.Sublist bs → DpAll K G2 xs (L.map enc) → Q (.ref p) H2) : tLc wi g tt te vs σ H Q :=
  src H s _ fun J G1 H1 g1 w D hD => by
    have hd1 := g1.hh _ _ hd
    have hg1 := g1.old _ _ hg hd nt_drw
    have hDd : D ≠ d := fun z => by rw [z, hd1] at hD; cases hD
    refine lc_it w (fun i H' => ∃ (G' : Hp) (acc : List V) (L : List β) (n' : Nat), GD d G1 H1 G' H' ∧ G' D = none ∧ H' D = some (.lst acc) ∧ H' d = some (drw sc n') ∧ n' ≤ n + i * c ∧ L.Sublist (bs.take i) ∧ DpAll K G' acc (L.map enc) ∧ i ≤ bs.length) ?_ (fun i H' _ ⟨G', acc, L, n', g, _⟩ => g.gr.gg.trans g.gr.sub) ?_ ?_
    · refine ⟨G1, [], [], n, ⟨(GD.refl g1.sub hg1).gr.mnew hD, hg1⟩, g1.freeG hD, upd_same, ?_, by omega, List.nil_sublist _, .nil, Nat.zero_le _⟩
      rw [upd_ne (Ne.symm hDd)]
      exact hd1
    · rintro i x H' H2 hi ⟨G', acc, L, n', gp, hgD, hD', hd', hn', hL, hdp, hib⟩ y
      obtain ⟨G2, b, g2, hb, ib⟩ := y G' gp.gr.gg gp.gr.sub
      have hnb : n' ≤ n + bs.length * c := Nat.le_trans hn' (Nat.add_le_add_left (Nat.mul_le_mul_right _ (by omega)) _)
      obtain ⟨σ2, ht, hw, htt, hte⟩ := turn b (List.mem_of_getElem? hb) x G2 n' hnb (g1.gg.trans (gp.gr.gg.trans g2.gg)) ib
      have nt : ∀ ys : List V, HO.lst acc ≠ HO.tup ys := fun _ z => nomatch z
      have hg2 := g2.old _ _ gp.no hd' nt_drw
      have hd2 := g2.hh _ _ hd'
      have gD2 := g2.old D _ hgD hD' nt
      have hD2 := g2.hh _ _ hD'
      refine ht H2 g2.sub _ ⟨hw, htt H2 g2.sub hg2 hd2 _ fun bb n3 G3 H3 g3 hd3 hn3 => ?_⟩
      have hD3 : H3 D = some (.lst acc) := g3.gr.hh _ _ (by rw [del_ne hDd]; exact hD2)
      have gD3 : G3 D = none := g3.gr.old D _ gD2 (by rw [del_ne hDd]; exact hD2) nt
      have gp3 := (gp.trans (GD.of g2 gp.no hd' nt_drw)).trans g3
      have hn4 : n3 ≤ n + (i + 1) * c := by rw [Nat.succ_mul]; omega
      have sub1 : (bs.take (i + 1)) = bs.take i ++ [b] := by rw [List.take_add_one, hb]; rfl
      have up3 : Same G' G3 := g2.gg.trans g3.gr.gg
      cases bb with
      | true =>
        rw [if_pos rfl]
        refine hte G3 g3.gr.gg H3 g3.gr.sub _ fun v G4 H4 g4 p4 => ?_
        have hl : acc.length < sizeLine := by
          have e1 := DpAll.len hdp
          have e2 := hL.length_le
          rw [List.length_map] at e1
          rw [List.length_take] at e2
          rw [sizeLine_eq]
          omega
        have hg4 := g4.old _ _ gp3.no hd3 nt_drw
        have gp4 := gp3.trans (GD.of g4 gp3.no hd3 nt_drw)
        have gD4 := g4.old D _ gD3 hD3 nt
        refine ⟨acc, g4.hh _ _ hD3, hl, G4, acc ++ [v], L ++ [b], n3, ⟨gp4.gr.mut (by rw [del_ne hDd]; exact hD) gD4, hg4⟩, gD4, upd_same, ?_, hn4, ?_, ?_, hi⟩
        · rw [upd_ne (Ne.symm hDd)]
          exact g4.hh _ _ hd3
        · rw [sub1]
          exact List.Sublist.append hL (List.Sublist.refl _)
        · rw [List.map_append]
          exact DpAll.snoc (DpAll.up (up3.trans g4.gg) _ _ hdp) p4
      | false =>
        rw [if_neg (by simp)]
        refine ⟨G3, acc, L, n3, gp3, gD3, hD3, hd3, hn4, ?_, DpAll.up up3 _ _ hdp, hi⟩
        rw [sub1]
        exact hL.trans (List.sublist_append_left _ _)
    · rintro H' ⟨G', acc, L, n', gp, hgD, hD', hd', hn', hL, hdp, hib⟩
      rw [List.take_length] at hL
      exact q D acc L n' G' H' ((GD.of g1 hg hd nt_drw).trans gp) (g1.free0 hD) hgD hD' hd' hn' hL hdp
end
end Hk

set_option Elab.async false
set_option linter.all false
set_option maxRecDepth 100000
set_option maxHeartbeats 1000000
/-! _law_state. -/
namespace Hk
open PySem PySem.Spec PyProof.Rows L2
theorem sc_law_state : FnScope ["_law_draw_here", "_law_many", "_law_some", "_law_names", "_law_people", "_law_name", "_law_rights", "_law_turn"] ["_law_draw_here", "_law_many", "_law_some"] (defScope s_law_state) := ⟨rfl, rfl, rfl, by decide +kernel, rfl, by decide +kernel, by decide +kernel⟩
def allN : List Str := ["ann", "bob", "cat", "dan", "eve"]
def allW : List Str := ["g", "r", "t", "w"]
theorem nodup_len {β : Type} [DecidableEq β] : ∀ {l m : List β}, l.Nodup → (∀ x, x ∈ l → x ∈ m) → l.length ≤ m.length
  | [], _, _, _ => Nat.zero_le _
  | a :: l, m, n, h => by
    rw [List.nodup_cons] at n
    have ha := h a (List.mem_cons_self ..)
    have z := nodup_len (l := l) (m := m.erase a) n.2 fun x hx => (List.mem_erase_of_ne (fun e => n.1 (by rw [← e]; exact hx))).mpr (h x (List.mem_cons_of_mem _ hx))
    rw [List.length_erase_of_mem ha] at z
    have := List.length_pos_of_mem ha
    rw [List.length_cons]
    omega
/-- drawn people, things, rights -/
structure Drawn (ppl ths : List Str) (rts : List Rt) : Prop where
  nm : ∃ k, 1 ≤ k ∧ k ≤ 5 ∧ ppl.Sublist (allN.take k) ∧ ths = (allN.take k).filter (fun z => !decide (z ∈ ppl)) ∧ ∀ r ∈ rts, r.1 ∈ allN.take k ∧ r.2.1 ∈ allW ∧ r.2.2 ∈ allN.take k
  nd : rts.Nodup
  up : Up rD rts
  len : rts.length ≤ 6
def DrawnV (K : PySem.W.Frag) : VP := fun v G => ∃ ppl ths rts, Dp K G v (.tuple [.list (ppl.map sD), .list (ths.map sD), .list (rts.map rD)]) ∧ Drawn ppl ths rts
def sp_law_state (K : PySem.W.Frag) : Sp := SpD K (fun _ => 30) (fun (_ : Unit) ws _ => ws = [.int 5, .int 7]) (fun _ => DrawnV K)
section
variable {K : PySem.W.Frag} {σ : L2.St} {H : Hp} {te : TE} {g : TG} {tb u : TS} {D : Ends}
theorem evD_add1 {d : Addr} {sc : V} {G : Hp} {n c m : Nat} (h : EvD d sc te σ G n c (RgV m)) : EvD d sc (tOp (rI0 fun i j => .int (i + j)) (tC (.int 1)) te) σ G n c (fun v _ => ∃ k : Nat, k < m ∧ v = .int ((1 + k : Nat) : Int)) := fun H s hg hd Q q =>
  h H s hg hd _ fun v n' G2 H2 g2 hd2 hn ⟨k, hk, e⟩ => ⟨1, (k : Nat), rfl, e, q _ n' G2 H2 g2 hd2 hn ⟨k, hk, by rw [Int.natCast_add]; rfl⟩⟩
theorem seq_takeD {d : Addr} {sc : V} {G : Hp} {n c m i : Nat} {ta tn : TE} {ds : List PyData} (h : EvP ta σ G (DD K (.list ds))) (hn : ∀ G', Same G G' → EvD d sc tn σ G' n c (fun v _ => ∃ k : Nat, k < m ∧ v = .int ((1 + k : Nat) : Int))) (hm : m ≤ ds.length) (s : Same G H) (hg : G d = none) (hd : H d = some (drw sc n))
    (kk : ∀ v (k n' : Nat) G2 H2, GD d G H G2 H2 → H2 d = some (drw sc n') → n' ≤ n + c → k < m → Dp K G2 v (.list (ds.take (1 + k))) → u D (σ.set i (some v)) H2) : tSeq (tAsg (tSl (rSlL K) ta tNoPart (tPart tn)) (gName i)) u D σ H :=
  h H s _ fun x G1 H1 g1 hx => hn G1 g1.gg H1 g1.sub (g1.old _ _ hg hd nt_drw) (g1.hh _ _ hd) _ fun y n' G2 H2 g2 hd2 hn2 ⟨k, hk, ey⟩ => by
    obtain ⟨a, xs, rfl, h1, h2⟩ := dp_list (Dp.up g2.gr.gg _ _ hx)
    have hx2 := DpAll.len h2
    refine ⟨_, ey, a, xs, rfl, g2.gr.sub.seq h1, fun p hp => ?_⟩
    have gn := Gr.new (o := .lst (cutV xs none (some ((1 + k : Nat) : Int)))) g2.gr.sub hp
    have hpd : p ≠ d := fun z => by rw [z, hd2] at hp; cases hp
    refine kk (.ref p) k n' _ _ (((GD.of g1 hg hd nt_drw).trans g2).trans (GD.of gn g2.no hd2 nt_drw)) (by rw [upd_ne (Ne.symm hpd)]; exact hd2) hn2 hk (.lst upd_same ?_)
    unfold cutV
    rw [HT.sIx_nat, HT.sIx_none, Nat.min_eq_left (by omega), List.drop_zero, Nat.sub_zero]
    exact DpAll.up (same_new (g2.gr.sub.free hp)) _ _ (DpAll.take _ h2)
theorem ev_tup3 {t1 t2 t3 : TE} {G : Hp} {P1 P2 P3 : VP} (m1 : Mon P1) (m2 : Mon P2) (m3 : Mon P3) (h1 : EvP t1 σ G P1) (h2 : EvP t2 σ G P2) (h3 : EvP t3 σ G P3) :
    EvP (tTup (tCons t1 (tCons t2 (tCons t3 tNil)))) σ G (fun v G' => ∃ a b c p, P1 a G' ∧ P2 b G' ∧ P3 c G' ∧ v = .ref p ∧ G' p = some (.tup [a, b, c])) := fun H s Q q =>
  (ea3 (R := fun vs G' => ∃ a b c, vs = [a, b, c] ∧ P1 a G' ∧ P2 b G' ∧ P3 c G') m1 m2 m3 h1 h2 h3 fun a b c G' _ x1 x2 x3 => ⟨a, b, c, rfl, x1, x2, x3⟩) H s _ fun vs G1 H1 g1 ⟨a, b, c, e, x1, x2, x3⟩ => by
    subst e
    exact ⟨by show 3 ≤ sizeLine; decide, fun p hp => q (.ref p) _ _ (g1.trans (Gr.new g1.sub hp)) ⟨a, b, c, p, m1 _ _ _ (same_new (g1.sub.free hp)) x1, m2 _ _ _ (same_new (g1.sub.free hp)) x2, m3 _ _ _ (same_new (g1.sub.free hp)) x3, rfl, upd_same⟩⟩
theorem seq_raw {te : TE} {i : Nat} (h : te σ H fun x H1 => u D (σ.set i (some x)) H1) : tSeq (tAsg te (gName i)) u D σ H := h
theorem GD.keep {d p : Addr} {o : HO} {G H G2 H2 : Hp} (g : GD d G H G2 H2) (hp : H p = none) (hg : G2 p = none) (e : H2 p = some o) (hpd : p ≠ d) : GD d G H (upd G2 p o) H2 :=
  ⟨g.gr.keepIt (by rw [del_ne hpd]; exact hp) hg e, by rw [upd_ne (Ne.symm hpd)]; exact g.no⟩
theorem GD.none {d b : Addr} {G H G2 H2 : Hp} {o : HO} (g : GD d G H G2 H2) (hb : b ≠ d) (hg : G b = none) (e : H b = some o) (n : ∀ ys, o ≠ .tup ys) : G2 b = none ∧ H2 b = some o :=
  ⟨g.gr.old b o hg (by rw [del_ne hb]; exact e) n, g.gr.hh _ _ (by rw [del_ne hb]; exact e)⟩
theorem seq_forV (h : te σ H fun v H2 => tSeq (tFor (iRng1 (tCons (tC v) tNil)) g tb) u D σ H2) : tSeq (tFor (iRng1 (tCons te tNil)) g tb) u D σ H := h
end
section
variable {P : Program} {w : World} {K : PySem.W.Frag} {mg : Str → Option Value} {base : Heap} {S Po : Addr} (T : Tx K mg S Po)
include T
theorem ok_law_state : Fn P w K mg base 5 "_law_state" ["_law_draw_here", "_law_many", "_law_some"] (sp_law_state K) := by
  obtain ⟨f_law_next, fd_law_next, G_law_next, m_law_next, k_law_next, b_law_next⟩ := (ok_law_next (P := P) (w := w) (base := base) T)
  obtain ⟨f_law_pick, fd_law_pick, G_law_pick, m_law_pick, k_law_pick, b_law_pick⟩ := (ok_law_pick (P := P) (w := w) (base := base) T)
  refine fn_mk (N := ["_law_draw_here", "_law_many", "_law_some", "_law_names", "_law_people", "_law_name", "_law_rights", "_law_turn"]) T.f_law_state (fun F => F.bindsN fun _ _ _ _ _ _ us hl => match us, hl with | [_, _, _], _ => rfl) sc_law_state (fun vs H Q E h => ?_) fun f cdv A outer s H vs Q E hr h => ?_
  · obtain ⟨b, G, d, sc, ns, n, ws, rfl, _, _, _, _, _, rfl, _⟩ := h
    rfl
  · obtain ⟨⟨⟩, G, d, sc, ns, n, ws, rfl, hd, hg, sm, hsc, hn, rfl, q⟩ := h
    have hr0 := hr.mono (Nat.zero_le _)
    have hn : n + 30 ≤ 1000000 := hn
    refine ⟨_, PSs.nox (pss_cons (ps_set (i := 3) sc_law_state.nd rfl (Or.inl rfl) (pe_slice sl_list (pe_lst (pa_cons pe_str (pa_cons pe_str (pa_cons pe_str (pa_cons pe_str (pa_cons pe_str pa_nil)))))) po_none (po_some (pe_op op_add pe_int (pe_call G_law_next (hr.mono (by decide)) (by rfl) m_law_next k_law_next b_law_next .nil pass0 (pa_cons (pv 0) (pa_cons (pv 1) pa_nil)))))))
    (pss_cons (ps_set (i := 4) sc_law_state.nd rfl (Or.inr rfl) (pe_lc (own := [("_law_name", 5)]) rfl sc_law_state.nd (pi_list (pv 3)) (blkOk_by (own := [("_law_name", 5)]) (N := ["_law_draw_here", "_law_many", "_law_some", "_law_names", "_law_people", "_law_name", "_law_rights", "_law_turn"]) (sc := defScope s_law_state) (by decide +kernel)) (fun _ _ _ _ _ => (pg_name (i := 5) sc_law_state.nd rfl (Or.inl rfl))) (fun _ _ _ _ _ => (pts_one (pt_cmpR op_gt (pe_call G_law_next (hr.mono (by decide)) (by rfl) m_law_next k_law_next b_law_next .nil pass0 (pa_cons (pv 0) (pa_cons pe_int pa_nil))) pe_int (nomark _)))) (fun _ _ _ _ _ => (pv 5))))
    (pss_cons (ps_set (i := 6) sc_law_state.nd rfl (Or.inl rfl) (pe_lst pa_nil))
    (pss_cons (ps_for PassesOwn.never rfl (pi_range1 rfl T.b_range (pa_cons (pe_call G_law_next (hr.mono (by decide)) (by rfl) m_law_next k_law_next b_law_next .nil pass0 (pa_cons (pv 0) (pa_cons (pv 2) pa_nil))) pa_nil)) (pg_name (i := 7) sc_law_state.nd rfl (Or.inl rfl))
    (pss_one (ps_expr (pe_bm PySem.F.plainAttrs_list PySem.F.slot_list_append PySem.F.type_list_append mt_append (pv 6) (pa_cons (pe_tup (pa_cons (pe_call G_law_pick (hr.mono (by decide)) (by rfl) m_law_pick k_law_pick b_law_pick .nil pass0 (pa_cons (pv 0) (pa_cons (pv 3) pa_nil))) (pa_cons (pe_call G_law_pick (hr.mono (by decide)) (by rfl) m_law_pick k_law_pick b_law_pick .nil pass0 (pa_cons (pv 0) (pa_cons (pe_lst (pa_cons pe_str (pa_cons pe_str (pa_cons pe_str (pa_cons pe_str pa_nil))))) pa_nil))) (pa_cons (pe_call G_law_pick (hr.mono (by decide)) (by rfl) m_law_pick k_law_pick b_law_pick .nil pass0 (pa_cons (pv 0) (pa_cons (pv 3) pa_nil))) pa_nil)))) pa_nil)))))
    (pss_one (ps_ret (pe_tup (pa_cons (pv 4) (pa_cons (pe_lc (own := [("_law_name", 5)]) rfl sc_law_state.nd (pi_list (pv 3)) (blkOk_by (own := [("_law_name", 5)]) (N := ["_law_draw_here", "_law_many", "_law_some", "_law_names", "_law_people", "_law_name", "_law_rights", "_law_turn"]) (sc := defScope s_law_state) (by decide +kernel)) (fun _ _ _ _ _ => (pg_name (i := 5) sc_law_state.nd rfl (Or.inl rfl))) (fun _ _ _ _ _ => (pts_one (pt_cmpR (show OpR _ (compareOp .NotIn) (rIn K true) from op_notIn_seq) (pv 5) (pv 4) rfl))) (fun _ _ _ _ _ => (pv 5))) (pa_cons (pe_sortSet tup_ok br_tup rfl hr0 (pv 6) (by rfl) T.b_set (by rfl) T.b_sorted) pa_nil)))))))))), ?_⟩
    have h1 : EvP (tLst (tCons (tC (.str "ann")) (tCons (tC (.str "bob")) (tCons (tC (.str "cat")) (tCons (tC (.str "dan")) (tCons (tC (.str "eve")) tNil)))))) (start ["_law_draw_here", "_law_many", "_law_some", "_law_names", "_law_people", "_law_name", "_law_rights", "_law_turn"] [.ref d, .int 5, .int 7]) G (DD K (.list (allN.map sD))) :=
      ev_lst (ead_cons (str_dd (ev_c rfl)) (ead_cons (str_dd (ev_c rfl)) (ead_cons (str_dd (ev_c rfl)) (ead_cons (str_dd (ev_c rfl)) (ead_cons (str_dd (ev_c rfl)) ead_nil))))) (by decide)
    refine seq_takeD (m := 5) (c := 1) h1 (fun G' s' => evD_add1 (evD_call (K := K) (ns := ns) (n := n) (c := fun _ => 1) (5 : Nat) rfl (Dp.up s' _ _ hsc) (ea1 (P1 := IsV (.int 5)) (ev_var rfl rfl) fun u G' _ e => ⟨by rw [show u = V.int 5 from e]; rfl, by decide⟩) (by show n + 1 ≤ 1000000; omega))) (by decide) sm hg hd fun v3 k n1 G1 H1 g1 hd1 hn1 hk h3 => ?_
    have h3' : Dp K G1 v3 (.list ((allN.take (1 + k)).map sD)) := by rw [List.map_take]; exact h3
    have call : ∀ {σ' : L2.St} {G' : Hp} {nn : Nat} {tb' : TE} {E' : XK} (b : Nat), σ'[0]? = some (some (.ref d)) → Same G G' → 0 < b → nn + 1 ≤ 1000000 → EvP tb' σ' G' (IsV (.int (b : Nat))) → EvD d sc (tCall (sp_law_next K) [] E' (tCons (tVar 0) (tCons tb' tNil))) σ' G' nn 1 (RgV b) := fun b hσ s' hb hnn hbv =>
      evD_call (K := K) (ns := ns) (c := fun _ => 1) b hσ (Dp.up s' _ _ hsc) (ea1 hbv fun u G' _ e => ⟨by rw [show u = _ from e], hb⟩) hnn
    have pick : ∀ {σ' : L2.St} {G' : Hp} {nn : Nat} {tb' : TE} {E' : XK} (l : List Str), σ'[0]? = some (some (.ref d)) → Same G G' → l ≠ [] → nn + 1 ≤ 1000000 → EvP tb' σ' G' (DD K (.list (l.map sD))) → EvD d sc (tCall (sp_law_pick K) [] E' (tCons (tVar 0) (tCons tb' tNil))) σ' G' nn 1 (fun v _ => ∃ z, z ∈ l ∧ v = .str z) := fun l hσ s' hl hnn hbv =>
      evD_call (K := K) (ns := ns) (c := fun _ => 1) l hσ (Dp.up s' _ _ hsc) (ea1 hbv fun u G' _ e => ⟨u, rfl, e, hl⟩) hnn
    have hlen : (allN.take (1 + k)).length ≤ 5 := by rw [List.length_take]; exact Nat.min_le_right _ _
    refine seq_raw (em_lcD (K := K) (n := n1) (c := 1) (bs := allN.take (1 + k)) (enc := sD) (src_list (enc := sD) (ev_var rfl h3')) (by omega)
      (fun b hb v G' n' hn' s' i' => ⟨_, tgt_name, rfl, etd_cmp (p := fun i j => decide (j < i)) (call 3 rfl (g1.gr.gg.trans s') (by decide) (by omega) (ev_c rfl)), fun G'' s'' => ev_var rfl (Dp.up s'' _ _ i')⟩) g1.gr.sub g1.no hd1 fun p xs ppl n2 G2 H2 g2 hp hgp e2 hd2 hn2 hL hdp => ?_)
    have hpd : p ≠ d := fun z => by rw [z, hd1] at hp; cases hp
    have g2k := g2.keep hp hgp e2 hpd
    have h4 : Dp K (upd G2 p (.lst xs)) (.ref p) (.list (ppl.map sD)) := .lst upd_same (DpAll.up (same_new hgp) _ _ hdp)
    have g02 := g1.trans g2k
    have h32 := Dp.up g2k.gr.gg _ _ h3'
    have nl : ∀ (zs ys : List V), HO.lst zs ≠ HO.tup ys := fun _ _ z => nomatch z
    refine seq_setM (em_lst (K := K) ead_nil (by decide)) g2k.gr.sub fun l o G3 H3 g3 hl0 hgl e3 ⟨ys0, eo, hy0⟩ => ?_
    subst eo
    have hd3 := g3.hh _ _ hd2
    have g3d := GD.of g3 g2k.no hd2 nt_drw
    have g03 := g02.trans g3d
    have hld : l ≠ d := fun z => by rw [z, hd2] at hl0; cases hl0
    have hl1 : del H d l = none := g02.gr.free0 hl0
    refine seq_forV ?_
    refine call 7 rfl g03.gr.gg (by decide) (by omega) (ev_var (P := IsV (.int 7)) rfl rfl) H3 g3.sub g3d.no hd3 _ fun v7 n4 G4 H4 g4 hd4 hn4 hv7 => ?_
    obtain ⟨m, hm, rfl⟩ := hv7
    obtain ⟨hgl4, e4⟩ := g4.none hld hgl e3 (nl _)
    have g04 := g03.trans g4
    refine seq_for (src_range (n := m) (ev_c rfl) (by omega)) g4.gr.sub fun G5 H5 g5 => ⟨fun i σ' G' H' => GD d G H G' H' ∧ G' l = none ∧ (∃ (ys : List V) (rts : List Rt) (n' : Nat), H' l = some (.lst ys) ∧ DpAll K G' ys (rts.map rD) ∧ rts.length = i ∧ (∀ r ∈ rts, r.1 ∈ allN.take (1 + k) ∧ r.2.1 ∈ allW ∧ r.2.2 ∈ allN.take (1 + k)) ∧ H' d = some (drw sc n') ∧ n' ≤ n + 7 + 3 * i) ∧
        ∃ a b, σ' = [some (.ref d), some (.int 5), some (.int 7), some v3, some (.ref p), a, some (.ref l), b], ⟨g04.trans (GD.of g5 g4.no hd4 nt_drw), g5.old _ _ hgl4 e4 (nl _), ⟨ys0, [], n4, g5.hh _ _ e4, ?_, rfl, (fun r hr => by cases hr), g5.hh _ _ hd4, by omega⟩, _, _, rfl⟩, ?_, ?_⟩
    · exact DpAll.up (g4.gr.gg.trans g5.gg) _ _ hy0
    · rintro i j σ' G' H' hj s1 s2 ⟨gp, hgl', ⟨ys, rts, n', hl', hy, hlen', hok, hd', hn'⟩, a, b, rfl⟩ x G6 H6 g6 ix
      have him : i < m := by
        have := (List.getElem?_eq_some_iff.mp hj).1
        rwa [List.length_range] at this
      have gd6 := GD.of g6 gp.no hd' nt_drw
      have hd6 := g6.hh _ _ hd'
      have hl6 := g6.hh _ _ hl'
      have hgl6 := g6.old _ _ hgl' hl' (nl _)
      have g06 := gp.trans gd6
      have h36 := Dp.up (((g3.gg.trans g4.gr.gg).trans g5.gg).trans (s1.trans g6.gg)) _ _ h32
      have hne : allN.take (1 + k) ≠ [] := fun z => by
        have := congrArg List.length z
        rw [List.length_take] at this
        have l5 : allN.length = 5 := rfl
        rw [l5] at this
        have : min (1 + k) 5 = 0 := this
        omega
      refine ⟨.ref l, rfl, .inl ⟨rfl, _, SqL.of hl6⟩, ?_⟩
      refine pick (nn := n') (allN.take (1 + k)) rfl g06.gr.gg hne (by omega) (ev_var rfl h36) H6 g6.sub gd6.no hd6 _ fun w1 n7 G7 H7 g7 hd7 hn7 hw1 => ?_
      obtain ⟨z1, hz1, rfl⟩ := hw1
      have g07 := g06.trans g7
      refine pick (nn := n7) allW rfl g07.gr.gg (by decide) (by omega) (ev_lst (ead_cons (str_dd (ev_c rfl)) (ead_cons (str_dd (ev_c rfl)) (ead_cons (str_dd (ev_c rfl)) (ead_cons (str_dd (ev_c rfl)) ead_nil)))) (by decide)) H7 g7.gr.sub g7.no hd7 _ fun w2 n8 G8 H8 g8 hd8 hn8 hw2 => ?_
      obtain ⟨z2, hz2, rfl⟩ := hw2
      have g08 := g07.trans g8
      refine pick (nn := n8) (allN.take (1 + k)) rfl g08.gr.gg hne (by omega) (ev_var rfl (Dp.up (g7.gr.gg.trans g8.gr.gg) _ _ h36)) H8 g8.gr.sub g8.no hd8 _ fun w3 n9 G9 H9 g9 hd9 hn9 hw3 => ?_
      obtain ⟨z3, hz3, rfl⟩ := hw3
      have g09 := g08.trans g9
      obtain ⟨k7, m7⟩ := g7.none hld hgl6 hl6 (nl _)
      obtain ⟨k8, m8⟩ := g8.none hld k7 m7 (nl _)
      obtain ⟨k9, m9⟩ := g9.none hld k8 m8 (nl _)
      refine ⟨by show 3 ≤ sizeLine; decide, fun t ht => ?_⟩
      have gn := Gr.new (o := .tup [.str z1, .str z2, .str z3]) g9.gr.sub ht
      have htl : t ≠ l := fun z => by rw [z, m9] at ht; cases ht
      have htd : t ≠ d := fun z => by rw [z, hd9] at ht; cases ht
      have g10 := g09.trans (GD.of gn g9.no hd9 nt_drw)
      have ml : (upd H9 t (.tup [.str z1, .str z2, .str z3])) l = some (.lst ys) := by rw [upd_ne (Ne.symm htl)]; exact m9
      have kl : (upd G9 t (.tup [.str z1, .str z2, .str z3])) l = none := by rw [upd_ne (Ne.symm htl)]; exact k9
      have yl : ys.length < sizeLine := by
        have := DpAll.len hy
        rw [List.length_map] at this
        rw [sizeLine_eq]
        omega
      refine ⟨l, ys, .ref t, rfl, rfl, ml, yl, upd G9 t (.tup [.str z1, .str z2, .str z3]), ?_, ?_, ⟨g10.gr.mut hl1 kl, g10.no⟩, kl, ⟨ys ++ [.ref t], rts ++ [(z1, z2, z3)], n9, upd_same, ?_, ?_, ?_, ?_, by omega⟩, _, _, rfl⟩
      · exact (s1.trans g6.gg).trans (((g7.gr.gg.trans g8.gr.gg).trans g9.gr.gg).trans gn.gg)
      · exact fun b u e => by rw [upd_ne (ne_of_none e kl)]; exact gn.sub _ _ e
      · rw [List.map_append]
        exact DpAll.snoc (DpAll.up (g6.gg.trans (((g7.gr.gg.trans g8.gr.gg).trans g9.gr.gg).trans gn.gg)) _ _ hy) (.tup upd_same (.cons (.str _) (.cons (.str _) (.cons (.str _) .nil))))
      · rw [List.length_append, hlen']; rfl
      · intro r hr
        rcases List.mem_append.mp hr with h | h
        · exact hok r h
        · rw [List.mem_singleton.mp h]
          exact ⟨hz1, hz2, hz3⟩
      · rw [upd_ne (Ne.symm hld), upd_ne (Ne.symm htd)]
        exact hd9
    · rintro σ' G' H' s1 s2 ⟨gp, hgl', ⟨ys, rts, n', hl', hy, hlen', hok, hd', hn'⟩, a, b, rfl⟩
      rw [List.length_range] at hlen' hn'
      have gk : GD d G H (upd G' l (.lst ys)) H' := ⟨gp.gr.keepIt hl1 hgl' hl', by rw [upd_ne (Ne.symm hld)]; exact gp.no⟩
      have sk : Same G' (upd G' l (.lst ys)) := same_new hgl'
      have sA := ((((g3.gg.trans g4.gr.gg).trans g5.gg).trans s1).trans sk)
      have hr6 : Dp K (upd G' l (.lst ys)) (.ref l) (.list (rts.map rD)) := .lst upd_same (DpAll.up sk _ _ hy)
      have h4k := Dp.up sA _ _ h4
      have h3k := Dp.up sA _ _ h32
      let PR : VP := fun v G' => ∃ rs : List Rt, rs.Nodup ∧ (∀ r, r ∈ rs ↔ r ∈ rts) ∧ Up rD rs ∧ Dp K G' v (.list (rs.map rD))
      have mR : Mon PR := fun v _ _ s ⟨rs, h1, h2, h3, h4⟩ => ⟨rs, h1, h2, h3, Dp.up s _ _ h4⟩
      refine run_ret (ev_tup3 (P1 := DD K (.list (ppl.map sD))) (P2 := DD K (.list (((allN.take (1 + k)).filter fun z => !decide (z ∈ ppl)).map sD))) (P3 := PR) mon_dd mon_dd mR (ev_var rfl h4k)
        (ev_lc (bs := allN.take (1 + k)) (keep := fun z => !decide (z ∈ ppl)) sD (src_list (enc := sD) (ev_var rfl h3k)) (sz64 (by omega)) fun z hz v G'' s i => ⟨_, tgt_name, rfl, eb_test (ev_niS (dd_str (ev_var rfl i)) (ev_var rfl (Dp.up s _ _ h4k))), fun _ => ev_var rfl i⟩)
        (ev_sortSetR (ev_list (ev_var rfl hr6)) (by omega))) gk.gr.sub fun v G9 H9 g9 hv => q v n' G9 H9 (gk.trans (GD.of g9 gk.no hd' nt_drw)) (g9.hh _ _ hd') (by show n' ≤ n + 30; omega) ?_
      obtain ⟨a1, a2, a3, pp, x1, x2, ⟨rs, y1, y2, y3, y4⟩, rfl, e⟩ := hv
      refine ⟨ppl, _, rs, .tup e (.cons x1 (.cons x2 (.cons y4 .nil))), ⟨⟨1 + k, by omega, by omega, hL, rfl, fun r hr => hok r ((y2 r).mp hr)⟩, y1, y3, ?_⟩⟩
      have := nodup_len y1 fun r hr => (y2 r).mp hr
      omega
end
end Hk

set_option Elab.async false
set_option linter.all false
set_option maxRecDepth 100000
set_option maxHeartbeats 1000000
/-! _law_rules. -/
namespace Hk
open PySem PySem.Spec PyProof.Rows L2
theorem sc_law_rules : FnScope ["_law_draw_here", "_law_most", "_law_words", "_law_found", "_law_turn", "_law_kind", "_law_one", "_law_two", "_law_three", "_law_pairs", "_law_rule"] ["_law_draw_here", "_law_most"] (defScope s_law_rules) := ⟨rfl, rfl, rfl, by decide +kernel, rfl, by decide +kernel, by decide +kernel⟩
/-- its words are drawn ones -/
def RW : Rule → Prop
  | .fetch w ps => w ∈ allW ∧ ps.length ≤ 2 ∧ ∀ p ∈ ps, p.1 ∈ allW ∧ p.2 ∈ allW
  | .hand w ps => w ∈ allW ∧ ps.length ≤ 2 ∧ ∀ p ∈ ps, p.1 ∈ allW ∧ p.2 ∈ allW
  | .rais a b => a ∈ allW ∧ b ∈ allW
  | .meet a b c => a ∈ allW ∧ b ∈ allW ∧ c ∈ allW
  | .make ws => ∀ w ∈ ws, w ∈ allW
structure DrawnR (rs : List Rule) : Prop where
  len : rs.length ≤ 6
  ok : ∀ r ∈ rs, r.Ok ∧ RW r
  one : ∀ i r, rs[i]? = some r → r.kind = ("make" : Str) → ("make" : Str) ∉ (rs.take i).map Rule.kind
def RulesV (K : PySem.W.Frag) : VP := fun v G => ∃ rs, Dp K G v (.list (rs.map ruleD)) ∧ DrawnR rs
def sp_law_rules (K : PySem.W.Frag) : Sp := SpD K (fun _ => 100) (fun (_ : Unit) ws _ => ws = [.int 6]) (fun _ => RulesV K)
theorem GD.keep' {d p : Addr} {o : HO} {G H G2 H2 : Hp} (g : GD d G H G2 H2) (hp : del H d p = Option.none) (hg : G2 p = Option.none) (e : H2 p = some o) (hpd : p ≠ d) : GD d G H (upd G2 p o) H2 :=
  ⟨g.gr.keepIt hp hg e, by rw [upd_ne (Ne.symm hpd)]; exact g.no⟩
theorem isW_all : ∀ z ∈ allW, isW z = true := by decide
theorem one_snoc {rs : List Rule} {r : Rule} (h : ∀ i r, rs[i]? = some r → r.kind = ("make" : Str) → ("make" : Str) ∉ (rs.take i).map Rule.kind) (hr : r.kind = ("make" : Str) → ("make" : Str) ∉ rs.map Rule.kind) :
    ∀ i r', (rs ++ [r])[i]? = some r' → r'.kind = ("make" : Str) → ("make" : Str) ∉ ((rs ++ [r]).take i).map Rule.kind := fun i r' e k => by
  by_cases hi : i < rs.length
  · rw [List.getElem?_append_left hi] at e
    rw [List.take_append_of_le_length (by omega)]
    exact h i r' e k
  · have hi' : i = rs.length := by
      have := (List.getElem?_eq_some_iff.mp e).1
      rw [List.length_append, List.length_singleton] at this
      omega
    subst hi'
    rw [List.getElem?_append_right (Nat.le_refl _), Nat.sub_self] at e
    cases e
    rw [List.take_append_of_le_length (Nat.le_refl _), List.take_length]
    exact hr k
section
variable {K : PySem.W.Frag} {σ : L2.St} {G : Hp} {ta t1 t2 te : TE}
theorem ev_tupOfLE {β : Type} {R : β → Prop} {D : β → List PyData} (h : EvP ta σ G (fun v G' => ∃ w, R w ∧ Dp K G' v (.list (D w)))) :
    EvP (tCB (fun xs H Q => ∃ p ys, xs = [.ref p] ∧ ((SqL K H p ys ∧ ∀ l, H l = none → Q (.ref l) (upd H l (.tup ys))) ∨ (SqT K H p ys ∧ Q (.ref p) H))) (tCons ta tNil)) σ G (fun v G' => ∃ w, R w ∧ Dp K G' v (.tuple (D w))) := fun H s Q q =>
  h H s _ fun v G1 H1 g1 ⟨w, hR, hd⟩ => by
    obtain ⟨a, xs, rfl, h1, h2⟩ := dp_list hd
    exact ⟨a, xs, rfl, .inl ⟨g1.sub.seq h1, fun l hl => q (.ref l) _ _ (g1.trans (Gr.new g1.sub hl)) ⟨w, hR, .tup upd_same (DpAll.up (same_new (g1.sub.free hl)) _ _ h2)⟩⟩⟩
theorem ev_tup2 {P1 P2 : VP} (m1 : Mon P1) (m2 : Mon P2) (h1 : EvP t1 σ G P1) (h2 : EvP t2 σ G P2) :
    EvP (tTup (tCons t1 (tCons t2 tNil))) σ G (fun v G' => ∃ a b p, P1 a G' ∧ P2 b G' ∧ v = .ref p ∧ G' p = some (.tup [a, b])) := fun H s Q q =>
  (ea2 (R := fun vs G' => ∃ a b, vs = [a, b] ∧ P1 a G' ∧ P2 b G') m1 m2 h1 h2 fun a b G' _ x1 x2 => ⟨a, b, rfl, x1, x2⟩) H s _ fun vs G1 H1 g1 ⟨a, b, e, x1, x2⟩ => by
    subst e
    exact ⟨by show 2 ≤ sizeLine; decide, fun p hp => q (.ref p) _ _ (g1.trans (Gr.new g1.sub hp)) ⟨a, b, p, m1 _ _ _ (same_new (g1.sub.free hp)) x1, m2 _ _ _ (same_new (g1.sub.free hp)) x2, rfl, upd_same⟩⟩
/-- x = a if draw == 0 else b, both new things -/
theorem emd_if {d : Addr} {sc : V} {n m : Nat} {tc tb' : TE} {R : HO → Hp → Prop} (hc : EvD d sc tc σ G n 1 (RgV m)) (ha : ∀ G', Same G G' → EvM ta σ G' R) (hb : ∀ G', Same G G' → EvM tb' σ G' R)
    {H : Hp} (s : Same G H) (hg : G d = none) (hd : H d = some (drw sc n)) {Q : VK} (q : ∀ p o n' G2 H2, GD d G H G2 H2 → p ≠ d → del H d p = none → G2 p = none → H2 p = some o → H2 d = some (drw sc n') → n' ≤ n + 1 → R o G2 → Q (.ref p) H2) :
    tIf (tTest (tOp rEq tc (tC (.int 0)))) ta tb' σ H Q :=
  hc H s hg hd _ fun v n' G1 H1 g1 hd1 hn1 ⟨k, _, e⟩ => by
    subst e
    have fin : ∀ {te : TE}, EvM te σ G1 R → te σ H1 Q := fun he => he H1 g1.gr.sub _ fun p o G2 H2 g2 h0 hg2 e2 r =>
      q p o n' G2 H2 (g1.trans (GD.of g2 g1.no hd1 nt_drw)) (fun z => by rw [z, hd1] at h0; cases h0) (g1.gr.free0 h0) hg2 e2 (g2.hh _ _ hd1) hn1 r
    refine ⟨rfl, _, rfl, ?_⟩
    show if decide (V.int (k : Nat) = V.int 0) = true then ta σ H1 Q else tb' σ H1 Q
    split
    · exact fin (ha G1 g1.gr.gg)
    · exact fin (hb G1 g1.gr.gg)
/-- if draw == 0 and test: suite -/
theorem seq_and0 {d : Addr} {sc : V} {n m : Nat} {tc : TE} {tt2 : TT} {t u : TS} {D : Ends} (hc : EvD d sc tc σ G n 1 (RgV m)) {H : Hp} (s : Same G H) (hg : G d = none) (hd : H d = some (drw sc n))
    (kk : ∀ n' G1 H1, GD d G H G1 H1 → H1 d = some (drw sc n') → n' ≤ n + 1 → (tt2 σ H1 fun b H2 => if b = true then t { D with nx := u D } σ H2 else u D σ H2) ∧ u D σ H1) :
    tSeq (tIfS (tAnd (tTest (tOp rEq tc (tC (.int 0)))) tt2) t tNext) u D σ H :=
  hc H s hg hd _ fun v n' G1 H1 g1 hd1 hn1 ⟨k, _, e⟩ => by
    subst e
    obtain ⟨k1, k2⟩ := kk n' G1 H1 g1 hd1 hn1
    refine ⟨rfl, _, rfl, ?_⟩
    show if decide (V.int (k : Nat) = V.int 0) = true then (tt2 σ H1 fun b H2 => if b = true then t { D with nx := u D } σ H2 else u D σ H2) else (if false = true then t { D with nx := u D } σ H1 else u D σ H1)
    split
    · exact k1
    · exact k2
/-- sorted(set(..)) of texts -/
theorem ev_sortSetS {zs : List Str} (h : EvP te σ G (DD K (.list (zs.map sD)))) (hl : zs.length < 64) : EvP (tSortSet K PyData.str te) σ G (fun v G' => ∃ ws : List Str, (ws.Nodup ∧ (∀ b, b ∈ ws ↔ b ∈ zs) ∧ Up sD ws) ∧ Dp K G' v (.list (ws.map sD))) :=
  (em_sortSet (enc := PyData.str) (bs := zs) (ev_list h) hl (PySem.W.AllAlike.of fun _ _ => rfl) (PySem.W.Sortable.others fun _ => ⟨(fun z => nomatch z), (fun _ z => nomatch z)⟩)).stay fun p o G' hp ⟨xs, cs, e, n, m, h⟩ => by
    subst e
    exact ⟨_, ⟨(List.mergeSort_perm cs _).nodup_iff.mpr n, fun b => ((List.mergeSort_perm cs _).mem_iff).trans (m b), up_sort cs⟩, .lst upd_same (DpAll.up (same_new hp) _ _ h)⟩
end
theorem ps_ok {ps : List (Str × Str)} (nd : ps.Nodup) (lo : 1 ≤ ps.length) (hi : ps.length ≤ 2) (w : ∀ p ∈ ps, p.1 ∈ allW ∧ p.2 ∈ allW) :
    PsOk (ps.mergeSort (PySem.W.dataLe false pD)) ∧ (ps.mergeSort (PySem.W.dataLe false pD)).length ≤ 2 ∧ ∀ p ∈ ps.mergeSort (PySem.W.dataLe false pD), p.1 ∈ allW ∧ p.2 ∈ allW := by
  have w2 : ∀ p ∈ ps.mergeSort (PySem.W.dataLe false pD), p.1 ∈ allW ∧ p.2 ∈ allW := fun p hp => w p (List.mem_mergeSort.mp hp)
  have hl := List.length_mergeSort (le := PySem.W.dataLe false pD) ps
  exact ⟨⟨(List.mergeSort_perm ps _).nodup_iff.mpr nd, by omega, by omega, fun p hp => ⟨isW_all _ (w2 p hp).1, isW_all _ (w2 p hp).2⟩, up_sort ps⟩, by omega, w2⟩
/-- the row of a fetch or a hand -/
theorem ev_fh {K : PySem.W.Frag} {σ : L2.St} {G : Hp} {kd : Nat} {z1 : Str} {p : Addr} {ps : List (Str × Str)} {rs : List Rule} (h5 : σ[5]? = some (some (.int (kd : Nat)))) (h6 : σ[6]? = some (some (.str z1))) (h9 : σ[9]? = some (some (.ref p))) (hz : z1 ∈ allW)
    (hd : Dp K G (.ref p) (.list (ps.map pD))) (nd : ps.Nodup) (lo : 1 ≤ ps.length) (hi : ps.length ≤ 2) (w : ∀ p ∈ ps, p.1 ∈ allW ∧ p.2 ∈ allW) :
    EvP (tTup (tCons (tIf (tTest (tOp (rI0 fun i j => .bl (decide (i < j))) (tVar 5) (tC (.int 3)))) (tC (.str "fetch")) (tC (.str "hand"))) (tCons (tVar 6) (tCons (tCB (fun xs H Q => ∃ p ys, xs = [.ref p] ∧ ((SqL K H p ys ∧ ∀ l, H l = none → Q (.ref l) (upd H l (.tup ys))) ∨ (SqT K H p ys ∧ Q (.ref p) H))) (tCons (tCB (rSort K pD) (tCons (tVar 9) tNil)) tNil)) tNil)))) σ G
      (fun v G' => ∃ r : Rule, r.Ok ∧ RW r ∧ (r.kind = ("make" : Str) → ("make" : Str) ∉ rs.map Rule.kind) ∧ Dp K G' v (ruleD r)) := by
  obtain ⟨o1, o2, o3⟩ := ps_ok nd lo hi w
  have es := ev_tupOfL (ev_sortL (enc := pD) (bs := ps) (ev_list (K := K) (ev_var h9 hd)) (srt_p K (by omega)))
  by_cases hk : kd < 3
  · refine (ev_tup (ead_cons (str_dd (x := "fetch") (ev_if (b := true) (eb_test (ev_is (ev_int (i := (kd : Nat)) (ev_var h5 rfl) (ev_c rfl)) (decide_eq_true (by omega)))) mon_v (fun _ => ev_c rfl) (fun z => nomatch z))) (ead_cons (str_dd (ev_var h6 rfl)) (ead_cons es ead_nil))) (by show 3 ≤ 1000; decide)).imp fun v G' _ e => ⟨.fetch z1 (ps.mergeSort (PySem.W.dataLe false pD)), ⟨isW_all _ hz, o1⟩, ⟨hz, o2, o3⟩, (fun z => absurd (show ("fetch" : Str) = "make" from z) (by decide)), e⟩
  · refine (ev_tup (ead_cons (str_dd (x := "hand") (ev_if (b := false) (eb_test (ev_is (ev_int (i := (kd : Nat)) (ev_var h5 rfl) (ev_c rfl)) (decide_eq_false (by omega)))) mon_v (fun z => nomatch z) (fun _ => ev_c rfl))) (ead_cons (str_dd (ev_var h6 rfl)) (ead_cons es ead_nil))) (by show 3 ≤ 1000; decide)).imp fun v G' _ e => ⟨.hand z1 (ps.mergeSort (PySem.W.dataLe false pD)), ⟨isW_all _ hz, o1⟩, ⟨hz, o2, o3⟩, (fun z => absurd (show ("hand" : Str) = "make" from z) (by decide)), e⟩
section
variable {P : Program} {w : World} {K : PySem.W.Frag} {mg : Str → Option Value} {base : Heap} {S Po : Addr} (T : Tx K mg S Po)
include T
theorem ok_law_rules : Fn P w K mg base 5 "_law_rules" ["_law_draw_here", "_law_most"] (sp_law_rules K) := by
  obtain ⟨f_law_next, fd_law_next, G_law_next, m_law_next, k_law_next, b_law_next⟩ := (ok_law_next (P := P) (w := w) (base := base) T)
  obtain ⟨f_law_pick, fd_law_pick, G_law_pick, m_law_pick, k_law_pick, b_law_pick⟩ := (ok_law_pick (P := P) (w := w) (base := base) T)
  refine fn_mk (N := ["_law_draw_here", "_law_most", "_law_words", "_law_found", "_law_turn", "_law_kind", "_law_one", "_law_two", "_law_three", "_law_pairs", "_law_rule"]) T.f_law_rules (fun F => F.bindsN fun _ _ _ _ _ _ us hl => match us, hl with | [_, _], _ => rfl) sc_law_rules (fun vs H Q E h => ?_) fun f cdv A outer s H vs Q E hr h => ?_
  · obtain ⟨b, G, d, sc, ns, n, ws, rfl, _, _, _, _, _, rfl, _⟩ := h
    rfl
  · obtain ⟨⟨⟩, G, d, sc, ns, n, ws, rfl, hd, hg, sm, hsc, hn, rfl, q⟩ := h
    have hr0 := hr.mono (Nat.zero_le _)
    have hu65 : A.units + 3 + 65 < cLine := by have := hr.un; show A.units + 3 + 65 < cLine; have h2 : (A.deeper (envOfC "_law_rules" (defScope s_law_rules) s.heap.objs.size f cdv)).units = A.units + 3 := rfl; omega
    have hn : n + 100 ≤ 1000000 := hn
    refine ⟨_, PSs.nox (pss_cons (ps_par (i := 2) (j := 3) rfl sc_law_rules.nd rfl rfl (by decide) rfl rfl (pa_cons (pe_lst (pa_cons pe_str (pa_cons pe_str (pa_cons pe_str (pa_cons pe_str pa_nil))))) (pa_cons (pe_lst pa_nil) pa_nil)) (by rfl))
    (pss_cons (ps_for PassesOwn.never rfl (pi_range1 rfl T.b_range (pa_cons (pe_call G_law_next (hr.mono (by decide)) (by rfl) m_law_next k_law_next b_law_next .nil pass0 (pa_cons (pv 0) (pa_cons (pe_op op_add (pv 1) pe_int) pa_nil))) pa_nil)) (pg_name (i := 4) sc_law_rules.nd rfl (Or.inl rfl))
    (pss_cons (ps_asg (pe_tup (pa_cons (pe_call G_law_next (hr.mono (by decide)) (by rfl) m_law_next k_law_next b_law_next .nil pass0 (pa_cons (pv 0) (pa_cons pe_int pa_nil))) (pa_cons (pe_call G_law_pick (hr.mono (by decide)) (by rfl) m_law_pick k_law_pick b_law_pick .nil pass0 (pa_cons (pv 0) (pa_cons (pv 2) pa_nil))) (pa_cons (pe_call G_law_pick (hr.mono (by decide)) (by rfl) m_law_pick k_law_pick b_law_pick .nil pass0 (pa_cons (pv 0) (pa_cons (pv 2) pa_nil))) (pa_cons (pe_call G_law_pick (hr.mono (by decide)) (by rfl) m_law_pick k_law_pick b_law_pick .nil pass0 (pa_cons (pv 0) (pa_cons (pv 2) pa_nil))) pa_nil))))) (pg_tup rfl (pgs_cons (pg_name (i := 5) sc_law_rules.nd rfl (Or.inl rfl)) (pgs_cons (pg_name (i := 6) sc_law_rules.nd rfl (Or.inl rfl)) (pgs_cons (pg_name (i := 7) sc_law_rules.nd rfl (Or.inl rfl)) (pgs_cons (pg_name (i := 8) sc_law_rules.nd rfl (Or.inl rfl)) pgs_nil))))))
    (pss_one (ps_if (pt_cmpR op_lt (pv 5) pe_int (nomark _))
    (pss_cons (ps_set (i := 9) sc_law_rules.nd rfl (Or.inl rfl) (pe_ifExp (pt_cmpR op_eq (pe_call G_law_next (hr.mono (by decide)) (by rfl) m_law_next k_law_next b_law_next .nil pass0 (pa_cons (pv 0) (pa_cons pe_int pa_nil))) pe_int (nomark _)) (pe_lst (pa_cons (pe_tup (pa_cons (pv 7) (pa_cons (pv 7) pa_nil))) pa_nil)) (pe_lst (pa_cons (pe_tup (pa_cons (pv 7) (pa_cons (pv 8) pa_nil))) pa_nil))))
    (pss_cons (ps_if (PW.pt (pw_and (pt_cmpR op_eq (pe_call G_law_next (hr.mono (by decide)) (by rfl) m_law_next k_law_next b_law_next .nil pass0 (pa_cons (pv 0) (pa_cons pe_int pa_nil))) pe_int (nomark _)) (pw_and1 (pt_cmpR (op_notInD hu65) (pe_tup (pa_cons (pv 6) (pa_cons (pv 6) pa_nil))) (pv 9) rfl))))
    (pss_one (ps_expr (pe_bm PySem.F.plainAttrs_list PySem.F.slot_list_append PySem.F.type_list_append mt_append (pv 9) (pa_cons (pe_tup (pa_cons (pv 6) (pa_cons (pv 6) pa_nil))) pa_nil)))) pss_nil)
    (pss_one (ps_expr (pe_bm PySem.F.plainAttrs_list PySem.F.slot_list_append PySem.F.type_list_append mt_append (pv 3) (pa_cons (pe_tup (pa_cons (pe_ifExp (pt_cmpR op_lt (pv 5) pe_int (nomark _)) pe_str pe_str) (pa_cons (pv 6) (pa_cons (pe_callTy call_tuple_of (by rfl) T.b_tuple (by decide +kernel) (pa_cons (pe_callB (call_sort (enc := pD) flat_pair rfl hr0) (by rfl) T.b_sorted (by decide +kernel) (pa_cons (pv 9) pa_nil)) pa_nil)) pa_nil)))) pa_nil)))))) (pss_one (ps_if (pt_cmpR op_eq (pv 5) pe_int (nomark _))
    (pss_one (ps_expr (pe_bm PySem.F.plainAttrs_list PySem.F.slot_list_append PySem.F.type_list_append mt_append (pv 3) (pa_cons (pe_tup (pa_cons pe_str (pa_cons (pv 6) (pa_cons (pv 7) pa_nil)))) pa_nil)))) (pss_one (ps_if (pt_cmpR op_eq (pv 5) pe_int (nomark _))
    (pss_one (ps_expr (pe_bm PySem.F.plainAttrs_list PySem.F.slot_list_append PySem.F.type_list_append mt_append (pv 3) (pa_cons (pe_tup (pa_cons pe_str (pa_cons (pv 6) (pa_cons (pv 7) (pa_cons (pv 8) pa_nil))))) pa_nil)))) (pss_one (ps_if (pt_cmpR op_notIn_seq pe_str (pe_lc (own := [("_law_rule", 10)]) rfl sc_law_rules.nd (pi_list (pv 3)) (blkOk_by (own := [("_law_rule", 10)]) (N := ["_law_draw_here", "_law_most", "_law_words", "_law_found", "_law_turn", "_law_kind", "_law_one", "_law_two", "_law_three", "_law_pairs", "_law_rule"]) (sc := defScope s_law_rules) (by decide +kernel)) (fun _ _ _ _ _ => (pg_name (i := 10) sc_law_rules.nd rfl (Or.inl rfl))) (fun _ _ _ _ _ => pts_nil) (fun _ _ _ _ _ => (pe_ix (show IxR _ (rIxT K) from ix_tup) (pv 10) pe_int (fun _ _ => rfl)))) rfl)
    (pss_one (ps_expr (pe_bm PySem.F.plainAttrs_list PySem.F.slot_list_append PySem.F.type_list_append mt_append (pv 3) (pa_cons (pe_tup (pa_cons pe_str (pa_cons (pe_callTy call_tuple_of (by rfl) T.b_tuple (by decide +kernel) (pa_cons (pe_sortSet txt_ok br_txt rfl hr0 (pe_lst (pa_cons (pv 6) (pa_cons (pv 7) pa_nil))) (by rfl) T.b_set (by rfl) T.b_sorted) pa_nil)) pa_nil))) pa_nil)))) pss_nil))))))))))
    (pss_one (ps_ret (pv 3))))), ?_⟩
    have nl : ∀ (zs ys : List V), HO.lst zs ≠ HO.tup ys := fun _ _ z => nomatch z
    have call : ∀ {σ' : L2.St} {G' : Hp} {nn : Nat} {tb' : TE} {E' : XK} (b : Nat), σ'[0]? = some (some (.ref d)) → Same G G' → 0 < b → nn + 1 ≤ 1000000 → EvP tb' σ' G' (IsV (.int (b : Nat))) → EvD d sc (tCall (sp_law_next K) [] E' (tCons (tVar 0) (tCons tb' tNil))) σ' G' nn 1 (RgV b) := fun b hσ s' hb hnn hbv =>
      evD_call (K := K) (ns := ns) (c := fun _ => 1) b hσ (Dp.up s' _ _ hsc) (ea1 hbv fun u G' _ e => ⟨by rw [show u = _ from e], hb⟩) hnn
    have pick : ∀ {σ' : L2.St} {G' : Hp} {nn : Nat} {tb' : TE} {E' : XK} (l : List Str), σ'[0]? = some (some (.ref d)) → Same G G' → l ≠ [] → nn + 1 ≤ 1000000 → EvP tb' σ' G' (DD K (.list (l.map sD))) → EvD d sc (tCall (sp_law_pick K) [] E' (tCons (tVar 0) (tCons tb' tNil))) σ' G' nn 1 (fun v _ => ∃ z, z ∈ l ∧ v = .str z) := fun l hσ s' hl hnn hbv =>
      evD_call (K := K) (ns := ns) (c := fun _ => 1) l hσ (Dp.up s' _ _ hsc) (ea1 hbv fun u G' _ e => ⟨u, rfl, e, hl⟩) hnn
    refine seq_parM (P := DD K (.list (allW.map sD))) (R := fun o G' => ∃ xs, o = .lst xs ∧ DpAll K G' xs []) (ev_lst (ead_cons (str_dd (ev_c rfl)) (ead_cons (str_dd (ev_c rfl)) (ead_cons (str_dd (ev_c rfl)) (ead_cons (str_dd (ev_c rfl)) ead_nil)))) (by decide)) mon_dd (fun G' _ => em_lst (K := K) ead_nil (by decide)) sm fun v2 l o G1 H1 g1 hw hl0 hgl e1 ⟨ys0, eo, hy0⟩ => ?_
    subst eo
    have hd1 := g1.hh _ _ hd
    have g1d := GD.of g1 hg hd nt_drw
    have hld : l ≠ d := fun z => by rw [z, hd] at hl0; cases hl0
    have hl1 : del H d l = none := by rw [del_ne hld]; exact hl0
    refine seq_forV ?_
    refine call 7 rfl g1d.gr.gg (by decide) (by omega) ((ev_int (g := fun i j => .int (i + j)) (ev_var (P := IsV (.int 6)) rfl rfl) (ev_c (v := .int 1) rfl)).imp fun v _ _ e => e) H1 g1.sub g1d.no hd1 _ fun v7 n4 G4 H4 g4 hd4 hn4 hv7 => ?_
    obtain ⟨m, hm, rfl⟩ := hv7
    obtain ⟨hgl4, e4⟩ := g4.none hld hgl e1 (nl _)
    have g04 := g1d.trans g4
    refine seq_for (src_range (n := m) (ev_c rfl) (by omega)) g4.gr.sub fun G5 H5 g5 => ⟨fun i σ' G' H' => GD d G H G' H' ∧ G' l = none ∧ (∃ (ys : List V) (rs : List Rule) (n' : Nat), H' l = some (.lst ys) ∧ DpAll K G' ys (rs.map ruleD) ∧ rs.length ≤ i ∧ (∀ r ∈ rs, r.Ok ∧ RW r) ∧ (∀ i r, rs[i]? = some r → r.kind = ("make" : Str) → ("make" : Str) ∉ (rs.take i).map Rule.kind) ∧ H' d = some (drw sc n') ∧ n' ≤ n + 1 + 6 * i) ∧
        ∃ a4 a5 a6 a7 a8 a9 a10, σ' = [some (.ref d), some (.int 6), some v2, some (.ref l), a4, a5, a6, a7, a8, a9, a10], ⟨g04.trans (GD.of g5 g4.no hd4 nt_drw), g5.old _ _ hgl4 e4 (nl _), ⟨ys0, [], n4, g5.hh _ _ e4, DpAll.up (g4.gr.gg.trans g5.gg) _ _ hy0, Nat.zero_le _, (fun r hr => by cases hr), (fun i r hr => by simp at hr), g5.hh _ _ hd4, by omega⟩, _, _, _, _, _, _, _, rfl⟩, ?_, ?_⟩
    · rintro i j σ' G' H' hj s1 s2 ⟨gp, hgl', ⟨ys, rs, n', hl', hy, hlen', hok, hone, hd', hn'⟩, a4, a5, a6, a7, a8, a9, a10, rfl⟩ x G6 H6 g6 ix
      have him : i < m := by
        have := (List.getElem?_eq_some_iff.mp hj).1
        rwa [List.length_range] at this
      have gd6 := GD.of g6 gp.no hd' nt_drw
      have hd6 := g6.hh _ _ hd'
      have hl6 := g6.hh _ _ hl'
      have hgl6 := g6.old _ _ hgl' hl' (nl _)
      have g06 := gp.trans gd6
      have hw6 := Dp.up ((g4.gr.gg.trans g5.gg).trans (s1.trans g6.gg)) _ _ hw
      refine call (nn := n') 10 rfl g06.gr.gg (by decide) (by omega) (ev_c rfl) H6 g6.sub gd6.no hd6 _ fun wk n7 G7 H7 g7 hd7 hn7 hkd => ?_
      obtain ⟨kd, hkd, rfl⟩ := hkd
      have g07 := g06.trans g7
      refine pick (nn := n7) allW rfl g07.gr.gg (by decide) (by omega) (ev_var rfl (Dp.up g7.gr.gg _ _ hw6)) H7 g7.gr.sub g7.no hd7 _ fun w1 n8 G8 H8 g8 hd8 hn8 hw1 => ?_
      obtain ⟨z1, hz1, rfl⟩ := hw1
      have g08 := g07.trans g8
      refine pick (nn := n8) allW rfl g08.gr.gg (by decide) (by omega) (ev_var rfl (Dp.up (g7.gr.gg.trans g8.gr.gg) _ _ hw6)) H8 g8.gr.sub g8.no hd8 _ fun w2 n9 G9 H9 g9 hd9 hn9 hw2 => ?_
      obtain ⟨z2, hz2, rfl⟩ := hw2
      have g09 := g08.trans g9
      refine pick (nn := n9) allW rfl g09.gr.gg (by decide) (by omega) (ev_var rfl (Dp.up ((g7.gr.gg.trans g8.gr.gg).trans g9.gr.gg) _ _ hw6)) H9 g9.gr.sub g9.no hd9 _ fun w3 nA GA HA gA hdA hnA hw3 => ?_
      obtain ⟨z3, hz3, rfl⟩ := hw3
      have g0A := g09.trans gA
      refine ⟨by show 4 ≤ sizeLine; decide, fun t ht => ?_⟩
      refine ⟨t, _, rfl, SqT.of upd_same, rfl, _, _, rfl, _, _, rfl, _, _, rfl, _, _, rfl, rfl, ?_⟩
      obtain ⟨k7, m7⟩ := g7.none hld hgl6 hl6 (nl _)
      obtain ⟨k8, m8⟩ := g8.none hld k7 m7 (nl _)
      obtain ⟨k9, m9⟩ := g9.none hld k8 m8 (nl _)
      obtain ⟨kA, mA⟩ := gA.none hld k9 m9 (nl _)
      have htl : t ≠ l := fun z => by rw [z, mA] at ht; cases ht
      have htd : t ≠ d := fun z => by rw [z, hdA] at ht; cases ht
      have gn := Gr.new (o := .tup [.int (kd : Nat), .str z1, .str z2, .str z3]) gA.gr.sub ht
      have gnd := GD.of gn gA.no hdA nt_drw
      have g0B := g0A.trans gnd
      obtain ⟨kB, mB⟩ := gnd.none hld kA mA (nl _)
      have hdB := gn.hh _ _ hdA
      have s6B : Same G6 (upd GA t (.tup [.int (kd : Nat), .str z1, .str z2, .str z3])) := (((g7.gr.gg.trans g8.gr.gg).trans g9.gr.gg).trans gA.gr.gg).trans gn.gg
      have s5B := (s1.trans g6.gg).trans s6B
      have hyB := DpAll.up (g6.gg.trans s6B) _ _ hy
      have hnB : nA ≤ n' + 4 := by omega
      generalize upd GA t (.tup [.int (kd : Nat), .str z1, .str z2, .str z3]) = GB at gn gnd g0B kB s6B s5B hyB
      generalize upd HA t (.tup [.int (kd : Nat), .str z1, .str z2, .str z3]) = HB at gn gnd g0B mB hdB
      have sBB := gn.sub
      have hlz : ys.length < sizeLine := by
        have := DpAll.len hy
        rw [List.length_map] at this
        rw [sizeLine_eq]
        omega
      have app : ∀ {σ9 : L2.St} {G9 H9 : Hp} {te : TE} {D0 : Ends} (nn : Nat), D0.nx = (fun σ'' H'' => ∃ G'', Same G5 G'' ∧ Same G'' H'' ∧ GD d G H G'' H'' ∧ G'' l = none ∧ (∃ (ys : List V) (rs : List Rule) (n' : Nat), H'' l = some (.lst ys) ∧ DpAll K G'' ys (rs.map ruleD) ∧ rs.length ≤ i + 1 ∧ (∀ r ∈ rs, r.Ok ∧ RW r) ∧ (∀ i r, rs[i]? = some r → r.kind = ("make" : Str) → ("make" : Str) ∉ (rs.take i).map Rule.kind) ∧ H'' d = some (drw sc n') ∧ n' ≤ n + 1 + 6 * (i + 1)) ∧
            ∃ a4 a5 a6 a7 a8 a9 a10, σ'' = [some (.ref d), some (.int 6), some v2, some (.ref l), a4, a5, a6, a7, a8, a9, a10]) →
          GD d GB HB G9 H9 → H9 d = some (drw sc nn) → nn ≤ nA + 2 → (∃ a4 a5 a6 a7 a8 a9 a10, σ9 = [some (.ref d), some (.int 6), some v2, some (.ref l), a4, a5, a6, a7, a8, a9, a10]) → EvP te σ9 G9 (fun v G' => ∃ r, r.Ok ∧ RW r ∧ (r.kind = ("make" : Str) → ("make" : Str) ∉ rs.map Rule.kind) ∧ Dp K G' v (ruleD r)) →
          tDrop (tBM K "list" rAppend (tVar 3) (tCons te tNil)) D0 σ9 H9 := fun {σ9 G9 H9 te D0} nn hD g9' hd9' hnn hσ he => by
        obtain ⟨k9', m9'⟩ := g9'.none hld kB mB (nl _)
        obtain ⟨b4, b5, b6, b7, b8, b9, b10, rfl⟩ := hσ
        refine ⟨.ref l, rfl, .inl ⟨rfl, _, SqL.of m9'⟩, he H9 g9'.gr.sub _ fun v GC HC gC hv => ⟨l, ys, v, rfl, rfl, gC.hh _ _ m9', hlz, ?_⟩⟩
        obtain ⟨r, hro, hrw, hmk, hv⟩ := hv
        rw [hD]
        have kC := gC.old _ _ k9' m9' (nl _)
        have gCd := (g0B.trans g9').trans (GD.of gC g9'.no hd9' nt_drw)
        refine ⟨GC, (s5B.trans g9'.gr.gg).trans gC.gg, fun b u e => by rw [upd_ne (ne_of_none e kC)]; exact gC.sub _ _ e, ⟨gCd.gr.mut hl1 kC, gCd.no⟩, kC, ⟨ys ++ [v], rs ++ [r], nn, upd_same, ?_, ?_, ?_, one_snoc hone hmk, ?_, by omega⟩, _, _, _, _, _, _, _, rfl⟩
        · rw [List.map_append]
          exact DpAll.snoc (DpAll.up (g9'.gr.gg.trans gC.gg) _ _ hyB) hv
        · rw [List.length_append, List.length_singleton]; omega
        · intro r' hr'
          rcases List.mem_append.mp hr' with h | h
          · exact hok r' h
          · rw [List.mem_singleton.mp h]; exact ⟨hro, hrw⟩
        · rw [upd_ne (Ne.symm hld)]
          exact gC.hh _ _ hd9'
      have one : ∀ {te : TE} {σ9 : L2.St} {G9 : Hp} (r : Rule), r.Ok → RW r → r.kind ≠ ("make" : Str) → EvP te σ9 G9 (DD K (ruleD r)) → EvP te σ9 G9 (fun v G' => ∃ r, r.Ok ∧ RW r ∧ (r.kind = ("make" : Str) → ("make" : Str) ∉ rs.map Rule.kind) ∧ Dp K G' v (ruleD r)) := fun r h1 h2 h3 h => h.imp fun v _ _ e => ⟨r, h1, h2, fun z => absurd z h3, e⟩
      have iw1 := isW_all _ hz1
      have iw2 := isW_all _ hz2
      have iw3 := isW_all _ hz3
      refine run_if (b := decide ((kd : Int) < 6)) (eb_test (ev_int (g := fun i j => .bl (decide (i < j))) (i := (kd : Nat)) (j := 6) (ev_var rfl rfl) (ev_c rfl))) sBB (fun hb GC HC gC => ?_) (fun hb GC HC gC => ?_)
      · have gCd := GD.of gC gnd.no hdB nt_drw
        have hdC := gC.hh _ _ hdB
        have mk1 : ∀ {σ' : L2.St} {G' : Hp} {t1 t2 : TE} (a b : Str), b ∈ allW → a = z2 → EvP t1 σ' G' (DD K (.str a)) → EvP t2 σ' G' (DD K (.str b)) → EvM (tLst (tCons (tTup (tCons t1 (tCons t2 tNil))) tNil)) σ' G' (fun o G' => ∃ z, z ∈ allW ∧ ∃ xs, o = .lst xs ∧ DpAll K G' xs ([(z2, z)].map pD)) := fun a b hb ea h1 h2 =>
          (em_lst (ead_cons (ev_tup (ead_cons h1 (ead_cons h2 ead_nil)) (by show 2 ≤ 1000; decide)) ead_nil) (by show 1 ≤ 1000; decide)).imp fun o G' _ ⟨xs, e, h⟩ => ⟨b, hb, xs, e, by subst ea; exact h⟩
        refine seq_raw (emd_if (R := fun o G' => ∃ z, z ∈ allW ∧ ∃ xs, o = .lst xs ∧ DpAll K G' xs ([(z2, z)].map pD)) (call (nn := nA) 2 rfl (g0B.trans gCd).gr.gg (by decide) (by omega) (ev_c rfl)) (fun G' s' => mk1 z2 z2 hz2 rfl (str_dd (ev_var rfl rfl)) (str_dd (ev_var rfl rfl))) (fun G' s' => mk1 z2 z3 hz3 rfl (str_dd (ev_var rfl rfl)) (str_dd (ev_var rfl rfl))) gC.sub gCd.no hdC fun p o nC GI HI gI hpd hp1 hpg ep hdI hnI hR => ?_)
        obtain ⟨zx, hzx, xs, rfl, hxs⟩ := hR
        have g0I := (g0B.trans gCd).trans gI
        have hpB : del HB d p = none := by
          rw [del_ne hpd] at hp1 ⊢
          exact gC.hh.free hp1
        have hpl : p ≠ l := fun z => by rw [z, del_ne hld] at hpB; rw [mB] at hpB; cases hpB
        have w1p : ∀ q ∈ [(z2, zx)], q.1 ∈ allW ∧ q.2 ∈ allW := fun q hq => by rw [List.mem_singleton.mp hq]; exact ⟨hz2, hzx⟩
        refine seq_and0 (call (nn := nC) 3 rfl g0I.gr.gg (by decide) (by omega) (ev_c rfl)) gI.gr.sub gI.no hdI fun nD GJ HJ gJ hdJ hnJ => ?_
        obtain ⟨kJ, mJ⟩ := gJ.none hpd hpg ep (nl _)
        have gBJ := (gCd.trans gI).trans gJ
        have hxJ := DpAll.up gJ.gr.gg _ _ hxs
        refine ⟨?_, ?_⟩
        · have dpJ : Dp K (upd GJ p (.lst xs)) (.ref p) (.list ([(z2, zx)].map pD)) := .lst upd_same (DpAll.up (same_new kJ) _ _ hxJ)
          have cdd : SeqAt.shaped (pD (z1, z1)) = true := (cm_pD (x := (z1, z1)) (okT_isW iw1) (okT_isW iw1)).ok (by decide)
          have cds : SeqAt.shaped (.list ([(z2, zx)].map pD)) = true := (Cm.list (n := 1) fun e he => by
            obtain ⟨y, hy, e2⟩ := List.mem_map.mp he
            rw [List.mem_singleton.mp hy] at e2
            rw [← e2]
            exact cm_pD (okT_isW iw2) (okT_isW (isW_all _ hzx))).ok (by decide)
          have ei := ev_niD (K := K) (ev_tup (ds := [.str z1, .str z1]) (ead_cons (str_dd (ev_var (σ := [some (.ref d), some (.int 6), some v2, some (.ref l), some x, some (.int (kd : Nat)), some (.str z1), some (.str z2), some (.str z3), some (.ref p), a10]) (i := 6) (P := IsV (.str z1)) rfl rfl)) (ead_cons (str_dd (ev_var (i := 6) (P := IsV (.str z1)) rfl rfl)) ead_nil)) (by show 2 ≤ 1000; decide)) (ev_var (i := 9) rfl dpJ) cdd cds
          rw [show PyData.tuple [.str z1, .str z1] = pD (z1, z1) from rfl, any_pD] at ei
          refine (eb_test ei) HJ (lend gJ.gr.sub mJ) _ fun GL HL gL => ?_
          have gb := gL.back kJ
          have mL := gb.hh _ _ mJ
          have kL := gb.old _ _ kJ mJ (nl _)
          have hdL := gb.hh _ _ hdJ
          have gBL := gBJ.trans (GD.of gb gBJ.no hdJ nt_drw)
          have hxL := DpAll.up gb.gg _ _ hxJ
          by_cases hin : (z1, z1) ∈ [(z2, zx)]
          · rw [decide_eq_true hin]
            refine app nD rfl (gBL.keep' hpB kL mL hpd) hdL (by omega) ⟨_, _, _, _, _, _, _, rfl⟩ ?_
            exact ev_fh rfl rfl rfl hz1 (.lst upd_same (DpAll.up (same_new kL) _ _ hxL)) (by simp) (by simp) (by simp) w1p
          · rw [decide_eq_false hin]
            have e2 : EvP (tTup (tCons (tVar 6) (tCons (tVar 6) tNil))) [some (.ref d), some (.int 6), some v2, some (.ref l), some x, some (.int (kd : Nat)), some (.str z1), some (.str z2), some (.str z3), some (.ref p), a10] (del GL p) (DD K (pD (z1, z1))) :=
              ev_tup (ead_cons (str_dd (ev_var rfl rfl)) (ead_cons (str_dd (ev_var rfl rfl)) ead_nil)) (by show 2 ≤ 1000; decide)
            refine ⟨.ref p, rfl, .inl ⟨rfl, _, SqL.of mL⟩, e2 HL gb.sub _ fun v GM HM gM hv => ⟨p, xs, v, rfl, rfl, gM.hh _ _ mL, ?_, ?_⟩⟩
            · rw [DpAll.len hxL, sizeLine_eq]
              show 1 < _
              decide
            · have kM := gM.old _ _ kL mL (nl _)
              have gBM := gBL.trans (GD.of gM gBL.no hdL nt_drw)
              have gBN : GD d GB HB GM (upd HM p (.lst (xs ++ [v]))) := ⟨gBM.gr.mut hpB kM, gBM.no⟩
              refine app nD rfl (gBN.keep' hpB kM upd_same hpd) (by rw [upd_ne (Ne.symm hpd)]; exact gM.hh _ _ hdL) (by omega) ⟨_, _, _, _, _, _, _, rfl⟩ ?_
              refine ev_fh (ps := [(z2, zx)] ++ [(z1, z1)]) rfl rfl rfl hz1 (.lst upd_same ?_) ?_ (by simp) (by simp) ?_
              · rw [List.map_append]
                exact DpAll.up (same_new kM) _ _ (DpAll.snoc (DpAll.up gM.gg _ _ hxL) hv)
              · refine List.nodup_append.mpr ⟨by simp, by simp, fun a ha b hb e => ?_⟩
                rw [List.mem_singleton.mp hb] at e
                rw [e] at ha
                exact hin ha
              · intro q hq
                rcases List.mem_append.mp hq with h | h
                · exact w1p q h
                · rw [List.mem_singleton.mp h]; exact ⟨hz1, hz1⟩
        · refine app nD rfl (gBJ.keep' hpB kJ mJ hpd) hdJ (by omega) ⟨_, _, _, _, _, _, _, rfl⟩ ?_
          exact ev_fh rfl rfl rfl hz1 (.lst upd_same (DpAll.up (same_new kJ) _ _ hxJ)) (by simp) (by simp) (by simp) w1p
      · have gCd := GD.of gC gnd.no hdB nt_drw
        have hdC := gC.hh _ _ hdB
        refine run_if (b := decide ((kd : Int) = 6)) (eb_test (ev_eqI (ev_var rfl rfl) (ev_c rfl))) gC.sub (fun hb GE HE gE => ?_) (fun hb GE HE gE => ?_)
        · refine app nA rfl (gCd.trans (GD.of gE gCd.no hdC nt_drw)) (gE.hh _ _ hdC) (by omega) ⟨_, _, _, _, _, _, _, rfl⟩ (one (.rais z1 z2) ⟨iw1, iw2⟩ ⟨hz1, hz2⟩ (fun z => absurd (show ("raise" : Str) = "make" from z) (by decide)) ?_)
          exact ev_tup (ead_cons (str_dd (ev_c rfl)) (ead_cons (str_dd (ev_var rfl rfl)) (ead_cons (str_dd (ev_var rfl rfl)) ead_nil))) (by show 3 ≤ 1000; decide)
        · have gEd := gCd.trans (GD.of gE gCd.no hdC nt_drw)
          have hdE := gE.hh _ _ hdC
          refine run_if (b := decide ((kd : Int) = 7)) (eb_test (ev_eqI (ev_var rfl rfl) (ev_c rfl))) gE.sub (fun hb GF HF gF => ?_) (fun hb GF HF gF => ?_)
          · refine app nA rfl (gEd.trans (GD.of gF gEd.no hdE nt_drw)) (gF.hh _ _ hdE) (by omega) ⟨_, _, _, _, _, _, _, rfl⟩ (one (.meet z1 z2 z3) ⟨iw1, iw2, iw3⟩ ⟨hz1, hz2, hz3⟩ (fun z => absurd (show ("meet" : Str) = "make" from z) (by decide)) ?_)
            exact ev_tup (ead_cons (str_dd (ev_c rfl)) (ead_cons (str_dd (ev_var rfl rfl)) (ead_cons (str_dd (ev_var rfl rfl)) (ead_cons (str_dd (ev_var rfl rfl)) ead_nil)))) (by show 4 ≤ 1000; decide)
          · have gFd := gEd.trans (GD.of gF gEd.no hdE nt_drw)
            have hdF := gF.hh _ _ hdE
            obtain ⟨kF, mF⟩ := gFd.none hld kB mB (nl _)
            have lr : rs.length ≤ 6 := by omega
            have hlF : Dp K (upd GF l (.lst ys)) (.ref l) (.list (rs.map ruleD)) := .lst upd_same (DpAll.up (gFd.gr.gg.trans (same_new kF)) _ _ hyB)
            refine run_if (G := upd GF l (.lst ys)) (b := !decide (("make" : Str) ∈ rs.map Rule.kind)) (eb_test (ev_niS (ev_c rfl) (by
              rw [List.map_map]
              exact ev_lc1 (bs := rs) (fun r => .str r.kind) (src_list (enc := ruleD) (ev_var rfl hlF)) (sz64 (by omega)) fun b hb v G' s i => ⟨_, tgt_name, rfl, str_dd (ev_kind (ev_var rfl i))⟩))) (lend gF.sub mF) (fun hb GI HI gI => ?_) (fun hb GI HI gI => ?_)
            · have hb : ("make" : Str) ∉ rs.map Rule.kind := by simpa using hb
              have gb := gI.back kF
              refine app nA rfl (gFd.trans (GD.of gb gFd.no hdF nt_drw)) (gb.hh _ _ hdF) (by omega) ⟨_, _, _, _, _, _, _, rfl⟩ ?_
              refine EvP.imp (ev_tup2 (P1 := DD K (.str "make")) (P2 := fun v G' => ∃ ws : List Str, (ws.Nodup ∧ (∀ b, b ∈ ws ↔ b ∈ [z1, z2]) ∧ Up sD ws) ∧ Dp K G' v (.tuple (ws.map sD))) mon_dd (fun v _ _ s ⟨ws, h1, h2⟩ => ⟨ws, h1, Dp.up s _ _ h2⟩) (str_dd (ev_c rfl))
                (ev_tupOfLE (D := fun ws : List Str => ws.map sD) (ev_sortSetS (zs := [z1, z2]) (ev_lst (ead_cons (str_dd (ev_var rfl rfl)) (ead_cons (str_dd (ev_var rfl rfl)) ead_nil)) (by show 2 ≤ 1000; decide)) (by show 2 < 64; decide)))) fun v G' _ hv => ?_
              obtain ⟨a, b, p, y1, ⟨ws, ⟨h1, h2, h3⟩, h4⟩, rfl, e⟩ := hv
              have hall : ∀ x ∈ ws, x ∈ allW := fun x hx => by
                have := (h2 x).mp hx
                simp only [List.mem_cons, List.mem_nil_iff, or_false] at this
                rcases this with rfl | rfl
                · exact hz1
                · exact hz2
              have hle := nodup_len (m := [z1, z2]) h1 fun x hx => (h2 x).mp hx
              have hle : ws.length ≤ 2 := hle
              refine ⟨.make ws, ⟨h1, List.length_pos_of_mem ((h2 z1).mpr (List.mem_cons_self ..)), by omega, fun x hx => isW_all _ (hall x hx), h3⟩, hall, fun _ => hb, .tup e (.cons y1 (.cons h4 .nil))⟩
            · have gb := gI.back kF
              have gIk := gb.old _ _ kF mF (nl _)
              refine ⟨del GI l, (s5B.trans gFd.gr.gg).trans gb.gg, gb.sub, (g0B.trans gFd).trans (GD.of gb gFd.no hdF nt_drw), gIk, ⟨ys, rs, nA, gb.hh _ _ mF, DpAll.up (gFd.gr.gg.trans gb.gg) _ _ hyB, by omega, hok, hone, gb.hh _ _ hdF, by omega⟩, _, _, _, _, _, _, _, rfl⟩
    · rintro σ' G' H' s1 s2 ⟨gp, hgl', ⟨ys, rs, n', hl', hy, hlen', hok, hone, hd', hn'⟩, a4, a5, a6, a7, a8, a9, a10, rfl⟩
      rw [List.length_range] at hlen' hn'
      refine ⟨_, rfl, q (.ref l) n' (upd G' l (.lst ys)) H' ⟨gp.gr.keepIt hl1 hgl' hl', by rw [upd_ne (Ne.symm hld)]; exact gp.no⟩ hd' (by show n' ≤ n + 100; omega) ⟨rs, .lst upd_same (DpAll.up (same_new hgl') _ _ hy), by omega, hok, hone⟩⟩
end
end Hk

set_option Elab.async false
set_option linter.all false
set_option maxRecDepth 100000
set_option maxHeartbeats 1000000
/-! enumerate over an own instance whose __iter__ gives a tuple's iterator. -/
namespace Hk
open PySem PySem.Spec PyProof.Rows L2
/-- the tuple at t, each item in a new pair -/
def IteT (K : PySem.W.Frag) (t : Addr) : It :=
  ⟨fun i H => ∃ (xs : List V) (x : V), SqT K H t xs ∧ xs[i]? = some x, fun i H v H' => ∃ T x, v = .ref T ∧ H T = none ∧ H' = upd H T (.tup [.int (i : Nat), x]) ∧ ∀ xs, SqT K H t xs → xs[i]? = some x, fun i H => ∃ xs : List V, SqT K H t xs ∧ xs.length = i⟩
/-- a pair (a number, a thing) is laid at the heap's end while the things of ch turn -/
theorem pair_new {X : Cx} {pins : List (Addr × Obj)} {σ : L2.St} {H : Hp} {s : Shared} {h' : Heap} {tk n : Nat} {t : Tok} {u : Value} {x : V} {ch : List Addr} (I : Inv X pins σ H s) (fp : ∀ b ∈ ch, FpOk X pins H b) (k : ∀ b o, b ∉ ch → s.heap.get? b = some o → h'.get? b = some o)
    (e : h'.get? s.heap.objs.size = some { cls := .type "tuple", data := .seq #[.int n t, u] }) (r : RelV x u) : Inv X pins σ (upd H s.heap.objs.size (.tup [.int n, x])) { s with heap := h', toks := tk } :=
  I.turnedNew k fp (Nat.le_refl _) (show ObjOk X.prog X.w _ _ _ (.tup _) from ⟨by rw [sizeLine_eq]; exact Nat.le_of_ble_eq_true rfl, [.int n t, u], .cons ⟨t, rfl⟩ (.cons r .nil), _, e, rfl, _, rfl⟩)
theorem turn_enumT {P : Program} {w : World} {K : PySem.W.Frag} {elts : List Expr} {kk : Nat} {tpos : Pos} (a e it : Addr) (hta : a ≠ it) (hea : e ≠ a) :
    Turn P w K (.Tuple elts kk tpos) (IteT K a) [e, it] e (fun i h => (∃ old, IsEnum h e it ((i : Nat) : Int) old) ∧ h.IsTupleIter it a i ∧ e ≠ it) where
  mem := .head _
  obj := fun _ _ ⟨⟨_, he⟩, ⟨o, ho, _, hd⟩, _⟩ => List.forall_mem_cons.mpr ⟨⟨_, he, fun _ q => nomatch q⟩, List.forall_mem_singleton.mpr ⟨o, ho, fun _ q => nomatch hd.symm.trans q⟩⟩
  keep := fun _ _ _ ⟨⟨old, he⟩, hi, ne⟩ k => ⟨⟨old, k e (.head _) _ he⟩, hi.at (k it (.tail _ (.head _))), ne⟩
  item := fun X hP hw hK calm i pins s σ H E I fp ⟨⟨old, he⟩, hi, ne⟩ ⟨xs, x, seq, at_i⟩ => by
    cases hP; cases hw; cases hK
    obtain ⟨its, vals, tup, -⟩ := I.tuple seq
    obtain ⟨u, eu, r⟩ := vals.get at_i
    have lt := (List.getElem?_eq_some_iff.mp eu).1
    have lte := Heap.lt_size he
    refine wpAny_pyNext_enum_itemD (Draws.tuple (A := X.A.in1) (I.ok.hd calm) it a hta its.toArray) he ⟨hi, tup⟩ (by rw [List.size_toArray]; exact lt) ne (by simp [ne, hea]) fun y h1 tk hy obj ⟨hi1, _⟩ new _ old1 => ⟨_, rfl, wpAny_letOwnedTupleGo_enum (s := { s with heap := h1, toks := tk + 1 }) obj fun h2 he2 sb => ?_⟩
    cases (List.getElem?_toArray.symm.trans hy).symm.trans eu
    have other : ∀ b o, b ≠ e → h1.get? b = some o → h2.get? b = some o := fun b o q z => (sb.2 b q).trans z
    have at_e : (i : Int) + 1 = ((i + 1 : Nat) : Int) := rfl
    refine ⟨.ref s.heap.objs.size, _, pair_new (s := s) (n := i) I fp (fun b o q z => ?_) (other _ _ (Nat.ne_of_gt lte) new) r, rfl, ⟨_, x, rfl, I.hok.fresh (Nat.le_refl _), rfl, fun ys hy => I.tuple_inj hy seq ▸ at_i⟩, ⟨⟨_, at_e ▸ he2⟩, hi1.at fun o => other it o (Ne.symm ne), ne⟩, fun b m => ?_⟩
    · simp only [List.mem_cons, List.not_mem_nil, or_false, not_or] at q
      exact other b o q.1 (old1 b o q.1 q.2 z)
    · have here : ∃ o, s.heap.get? b = some o := (List.mem_cons.mp m).elim (fun z => ⟨_, z ▸ he⟩) fun z => let ⟨o, ho, _⟩ := hi; ⟨o, List.mem_singleton.mp z ▸ ho⟩
      exact (upd_ne (Nat.ne_of_lt (here.elim fun _ => Heap.lt_size))).trans (fp b m).1
  done := fun X hP hw hK calm i pins s σ H E I fp ⟨⟨old, he⟩, hi, ne⟩ ⟨xs, seq, len⟩ => by
    cases hP; cases hw; cases hK
    obtain ⟨its, vals, tup, -⟩ := I.tuple seq
    have size : its.toArray.size = i := List.size_toArray.trans (vals.length.symm.trans len)
    have ⟨g0, g1, _, g3, g4, g5⟩ := fp it (.tail _ (.head _))
    exact wpAny_pyNext_enum_endD (Draws.tuple (A := X.A.in1) (I.ok.hd calm) it a hta its.toArray) he ⟨size ▸ hi, tup⟩ fun h1 k => ⟨rfl, I.turned (t' := s.toks) (fun b o => k b o) g0 g1 g3 g4 g5⟩
  self := fun _ _ _ _ _ ⟨⟨_, he⟩, _⟩ q => wpAny_pyIter_enum he q
end Hk

set_option Elab.async false
set_option linter.all false
set_option maxRecDepth 100000
set_option maxHeartbeats 1000000
/-! iter(tuple), Policy.__iter__. -/
namespace Hk
open PySem PySem.Spec PyProof.Rows L2
theorem sc_Policy___iter : FnScope ["self"] ["self"] (defScope s_Policy__iter__) := ⟨rfl, rfl, rfl, by decide +kernel, rfl, by decide +kernel, by decide +kernel⟩
def tupIt (t : Addr) (i : Nat) : Obj := { cls := .type "tuple_iterator", data := .fields #[.ref t, .int i 0] }
theorem call_iterT {prog : Program} {w : World} {A : Around} {E : Value → Shared → Prop} {s : Shared} {t : Addr} {items : Array Value} {Q : Value → Shared → Prop} (hl : s.heap.IsTuple t items) (h : Q (.ref s.heap.objs.size) { s with heap := s.heap.push (tupIt t 0) }) : wpAny (model prog w) A (call (.builtin "iter") [.ref t]) Q E s := by
  refine Calls.call_function_entry (by decide +kernel) (by decide +kernel) PySem.W.kdk_entry_iter (PySem.W.kdk_args_iter _) ?_
  unfold Builtin.«iter»
  refine wpAny_bind (m := someArgs "iter" 1 2 _) (wpAny_of_eq (a := [Value.ref t]) (by first | rfl | kernel_rfl!) ?_)
  show wpAny _ _ (pyIter (.ref t) >>= _) _ _ _
  refine wpAny_bind (wpAny_pyIter_tuple hl ?_)
  exact wpAny_pure ⟨_, rfl, h⟩
def ItTo (t it : Addr) (i : Nat) : HO := .ext fun h => h.get? it = some (tupIt t i)
theorem itTo_ok {P : Program} {w : World} {H : Hp} {h : Heap} {t it : Addr} {i : Nat} (e : h.get? it = some (tupIt t i)) : ObjOk P w H h it (ItTo t it i) := ⟨e, ⟨_, e⟩, fun h1 h2 q k => k _ q⟩
def rIterT (K : PySem.W.Frag) : List V → Hp → VK → Prop := fun xs H Q => ∃ (t : Addr) (zs : List V), xs = [.ref t] ∧ SqT K H t zs ∧ ∀ it, H it = none → Q (.ref it) (upd H it (ItTo t it 0))
theorem call_iterTR {X : Cx} : CallR X (.builtin "iter") (rIterT X.K) := by
  intro pins s σ H xs us Q I r h
  obtain ⟨t, zs, rfl, hq, q⟩ := h
  obtain ⟨u, rfl, ru⟩ := r.one
  cases ru
  obtain ⟨its, rv, pl, hz⟩ := I.tuple hq
  refine call_iterT (show s.heap.IsTuple t its.toArray from pl) ?_
  exact ⟨.ref s.heap.objs.size, _, I.laid (t' := s.toks) (fun b u e => Heap.get?_push_of_some _ e) (Nat.le_refl _) (itTo_ok (Heap.get?_push_size _ rfl)), rfl, q _ (I.hok.fresh (Nat.le_refl _))⟩
def sp_Policyiter (K : PySem.W.Frag) (Po : Addr) : Sp := fun vs H Q _ => ∃ (a dx t : Addr) (xs : List V), vs = [.ref a] ∧ H a = some (.ins Po dx [(("rules" : Str), .ref t)]) ∧ SqT K H t xs ∧ ∀ it, H it = none → Q (.ref it) (upd H it (ItTo t it 0))
section
variable {P : Program} {w : World} {K : PySem.W.Frag} {mg : Str → Option Value} {base : Heap} {S Po : Addr} (T : Tx K mg S Po)
include T
theorem ok_Policyiter : MFn P w K mg base 1 Po "__iter__" ["self"] (sp_Policyiter K Po) := by
  refine mfn_mk (N := ["self"]) T.f_Policy__iter__ (fun F => F.bindsN fun _ _ _ _ _ _ us hl => match us, hl with | [_], _ => rfl) sc_Policy___iter (fun vs H Q E h => ?_) fun f cdv A outer s H vs Q E hr h => ?_
  · obtain ⟨a, dx, t, xs, rfl, _⟩ := h
    rfl
  · obtain ⟨a, dx, t, xs, rfl, ha, ht, q⟩ := h
    refine ⟨_, PSs.nox (pss_one (ps_ret (pe_callB call_iterTR (by rfl) T.b_iter (by decide +kernel) (pa_cons (pe_fld (pv 0) rfl) pa_nil)))), ?_⟩
    exact ⟨_, rfl, a, Po, dx, _, .ref t, rfl, ha, T.c_Policy, T.n_rules, rfl, t, xs, rfl, ht, q⟩
end
end Hk

set_option Elab.async false
set_option linter.all false
set_option maxRecDepth 100000
set_option maxHeartbeats 1000000
/-! enumerate over an own instance. -/
namespace PySem
open Sem (wp)
section
variable {prog : Program} {w : World} {A : Around} {E : Value → Shared → Prop} {s : Shared} {a : Addr}
def enumOf (it : Value) : Obj := { cls := .type "enumerate", data := .fields #[.none, .bool false, it, rawInt 0, .none, .none] }
theorem code_enum_new {Q₁ : Value → Shared → Prop} (hT : ∃ o c, s.heap.get? a = some o ∧ o.cls = c)
    (hI : wpAny (model prog w) A.in1 (pyIter (.ref a)) (fun it s1 => Q₁ (.ref s1.heap.objs.size) { s1 with heap := s1.heap.push (enumOf it) }) E s) :
    codeAny (model prog w) A (.call (.builtin "enumerate.__new__") ⟨[.type "enumerate", .ref a], []⟩) (wants Q₁ E) s := by
  refine codeAny_of_tree ?_
  show wpAny _ A.in1 (do checkBuiltinCall "enumerate.__new__" ⟨[.type "enumerate", .ref a], []⟩; again (.builtin "enumerate.__new__" ⟨[.type "enumerate", .ref a], []⟩)) _ _ s
  refine wpAny_bind (wpAny_of_eq (F.newCall_enumerate_1 _) (wpAny_pure ⟨plainId_quiet (by decide +kernel) _, codeAny_builtin F.entry_enumerate_new ?_⟩))
  rw [Around.under_plainId (by decide +kernel) _]
  have hsub := sub_enumerate
  have hI' : ∀ {Q : Value → Shared → Prop}, (∀ it s1, Q₁ (.ref s1.heap.objs.size) { s1 with heap := s1.heap.push (enumOf it) } → Q it s1) → wpAny (model prog w) A.in1 (pyIter (.ref a)) Q (fun e s' => wants Q₁ E (.error e) s') s := fun k => wpAny_mono hI (fun it s1 h => k it s1 h) fun _ _ z => z
  obtain ⟨⟨c0, dct, dt, sl⟩, c, hl, hc⟩ := hT
  wp_walk using AutoSeq1.wpAny_loadPart' hl
  refine wpAny_stack_any fun st => wpAny_pure ?_
  split
  · rename_i c' _ _ _ _ _
    cases (c' == Value.type "enumerate")
    · wp_walk using AutoSeq1.wpAny_loadPart' hl, hI'
      all_goals (intro it s1 h; wp_walk; exact h)
    · wp_walk using AutoSeq1.wpAny_loadPart' hl, hI'
      all_goals (intro it s1 h; wp_walk; exact h)
  · wp_walk using AutoSeq1.wpAny_loadPart' hl, hI'
    all_goals (intro it s1 h; wp_walk; exact h)
end
end PySem

set_option Elab.async false
set_option linter.all false
set_option maxRecDepth 100000
set_option maxHeartbeats 1000000
/-! A def whose promise speaks of the state at its call; Policy.__iter__ once more. -/
namespace Hk
open PySem PySem.Spec PyProof.Rows L2
/-- as FnOk, the promise knows the state -/
def FnS (P : Program) (w : World) (K : PySem.W.Frag) (mg : Str → Option Value) (base : Heap) (k : Nat) (f : Addr) (fd : FuncData) (ps : List Str) (sp : Shared → Sp) : Prop :=
  ∀ (A : Around) (fr : List Env) (s : Shared) (H : Hp) (args : Args) (us : List Value) (vs : List V) (Q : VK) (E : XK), Room k A → Env0 P w K mg base A fr s H → BindsTo s fd args (ps.zip us) → Vals vs us → vs.length = ps.length → sp s vs H Q E →
    codeAny (model P w) A (.call (.ref f) args) (CR CX0 fr P w H s Q E) s
theorem fns_of {P : Program} {w : World} {K : PySem.W.Frag} {mg : Str → Option Value} {base : Heap} {k : Nat} {f : Addr} {fd : FuncData} {x q : Str} {st : Stmt} {N ps : List Str} {sp : Shared → Sp} (F : FunD K x q (defArgs st) (defBody st) (defScope st) [] [] f fd) (S : FnScope N ps (defScope st))
    (hbody : ∀ (cdv : Value) (A : Around) (fr : List Env) (s : Shared) (H : Hp) (vs : List V) (Q : VK) (E : XK), Room k (A.deeper (envOfC q (defScope st) s.heap.objs.size f cdv)) → sp s vs H Q E →
      ∃ t, PSs (cxOf CX0 P w K mg base N q (defScope st) f cdv A fr s H E) (defBody st) t ∧ t { nx := fun _ H' => Q .non H', rt := Q } (start N vs) H) : FnS P w K mg base (k + 1) f fd ps sp := by
  obtain ⟨oc, od, dV, kV, doc, pm, an, cdv, ct, osl, rfl, lk, hcd, _, _⟩ := F.ex
  intro A fr s H args us vs Q E hr e0 hb r hl hsp
  have inK : K.In s.heap := e0.mod.kin.keeps fun b o e => (e0.bs b o e).1
  have noL : s.heap.NoLimit := e0.mod.nolimit.keeps fun b o e => (e0.bs b o e).1
  have kinds : ∀ y ∈ ps.zip us, (defScope st).names.lookup y.1 = some .local ∨ ((defScope st).names.lookup y.1 = some .cell ∧ ((cellsFrom (s.heap.objs.size + 1) (defScope st).names []).lookup y.1).isSome = true) := by
    rintro ⟨n, v⟩ hy
    exact (S.par n (List.of_mem_zip hy).1).imp id fun z => ⟨z, PySem.W.cellsFrom_some _ _ _ (.inl z)⟩
  refine codeAny_call_function hr.depth (inK _ _ lk) rfl S.co S.gen rfl (PySem.W.codeRec_of inK hcd) (hb _ _ _ _ ?_)
  refine wpAny_newFunctionEnv_cells S.kind kinds fun env he s1 y => ?_
  subst he
  refine ⟨noL.keeps y.toInCall.keep, codeAny_func ?_⟩
  obtain ⟨t, ht, hq⟩ := hbody cdv A fr s H vs Q E (hr.deeper _) hsp
  have I : Inv (cxOf CX0 P w K mg base N q (defScope st) f cdv A fr s H E) [] (start N vs) H s1 := inv_start S hr.hd e0 hl r y
  refine wpAny_mono (ht.run [] s1 (start N vs) H _ I hq) (fun fl s' hs => ?_) fun e s' hs => hs
  cases fl with
  | ret u =>
    obtain ⟨v, σ', H', J, rv, q'⟩ := hs
    exact ⟨v, H', J.os, J.bare, J.base, J.hok, rv, q'⟩
  | next =>
    obtain ⟨σ', H', J, q'⟩ := hs
    exact ⟨V.non, H', J.os, J.bare, J.base, J.hok, rfl, q'⟩
  | brk => exact hs.elim fun _ z => z.elim fun _ z => False.elim z.2
  | cont => exact hs.elim fun _ z => z.elim fun _ z => False.elim z.2
end Hk

set_option Elab.async false
set_option linter.all false
set_option maxRecDepth 100000
set_option maxHeartbeats 1000000
/-! for .. in enumerate(policy). -/
namespace Hk
open PySem PySem.Spec PyProof.Rows L2
def rIterTn (K : PySem.W.Frag) (n : Nat) : List V → Hp → VK → Prop := fun xs H Q => ∃ (t : Addr) (zs : List V), xs = [.ref t] ∧ SqT K H t zs ∧ ∀ it, H it = none → n ≤ it → Q (.ref it) (upd H it (ItTo t it 0))
theorem call_iterTn {X : Cx} : CallR X (.builtin "iter") (rIterTn X.K X.s_0.heap.objs.size) := by
  intro pins s σ H xs us Q I r h
  obtain ⟨t, zs, rfl, hq, q⟩ := h
  obtain ⟨u, rfl, ru⟩ := r.one
  cases ru
  obtain ⟨its, rv, pl, hz⟩ := I.tuple hq
  refine call_iterT (show s.heap.IsTuple t its.toArray from pl) ?_
  exact ⟨.ref s.heap.objs.size, _, I.laid (t' := s.toks) (fun b u e => Heap.get?_push_of_some _ e) (Nat.le_refl _) (itTo_ok (Heap.get?_push_size _ rfl)), rfl, q _ (I.hok.fresh (Nat.le_refl _)) I.sz⟩
def spS_iter (K : PySem.W.Frag) (Po : Addr) : Shared → Sp := fun s vs H Q _ => ∃ (a dx t : Addr) (xs : List V), vs = [.ref a] ∧ H a = some (.ins Po dx [(("rules" : Str), .ref t)]) ∧ SqT K H t xs ∧ ∀ it, H it = none → s.heap.objs.size ≤ it → Q (.ref it) (upd H it (ItTo t it 0))
section
variable {P : Program} {w : World} {K : PySem.W.Frag} {mg : Str → Option Value} {base : Heap} {S Po : Addr} (T : Tx K mg S Po)
include T
theorem okS_iter : ∃ f fd, FnS P w K mg base 1 f fd ["self"] (spS_iter K Po) ∧ Meth K Po "__iter__" f ∧ Binds K fd ["self"] [] := by
  obtain ⟨f, fd, hm, F⟩ := T.f_Policy__iter__
  refine ⟨f, fd, fns_of F (N := ["self"]) sc_Policy___iter fun cdv A fr s H vs Q E hr h => ?_, hm, F.bindsN fun _ _ _ _ _ _ us hl => match us, hl with | [_], _ => rfl⟩
  obtain ⟨a, dx, t, xs, rfl, ha, ht, q⟩ := h
  refine ⟨_, PSs.nox (pss_one (ps_ret (pe_callB call_iterTn (by rfl) T.b_iter (by decide +kernel) (pa_cons (pe_fld (pv 0) rfl) pa_nil)))), ?_⟩
  exact ⟨_, rfl, a, Po, dx, _, .ref t, rfl, ha, T.c_Policy, T.n_rules, rfl, t, xs, rfl, ht, q⟩
end
/-- .. in enumerate(policy) -/
def iEnumOwn (K : PySem.W.Frag) (Po : Addr) (ta : TA) : TI := fun σ H R => ta σ H fun vs H1 => ∃ (a dx t : Addr) (xs : List V), vs = [.ref a] ∧ H1 a = some (.ins Po dx [(("rules" : Str), .ref t)]) ∧ SqT K H1 t xs ∧ R (IteT K t) H1
theorem pi_enumOwn {X : Cx} {Po f : Addr} {fd : FuncData} {e : Expr} {ta : TA} {p pos tpos : Pos} {elts : List Expr} {kk : Nat} (F : FnS X.prog X.w X.K X.mg X.base 1 f fd ["self"] (spS_iter X.K Po)) (hmt : Meth X.K Po "__iter__" f) (hb : Binds X.K fd ["self"] []) (hr : Room 4 X.A)
    (hg : Gl X "enumerate") (hm : X.mg "enumerate" = none) (ha : PA X [e] ta) (hs : starEach [e] X.env = [(false, eval e X.env)] := by rfl) :
    PI X (.Tuple elts kk tpos) (.Call (.Name "enumerate" p) [e] [] pos) (iEnumOwn X.K Po ta) := by
  refine ⟨fun pins s σ H R I h => ?_⟩
  refine Call_ (ld_blt I hg hm boot_enumerate (PyProof.Rows.callWith_type1 (thn (ha.run pos pins s σ H _ I h) fun us s1 ⟨vs, H1, I1, r1, a, dx, t, xs, ev, hia, hst, q⟩ => ?_) hs rfl))
  subst ev
  obtain ⟨u, rfl, ru⟩ := r1.one
  cases ru
  obtain ⟨mA, J0, _⟩ := ins_get I1.hok hia
  obtain ⟨od, J, _⟩ := J0.look
  obtain ⟨m0, hF⟩ := I1.fr
  have sb : Sub X 2 X.A.in1.in1 := Sub.in1 (Sub.in1 (⟨hr, rfl⟩ : Sub X 4 X.A))
  have hto : ∃ o, s1.heap.get? a = some o := ⟨_, J.1⟩
  obtain ⟨oa, hoa⟩ := hto
  refine callType_codes (Q₁ := fun obj s₂ => s₂.TypeIs obj "enumerate" ∧ wpAny (model X.prog X.w) X.A (pyIter obj) (PIE X pins σ (.Tuple elts kk tpos) R) X.xe s₂) PySem.F.called_enumerate (PySem.F.typeCall_enumerate_1 _) PySem.F.entry_object_init
    (code_enum_new ⟨oa, _, hoa, rfl⟩ ?_) fun obj s₂ h₂ => ⟨h₂.1, PySem.F.args_object_init_2 obj _, object_init_meets PySem.F.called_enumerate.init.lookup PySem.F.called_enumerate.made (by decide) X.prog X.w X.A.in1 _ s₂ ⟨h₂.1, rfl, h₂.2⟩⟩
  refine PySem.W.owit_iter hF I1.ok.mod.kin J hmt.at_ hmt.fn ?_
  have e0 : Env0 X.prog X.w X.K X.mg X.base X.A.in1.in1 X.stack s1 H1 := by
    have e := I1.env0
    exact ⟨by rw [sb.fr]; exact e.frames, e.mod, e.bs, e.bsz, e.funs, e.frf, e.hok, e.bare⟩
  let QI : VK := fun v H' => ∃ it, v = .ref it ∧ H1 it = none ∧ s1.heap.objs.size ≤ it ∧ H' = upd H1 it (ItTo t it 0)
  have hsp : spS_iter X.K Po s1 [.ref a] H1 QI E0 := ⟨a, dx, t, xs, rfl, hia, hst, fun it h1 h2 => ⟨it, rfl, h1, h2, rfl⟩⟩
  refine wpAny_call (codeAny_mono (F X.A.in1.in1 X.stack s1 H1 ⟨[.ref a], []⟩ [.ref a] [.ref a] QI E0 (sb.room.mono (by decide)) e0 (by
    have := hb s1 [.ref a] I1.kIn (by rfl)
    simpa using this) (.cons rfl .nil) rfl hsp) fun r s' hq' => ?_)
  cases r with
  | error e => exact False.elim hq'
  | ok fl =>
    cases fl with
    | next => exact False.elim hq'
    | brk => exact False.elim hq'
    | cont => exact False.elim hq'
    | ret u =>
      obtain ⟨v, H', I', rv, it, ev, hn, hle, eH⟩ := I1.after hq'
      subst ev
      subst eH
      cases rv
      have eo : s'.heap.get? it = some (tupIt t 0) := (I'.hok it _ upd_same).1
      have I2 : Inv X pins σ H1 s' := by
        have z := ItX.inv_drop (a := it) I' upd_same
        rwa [ItX.dropH_upd hn] at z
      unfold PySem.W.OwitIt
      refine wpAny_specialOf (T := "tuple_iterator") ⟨_, eo, rfl⟩ PySem.F.slot_tuple_iterator_next.lookup ?_
      have hlt : it < s'.heap.objs.size := Heap.lt_size eo
      have he : IsEnum (s'.heap.push (enumOf (.ref it))) s'.heap.objs.size it 0 .none := Heap.get?_push_size _ rfl
      have I3 : Inv X pins σ H1 { s' with heap := s'.heap.push (enumOf (.ref it)) } := I2.kept (t' := s'.toks) fun b o e => Heap.get?_push_of_some _ e
      have hta : t ≠ it := fun z => by
        obtain ⟨its, rv, pl, _⟩ := I2.tuple hst
        obtain ⟨o, ho, hc, _⟩ := (show s'.heap.IsTuple t its.toArray from pl)
        rw [z, eo] at ho
        have hc2 : (tupIt t 0).cls = .type "tuple" := by rw [Option.some.inj ho]; exact hc
        exact absurd (Value.type.inj hc2) (by decide)
      have hts : s'.heap.objs.size ≠ t := fun z => by
        obtain ⟨its, rv, pl, _⟩ := I2.tuple hst
        obtain ⟨o, ho, hc, _⟩ := (show s'.heap.IsTuple t its.toArray from pl)
        exact absurd (Heap.lt_size ho) (by rw [z]; exact Nat.lt_irrefl _)
      have hti : (s'.heap.push (enumOf (.ref it))).IsTupleIter it t 0 := ⟨_, Heap.get?_push_of_some _ eo, rfl, rfl⟩
      refine ⟨⟨_, he, rfl⟩, wpAny_pyIter_enum he ?_⟩
      refine ⟨s'.heap.objs.size, [s'.heap.objs.size, it], _, _, H1, rfl, I3, turn_enumT t s'.heap.objs.size it hta hts, ⟨⟨.none, he⟩, hti, Nat.ne_of_gt hlt⟩, fun b hb => ?_, q⟩
      have e' : b = s'.heap.objs.size ∨ b = it := by simpa using hb
      rcases e' with z | z
      · rw [z]; exact I2.fpOk (Nat.le_refl _) (I2.hok.fresh (Nat.le_refl _))
      · rw [z]; exact I1.fpOk hle hn
end Hk

set_option Elab.async false
set_option linter.all false
set_option maxRecDepth 100000
set_option maxHeartbeats 1000000
/-! enumerate(policy) as a source; readings within a generator. -/
namespace Hk
open PySem PySem.Spec PyProof.Rows GenW L2
section
variable {K : PySem.W.Frag} {t : Addr} {xs : List V}
theorem walk_enumT : Walk (IteT K t) xs.length (fun H => SqT K H t xs) (YPair (fun i => some (.int (i : Nat))) (fun i => xs[i]?)) := by
  refine ⟨fun i _ hi q => ⟨xs, xs[i], q, by simp [hi]⟩, fun _ q => ⟨xs, q, rfl⟩, fun i H v H' _ q y => ?_⟩
  obtain ⟨T, x, h1, h2, h3, h4⟩ := y
  exact ⟨T, .int (i : Nat), x, h1, h2, h3, rfl, h4 xs q⟩
end
section
variable {K : PySem.W.Frag} {σ : L2.St} {G G' : Hp} {ta tb te tl : TE}
theorem src_enumOwn {Po : Addr} {rs : List Rule} (h : EvP te σ G (PoV K Po rs)) : SrcB (iEnumOwn K Po (tCons te tNil)) σ G rs.zipIdx (fun p => DD K (.tuple [.int (p.2 : Nat), ruleD p.1])) := fun H s R k =>
  h H s _ fun v G1 H1 g1 ⟨t, ⟨a, dx, e, hi⟩, hd⟩ => by
    obtain ⟨t', xs, et, h1, h2⟩ := dp_tup hd
    subst et
    refine ⟨a, dx, t', xs, by rw [e], g1.sub _ _ hi, Hk.Same.seqT g1.sub h1, k _ G1 H1 g1 ?_⟩
    have hl : xs.length = rs.length := by rw [DpAll.len h2, List.length_map]
    rw [List.length_zipIdx, ← hl]
    refine walk_enumT.mono (fun H' s' => Hk.Same.seqT s' h1) fun i H' x H2 hi s' y G' s1 s2 => ?_
    obtain ⟨T, x1, x2, e, hT, e2, h3, h4⟩ := y
    obtain ⟨b, hb, hdb⟩ := dpa_map h2 h4
    cases h3
    refine ⟨upd G' T (.tup [.int (i : Nat), x2]), (b, i), by rw [e2]; exact Gr.new s2 hT, by simp [List.getElem?_zipIdx, hb], ?_⟩
    rw [e]
    exact .tup upd_same (.cons (.int _) (.cons (Dp.up (s1.trans (same_new (s2.free hT))) _ _ hdb) .nil))
end
/-! ### no exception -/
section
variable {X : Cx}
theorem yi_wish {S : Addr} {L : List Addr} {s₀ : Shared} {ip : List (Addr × Obj)} {acc : List V} {σ : L2.St} {H : Hp} {s : Shared} (h : YI X S L s₀ ip acc σ H s) : YI X.nox S L s₀ ip acc σ H s := ⟨h.has, h.cont, h.inv.wish _⟩
theorem yi_unwish {S : Addr} {L : List Addr} {s₀ : Shared} {ip : List (Addr × Obj)} {acc : List V} {σ : L2.St} {H : Hp} {s : Shared} (h : YI X.nox S L s₀ ip acc σ H s) : YI X S L s₀ ip acc σ H s := ⟨h.has, h.cont, h.inv.unwish⟩
theorem wk_wish {S : Addr} {L : List Addr} {ip : List (Addr × Obj)} {H : Hp} {s s' : Shared} (h : Wk X S L ip H s s') : Wk X.nox S L ip H s s' := ⟨h.os, h.bare, h.base, h.hok, h.own, h.fr, h.out⟩
theorem wk_unwish {S : Addr} {L : List Addr} {ip : List (Addr × Obj)} {H : Hp} {s s' : Shared} (h : Wk X.nox S L ip H s s') : Wk X S L ip H s s' := ⟨h.os, h.bare, h.base, h.hok, h.own, h.fr, h.out⟩
theorem YSs.nox {st : List Stmt} {y : YT} (h : YSs X.nox st y) : YSs X st y := by
  refine ⟨fun A S L yl kn ip R n ys acc s₀ c fs K J gd lv s σ H D g hn k hI ht => ?_⟩
  have dn : ∀ {n : Nat} {s₀ s : Shared} {v : Value} {kap kap' : Resume → Shared → Prop}, (∀ r s, kap r s → kap' r s) → YY X S L yl kn n s₀ v s kap → YY X.nox S L yl kn n s₀ v s kap' := fun {n s₀ s v kap kap'} hk hY => by
    obtain ⟨ys, acc, x, ip, σ, H, h1, h2, h3, h4, h5, h6⟩ := hY
    exact ⟨ys, acc, x, ip, σ, H, h1, h2, yi_wish h3, h4, h5, fun s' H' acc' w sm hkn hc => hk _ _ (h6 s' H' acc' (wk_unwish w) sm hkn hc)⟩
  have up : ∀ {n : Nat} {s₀ s : Shared} {v : Value} {kap kap' : Resume → Shared → Prop}, (∀ r s, kap r s → kap' r s) → YY X.nox S L yl kn n s₀ v s kap → YY X S L yl kn n s₀ v s kap' := fun {n s₀ s v kap kap'} hk hY => by
    obtain ⟨ys, acc, x, ip, σ, H, h1, h2, h3, h4, h5, h6⟩ := hY
    exact ⟨ys, acc, x, ip, σ, H, h1, h2, yi_unwish h3, h4, h5, fun s' H' acc' w sm hkn hc => hk _ _ (h6 s' H' acc' (wk_wish w) sm hkn hc)⟩
  have yp : ∀ {s₀ : Shared} {ys acc : List V} {f : Flow} {s : Shared}, YP X.nox S L s₀ ip D ys acc f s → YP X S L s₀ ip D ys acc f s := fun {s₀ ys acc f s} hs => by
    cases f with
    | next => obtain ⟨σ, H, q1, q2⟩ := hs; exact ⟨σ, H, yi_unwish q1, q2⟩
    | brk => obtain ⟨σ, H, q1, q2⟩ := hs; exact ⟨σ, H, yi_unwish q1, q2⟩
    | cont => obtain ⟨σ, H, q1, q2⟩ := hs; exact ⟨σ, H, yi_unwish q1, q2⟩
    | ret v => exact hs
  refine seg_imp (R := R) (Y := YY X.nox S L yl kn) (fun _ _ _ _ q => q) (fun n s₀ v s' kap kap' hkk hY => up hkk hY) n ?_
  exact h.run A S L yl kn ip R n ys acc s₀ c fs K J gd lv s σ H D ⟨⟨g.apart.loc, g.apart.cells, g.apart.pn⟩, g.ip, g.over, g.split, g.guard, g.gd⟩ hn
    ⟨k.eyl, k.ekn, fun n ys acc s₀ s f hn hs => seg_imp (R := R) (Y := YY X S L yl kn) (fun _ _ _ _ q => q) (fun n s₀ v s' kap kap' hkk hY => dn hkk hY) n (k.ok n ys acc s₀ s f hn (yp hs)), fun _ _ _ _ q => False.elim q⟩ (yi_wish hI) ht
end
/-! ### readings -/
section
variable {K : PySem.W.Frag} {σ : L2.St} {G G' H : Hp} {ta tb te tl : TE} {β : Type} {bs : List β} {ys acc : List V}
theorem yfor_src {wi : TI} {g : TG} {tb : YT} {D : YD} {I : β → VP} (src : SrcB wi σ G bs I) (s : Same G H)
    (k : ∀ G1 H1, Gr G H G1 H1 → ∃ Pv : Nat → List V → List V → L2.St → Hp → Hp → Prop, Pv 0 ys acc σ G1 H1 ∧
      (∀ i b ys acc σ' G' H', bs[i]? = some b → Same G1 G' → Same G' H' → Pv i ys acc σ' G' H' → ∀ x G2 H2, Gr G' H' G2 H2 → I b x G2 → g x σ' H2 fun σ2 H3 =>
        tb { D with nx := fun ys acc σ'' H'' => ∃ G'', Same G1 G'' ∧ Same G'' H'' ∧ Pv (i + 1) ys acc σ'' G'' H'', ct := fun ys acc σ'' H'' => ∃ G'', Same G1 G'' ∧ Same G'' H'' ∧ Pv (i + 1) ys acc σ'' G'' H'', bk := D.nx } ys acc σ2 H3) ∧
      (∀ ys acc σ' G' H', Same G1 G' → Same G' H' → Pv bs.length ys acc σ' G' H' → D.nx ys acc σ' H')) : yFor wi g tb D ys acc σ H :=
  src H s _ fun J G1 H1 g1 w => by
    obtain ⟨Pv, h0, hs, hd⟩ := k G1 H1 g1
    refine ⟨fun i m ys acc σ' H' => m = bs.length - i ∧ i ≤ bs.length ∧ ∃ G', Same G1 G' ∧ Same G' H' ∧ Pv i ys acc σ' G' H', ⟨bs.length, by simp, Nat.zero_le _, G1, Same.refl _, g1.sub, h0⟩, ?_⟩
    rintro i m ys acc σ' H' ⟨rfl, hi, G', s1, s2, p⟩
    have q := s1.trans s2
    by_cases hlt : i < bs.length
    · refine .inr ⟨w.goes i H' hlt q, fun ys acc σ'' H'' => ∃ G'', Same G1 G'' ∧ Same G'' H'' ∧ Pv (i + 1) ys acc σ'' G'' H'', fun ys' acc' σ'' H'' p' => ⟨bs.length - (i + 1), by omega, rfl, hlt, p'⟩, fun x H2 y => ?_⟩
      obtain ⟨G2, b, g2, hb, ib⟩ := w.yields i H' x H2 hlt q y G' s1 s2
      exact hs i b ys acc σ' G' H' hb s1 s2 p x G2 H2 g2 ib
    · have e : i = bs.length := by omega
      subst e
      exact .inl ⟨w.stops H' q, hd ys acc σ' G' H' s1 s2 p⟩
theorem run_yif {tc : TT} {t u : YT} {D : YD} {b : Bool} (h : EvB tc σ G b) (s : Same G H) (h1 : b = true → ∀ G2 H2, Gr G H G2 H2 → t D ys acc σ H2) (h2 : b = false → ∀ G2 H2, Gr G H G2 H2 → u D ys acc σ H2) : yIf tc t u D ys acc σ H :=
  h H s _ fun G2 H2 g => by
    cases b with
    | true => rw [if_pos rfl]; exact h1 rfl G2 H2 g
    | false => rw [if_neg (by simp)]; exact h2 rfl G2 H2 g
/-- some things of ours stay from here on -/
theorem Gr.keepAll {G0 H0 G H : Hp} {Pd : Addr → Prop} (g : Gr G0 H0 G H) (h : ∀ b, Pd b → H0 b = none) : ∃ G', Gr G0 H0 G' H ∧ Same G G' ∧ ∀ b, Pd b → G' b = H b := by
  classical
  refine ⟨fun b => if Pd b then H b else G b, ⟨fun b u e => ?_, g.hh, fun b u e => ?_, fun b u h1 h2 h3 => ?_⟩, fun b u e => ?_, fun b hb => by simp only [if_pos hb]⟩
  · by_cases hb : Pd b
    · simp only [if_pos hb]; exact g.sub _ _ (g.gg _ _ e)
    · simp only [if_neg hb]; exact g.gg _ _ e
  · by_cases hb : Pd b
    · simp only [if_pos hb] at e; exact e
    · simp only [if_neg hb] at e; exact g.sub _ _ e
  · have hb : ¬ Pd b := fun z => by rw [h b z] at h2; cases h2
    simp only [if_neg hb]; exact g.old b u h1 h2 h3
  · by_cases hb : Pd b
    · simp only [if_pos hb]; exact g.sub _ _ e
    · simp only [if_neg hb]; exact e
/-- the consumer did something: more is there -/
theorem Gr.more {G0 H0 G H H2 : Hp} (g : Gr G0 H0 G H) (s : Same H H2) : Gr G0 H0 G H2 := ⟨g.gg, g.hh.trans s, g.sub.trans s, g.old⟩
end
end Hk

set_option Elab.async false
set_option linter.all false
set_option maxRecDepth 100000
set_option maxHeartbeats 1000000
/-! deeds_over: the rights by who has them. -/
namespace Hk
open PySem PySem.Spec PyProof.Rows GenW L2
theorem own_snoc {rts : List Rt} {r : Rt} {p : Str} : own (rts ++ [r]) p = if r.1 = p then own rts p ++ [r.2] else own rts p := by
  unfold own
  rw [List.filter_append, List.map_append]
  by_cases h : r.1 = p
  · rw [if_pos h]; simp [h]
  · rw [if_neg h]; simp [h]
/-- by_first while it is made -/
structure BfI (K : PySem.W.Frag) (H0 G H : Hp) (d : Addr) (rts : List Rt) : Prop where
  h0 : H0 d = none
  gd : G d = none
  ex : ∃ kvs : List (Key × V), H d = some (.dK kvs) ∧ kvs.length ≤ rts.length ∧
    (∀ p : Str, (valV kvs (.inr p) = none ∧ own rts p = []) ∨ ∃ l xs, valV kvs (.inr p) = some (.ref l) ∧ H l = some (.lst xs) ∧ G l = none ∧ H0 l = none ∧ DpAll K G xs ((own rts p).map pD)) ∧
    ∀ (p p' : Str) (l : Addr), valV kvs (.inr p) = some (.ref l) → valV kvs (.inr p') = some (.ref l) → p = p'
section
variable {K : PySem.W.Frag} {σ : L2.St} {G0 H0 G H G2 H2 : Hp} {d : Addr} {rts : List Rt} {r : Rt}
theorem ntD {kvs : List (Key × V)} : ∀ ys : List V, HO.dK kvs ≠ HO.tup ys := fun _ z => nomatch z
theorem ntL {xs : List V} : ∀ ys : List V, HO.lst xs ≠ HO.tup ys := fun _ z => nomatch z
theorem BfI.up (B : BfI K H0 G H d rts) (g : Gr G H G2 H2) : BfI K H0 G2 H2 d rts := by
  obtain ⟨kvs, hd, hl, hp, inj⟩ := B.ex
  refine ⟨B.h0, g.old _ _ B.gd hd ntD, kvs, g.hh _ _ hd, hl, fun p => ?_, inj⟩
  rcases hp p with z | ⟨l, xs, h1, h2, h3, h4, h5⟩
  · exact .inl z
  · exact .inr ⟨l, xs, h1, g.hh _ _ h2, g.old _ _ h3 h2 ntL, h4, DpAll.up g.gg _ _ h5⟩
theorem BfI.keep (B : BfI K H0 G H d rts) (g : Gr G0 H0 G H) : ∃ G', Gr G0 H0 G' H ∧ Same G G' ∧ ByV K rts (.ref d) G' := by
  obtain ⟨kvs, hd, hl, hp, inj⟩ := B.ex
  obtain ⟨G', g', s', e'⟩ := g.keepAll (Pd := fun b => b = d ∨ ∃ p : Str, valV kvs (.inr p) = some (.ref b)) fun b hb => by
    rcases hb with z | ⟨p, hv⟩
    · rw [z]; exact B.h0
    · rcases hp p with z | ⟨l, xs, h1, h2, h3, h4, h5⟩
      · rw [z.1] at hv; cases hv
      · rw [h1] at hv; cases hv; exact h4
  refine ⟨G', g', s', d, kvs, rfl, (e' d (.inl rfl)).trans hd, fun p => ?_⟩
  rcases hp p with z | ⟨l, xs, h1, h2, h3, h4, h5⟩
  · exact .inl z
  · exact .inr ⟨_, h1, .lst ((e' l (.inr ⟨p, h1⟩)).trans h2) (DpAll.up s' _ _ h5)⟩
theorem bf_step {D : Ends} {i j : Nat} {te : TE} (g : Gr G0 H0 G H) (B : BfI K H0 G H d rts) (hi : σ[i]? = some (some (.ref d))) (hj : σ[j]? = some (some (.str r.1))) (he : EvP te σ G (DD K (pD r.2))) (hl : rts.length ≤ 1000)
    (k : ∀ G2 H2, Gr G0 H0 G2 H2 → Same G G2 → BfI K H0 G2 H2 d (rts ++ [r]) → D.nx σ H2) : tDrop (tBM K "list" rAppend (tDSetd (tVar i) (tVar j) (tLst tNil)) (tCons te tNil)) D σ H := by
  obtain ⟨kvs, hd, hkl, hp, inj⟩ := B.ex
  have fin : ∀ (Ha : Hp) (kvs' : List (Key × V)) (l : Addr) (xs : List V), Gr G0 H0 G Ha → Ha d = some (.dK kvs') → kvs'.length ≤ rts.length + 1 → valV kvs' (.inr r.1) = some (.ref l) → Ha l = some (.lst xs) → G l = none → H0 l = none → DpAll K G xs ((own rts r.1).map pD) →
      (∀ p : Str, r.1 ≠ p → (valV kvs' (.inr p) = none ∧ own rts p = []) ∨ ∃ l xs, valV kvs' (.inr p) = some (.ref l) ∧ Ha l = some (.lst xs) ∧ G l = none ∧ H0 l = none ∧ DpAll K G xs ((own rts p).map pD)) →
      (∀ (p p' : Str) (l : Addr), valV kvs' (.inr p) = some (.ref l) → valV kvs' (.inr p') = some (.ref l) → p = p') →
      tyV K "list" (.ref l) Ha ∧ (tCons te tNil) σ Ha fun vs H2 => rAppend (.ref l) vs H2 fun _ H' => D.nx σ H' := fun Ha kvs' l xs ga hda hl' hv hla hgl h0l hxs hoth inj' => by
    have hxl : xs.length ≤ 1000 := by
      rw [DpAll.len hxs, List.length_map]
      exact Nat.le_trans own_len hl
    refine ⟨.inl ⟨rfl, _, SqL.of hla⟩, he Ha ga.sub _ fun v G2 H2 g2 pv => ⟨l, xs, v, rfl, rfl, g2.hh _ _ hla, Nat.lt_of_le_of_lt hxl (by decide), ?_⟩⟩
    have hg2l := g2.old _ _ hgl hla ntL
    have hdl : d ≠ l := fun z => by rw [z, hla] at hda; cases hda
    refine k G2 _ ((ga.trans g2).mut h0l hg2l) g2.gg ⟨B.h0, g2.old _ _ B.gd hda ntD, kvs', ?_, ?_, fun p => ?_, inj'⟩
    · rw [upd_ne hdl]; exact g2.hh _ _ hda
    · rw [List.length_append, List.length_singleton]; exact hl'
    · rw [own_snoc]
      by_cases hrp : r.1 = p
      · rw [if_pos hrp]
        subst hrp
        refine .inr ⟨l, xs ++ [v], hv, upd_same, hg2l, h0l, ?_⟩
        rw [List.map_append]
        exact DpAll.snoc (DpAll.up g2.gg _ _ hxs) pv
      · rw [if_neg hrp]
        rcases hoth p hrp with z | ⟨l', xs', q1, q2, q3, q4, q5⟩
        · exact .inl z
        · have hne : l' ≠ l := fun z => hrp (inj' _ _ l hv (by rw [q1, z]))
          exact .inr ⟨l', xs', q1, by rw [upd_ne hne]; exact g2.hh _ _ q2, g2.old _ _ q3 q2 ntL, q4, DpAll.up g2.gg _ _ q5⟩
  refine ⟨.ref d, hi, d, rfl, .inl ⟨kvs, .inl hd⟩, .str r.1, hj, Nat.zero_le _, fun l0 hl0 => ?_⟩
  have ga := g.mnew (o := .lst []) hl0
  have hdl0 : d ≠ l0 := ne_of_none hd hl0
  have old : ∀ {b : Addr} {o : HO}, H b = some o → (upd H l0 (.lst [])) b = some o := fun {b o} e => by rw [upd_ne (ne_of_none e hl0)]; exact e
  refine ⟨kvs, .inr r.1, old hd, rfl, Nat.lt_of_le_of_lt (Nat.le_trans hkl hl) (by decide), fun v hv => ?_, fun hv => ?_⟩
  · rcases hp r.1 with z | ⟨l, xs, h1, h2, h3, h4, h5⟩
    · rw [z.1] at hv; cases hv
    · rw [h1] at hv
      cases hv
      refine fin _ kvs l xs ga (old hd) (by omega) h1 (old h2) h3 h4 h5 (fun p _ => ?_) inj
      rcases hp p with z | ⟨l', xs', q1, q2, q3, q4, q5⟩
      · exact .inl z
      · exact .inr ⟨l', xs', q1, old q2, q3, q4, q5⟩
  · have gb := ga.mut (o := .dK (putK kvs (.inr r.1) (.ref l0))) B.h0 B.gd
    have hn : own rts r.1 = [] := by
      rcases hp r.1 with z | ⟨l, xs, h1, _⟩
      · exact z.2
      · rw [h1] at hv; cases hv
    have vp : ∀ p : Str, valV (putK kvs (.inr r.1) (.ref l0)) (.inr p) = if p = r.1 then some (.ref l0) else valV kvs (.inr p) := fun p => by
      rw [valV_put]
      by_cases h : p = r.1
      · rw [if_pos h, if_pos (by rw [h])]
      · rw [if_neg h, if_neg (fun z => h (Sum.inr.inj z))]
    refine fin _ _ l0 [] gb upd_same (by have := length_putK kvs (.inr r.1) (.ref l0); omega) (by rw [vp, if_pos rfl]) (by rw [upd_ne hdl0.symm]; exact upd_same) (g.freeG hl0) (g.free0 hl0) (by rw [hn]; exact .nil) (fun p hne => ?_) fun p p' l e1 e2 => ?_
    · rw [vp, if_neg (Ne.symm hne)]
      rcases hp p with z | ⟨l', xs', q1, q2, q3, q4, q5⟩
      · exact .inl z
      · have hl'd : l' ≠ d := fun z => by rw [z, hd] at q2; cases q2
        exact .inr ⟨l', xs', q1, by rw [upd_ne hl'd]; exact old q2, q3, q4, q5⟩
    · rw [vp] at e1 e2
      have no : ∀ p : Str, valV kvs (.inr p) ≠ some (.ref l0) := fun p e => by
        rcases hp p with z | ⟨l', xs', q1, q2, _⟩
        · rw [z.1] at e; cases e
        · rw [q1] at e; cases e; rw [hl0] at q2; cases q2
      by_cases c1 : p = r.1
      · by_cases c2 : p' = r.1
        · rw [c1, c2]
        · rw [if_pos c1] at e1; rw [if_neg c2] at e2
          cases e1
          exact absurd e2 (no p')
      · by_cases c2 : p' = r.1
        · rw [if_neg c1] at e1; rw [if_pos c2] at e2
          cases e2
          exact absurd e1 (no p)
        · rw [if_neg c1] at e1; rw [if_neg c2] at e2
          exact inj p p' l e1 e2
end
end Hk

set_option Elab.async false
set_option linter.all false
set_option maxRecDepth 100000
set_option maxHeartbeats 1000000
/-! deeds_over. -/
namespace Hk
open PySem PySem.Spec PyProof.Rows GenW L2
theorem sc_deeds_over : GScope ["policy", "rights", "people", "by_first", "one", "word", "other", "number", "rule", "person", "deed"] ["policy", "rights", "people"] (defScope s_deeds_over) := ⟨rfl, rfl, rfl, by decide +kernel, rfl, by decide +kernel, by decide +kernel⟩
abbrev Item := Deed × (List Rt × List Rt)
def itemD (x : Item) : PyData := .tuple [deedD x.1, agD x.2]
def doP (r : Rule) (n : Nat) (rts : List Rt) (p : Str) : List Item := (dby r n p rts).map fun d => (d, agOf r d)
def doR (rts : List Rt) (ppl : List Str) (x : Rule × Nat) : List Item := if x.1.kind = ("make" : Str) then [] else ppl.flatMap (doP x.1 x.2 rts)
/-- all deeds, with what they ask for and bring -/
def doAll (rs : List Rule) (rts : List Rt) (ppl : List Str) : List Item := rs.zipIdx.flatMap (doR rts ppl)
structure DoIn where
  rs : List Rule
  rts : List Rt
  ppl : List Str
structure DoIn.Ok (i : DoIn) : Prop where
  ok : ∀ r ∈ i.rs, r.Ok
  lr : i.rts.length ≤ 400
  cm : ∀ r ∈ i.rts, okR r
  la : (doAll i.rs i.rts i.ppl).length ≤ 16000000
abbrev DoIn.all (i : DoIn) : List Item := doAll i.rs i.rts i.ppl
def sp_deeds_over (K : PySem.W.Frag) (Po : Addr) : SpY := fun vs H yl kn Q => ∃ (i : DoIn) (G : Hp), Same G H ∧ (∃ v1 v2 v3, vs = [v1, v2, v3] ∧ PoV K Po i.rs v1 G ∧ Dp K G v2 (.list (i.rts.map rD)) ∧ Dp K G v3 (.list (i.ppl.map sD)) ∧ i.Ok) ∧
  (∀ ys acc H1 H2, Same H1 H2 → kn ys acc H1 → kn ys acc H2) ∧
  (∀ ys acc x G1 H1 dn it rest, Gr G H G1 H1 → i.all = dn ++ it :: rest → DpAll K G1 ys (dn.map itemD) → Dp K G1 x (itemD it) → kn ys acc H1 → yl ys acc x H1) ∧
  (∀ ys acc G1 H1, Gr G H G1 H1 → DpAll K G1 ys (i.all.map itemD) → kn ys acc H1 → Q ys acc H1)
/-- a generator def by its name -/
def YN (P : Program) (w : World) (K : PySem.W.Frag) (mg : Str → Option Value) (base : Heap) (k : Nat) (x : Str) (ps : List Str) (sp : SpY) : Prop :=
  ∃ f fd, YFn P w K mg base k f fd ps sp ∧ mg x = some (.ref f) ∧ PySem.W.keepIn K (.ref f) = true ∧ Binds K fd ps []
theorem flat_at {β γ : Type} {l : List β} {i : Nat} {a : β} {f : β → List γ} (h : l[i]? = some a) : ∃ r, l.flatMap f = (l.take i).flatMap f ++ (f a ++ r) := by
  obtain ⟨hi, e⟩ := List.getElem?_eq_some_iff.mp h
  refine ⟨(l.drop (i + 1)).flatMap f, ?_⟩
  have e2 : l = l.take i ++ (a :: l.drop (i + 1)) := by
    rw [← e, ← List.drop_eq_getElem_cons hi, List.take_append_drop]
  conv => lhs; rw [e2]
  rw [List.flatMap_append, List.flatMap_cons]
theorem take_flat {β γ : Type} {l : List β} {i : Nat} {a : β} {f : β → List γ} (h : l[i]? = some a) : (l.take (i + 1)).flatMap f = (l.take i).flatMap f ++ f a := by
  rw [List.take_add_one, h, List.flatMap_append]
  simp
theorem list_at {γ : Type} {l : List γ} {i : Nat} {a : γ} (h : l[i]? = some a) : ∃ r, l = l.take i ++ a :: r := by
  obtain ⟨hi, e⟩ := List.getElem?_eq_some_iff.mp h
  exact ⟨l.drop (i + 1), by rw [← e, ← List.drop_eq_getElem_cons hi, List.take_append_drop]⟩
theorem fits_dby {r : Rule} {n : Nat} {p : Str} {rts : List Rt} {d : Deed} (h : d ∈ dby r n p rts) : Fits r d := by
  obtain ⟨fo, _, h2⟩ := List.mem_flatMap.mp h
  unfold dOne at h2
  split at h2
  · cases r with
    | fetch w ps =>
      obtain ⟨so, _, h3⟩ := List.mem_flatMap.mp h2
      obtain ⟨pr, _, rfl⟩ := List.mem_map.mp h3
      trivial
    | hand w ps =>
      obtain ⟨so, _, h3⟩ := List.mem_flatMap.mp h2
      obtain ⟨pr, _, rfl⟩ := List.mem_map.mp h3
      trivial
    | rais a b =>
      have := List.mem_singleton.mp h2
      subst this
      trivial
    | meet a b c =>
      have h2 : d ∈ (if (b, fo.2) ∈ own rts p then [Deed.three n p fo.2] else []) := h2
      split at h2
      · have := List.mem_singleton.mp h2
        subst this
        trivial
      · simp at h2
    | make ws => simp at h2
  · simp at h2
section
variable {K : PySem.W.Frag} {σ : L2.St} {G H : Hp} {D : YD} {ys acc : List V} {u : YT}
theorem yone {t : YT} (h : t D ys acc σ H) : yThen t y0 D ys acc σ H := h
theorem yseq_newK {i : Nat} (h : ∀ p, H p = none → u D ys acc (σ.set i (some (.ref p))) (upd H p (.dK []))) : yThen (yPlain (tAsg tDNewK (gName i))) u D ys acc σ H := h
theorem yseq_for {β : Type} {bs : List β} {wi : TI} {g : TG} {tb : TS} {I : β → VP} (src : SrcB wi σ G bs I) (s : Same G H)
    (k : ∀ G1 H1, Gr G H G1 H1 → ∃ Pv : Nat → L2.St → Hp → Hp → Prop, Pv 0 σ G1 H1 ∧
      (∀ i b σ' G' H', bs[i]? = some b → Same G1 G' → Same G' H' → Pv i σ' G' H' → ∀ x G2 H2, Gr G' H' G2 H2 → I b x G2 → g x σ' H2 fun σ2 H3 =>
        tb { nx := fun σ'' H'' => ∃ G'', Same G1 G'' ∧ Same G'' H'' ∧ Pv (i + 1) σ'' G'' H'', rt := fun _ _ => False, ct := fun σ'' H'' => ∃ G'', Same G1 G'' ∧ Same G'' H'' ∧ Pv (i + 1) σ'' G'' H'', bk := fun σ'' H'' => u D ys acc σ'' H'' } σ2 H3) ∧
      (∀ σ' G' H', Same G1 G' → Same G' H' → Pv bs.length σ' G' H' → u D ys acc σ' H')) : yThen (yPlain (tFor wi g tb)) u D ys acc σ H :=
  for_src (D := { nx := fun σ' H' => u D ys acc σ' H', rt := fun _ _ => False, bk := D.bk ys acc, ct := D.ct ys acc }) src s k
theorem run_yield {te : TE} {P : VP} (hl : ys.length < sizeLine) (h : EvP te σ G P) (s : Same G H) (k : ∀ x G2 H2, Gr G H G2 H2 → P x G2 → D.yl ys acc x H2 ∧ ∀ acc' H3, Same H2 H3 → D.kn (ys ++ [x]) acc' H3 → D.nx (ys ++ [x]) acc' σ H3) : yYield te D ys acc σ H :=
  ⟨hl, h H s _ fun x G2 H2 g p => k x G2 H2 g p⟩
end
section
variable {P : Program} {w : World} {K : PySem.W.Frag} {mg : Str → Option Value} {base : Heap} {S Po : Addr} (T : Tx K mg S Po)
include T
theorem ok_deeds_over : YN P w K mg base 5 "deeds_over" ["policy", "rights", "people"] (sp_deeds_over K Po) := by
  obtain ⟨f_deeds_by, fd_deeds_by, G_deeds_by, m_deeds_by, k_deeds_by, b_deeds_by⟩ := (ok_deeds_by (P := P) (w := w) (base := base) T)
  obtain ⟨f_asked_and_got, fd_asked_and_got, G_asked_and_got, m_asked_and_got, k_asked_and_got, b_asked_and_got⟩ := (ok_asked_and_got (P := P) (w := w) (base := base) T)
  obtain ⟨f_it, fd_it, F_it, M_it, B_it⟩ := okS_iter (P := P) (w := w) (base := base) T
  obtain ⟨f, fd, hm, F⟩ := T.f_deeds_over
  refine ⟨f, fd, ?_, hm, F.kp, F.bindsN fun _ _ _ _ _ _ us hl => match us, hl with | [_, _, _], _ => rfl⟩
  obtain ⟨oc, od, dV, kV, doc, pm, an, cdv, ct, osl, rfl, lk, hcd, _, _⟩ := F.ex
  refine yfn_of (N := ["policy", "rights", "people", "by_first", "one", "word", "other", "number", "rule", "person", "deed"]) lk hcd sc_deeds_over (fun _ => rfl) (fun vs H yl kn Q h => ?_) fun A outer s H vs yl kn Q pn hr h => ?_
  · obtain ⟨i, G, sm, ⟨v1, v2, v3, rfl, _⟩, _⟩ := h
    rfl
  · obtain ⟨i, G, sm, ⟨v1, v2, v3, rfl, h1, h2, h3, ok⟩, km, hy, hq⟩ := h
    refine ⟨_, YSs.nox (yss_cons (ys_ps (ps_set (i := 3) sc_deeds_over.nd rfl (Or.inl rfl) pe_dnewK))
    (yss_cons (ys_ps (ps_for PassesOwn.never rfl (pi_list (pv 1)) (pg_tup rfl (pgs_cons (pg_name (i := 4) sc_deeds_over.nd rfl (Or.inl rfl)) (pgs_cons (pg_name (i := 5) sc_deeds_over.nd rfl (Or.inl rfl)) (pgs_cons (pg_name (i := 6) sc_deeds_over.nd rfl (Or.inl rfl)) pgs_nil))))
    (pss_one (ps_expr (pe_bm PySem.F.plainAttrs_list PySem.F.slot_list_append PySem.F.type_list_append mt_append (pe_dsetd (pv 3) (pv 4) (pe_lst pa_nil) ⟨rfl, rfl, rfl, rfl⟩) (pa_cons (pe_tup (pa_cons (pv 5) (pa_cons (pv 6) pa_nil))) pa_nil))))))
    (yss_cons (ys_for PassesOwn.never rfl (pi_enumOwn F_it M_it B_it (hr.mono (by decide)) (by rfl) T.b_enumerate (pa_cons (pv 0) pa_nil)) (pg_tup rfl (pgs_cons (pg_name (i := 7) sc_deeds_over.nd rfl (Or.inl rfl)) (pgs_cons (pg_name (i := 8) sc_deeds_over.nd rfl (Or.inl rfl)) pgs_nil)))
    (yss_cons (ys_if (pt_cmpR op_ne (pe_ix ix_tup (pv 8) pe_int (fun _ _ => rfl)) pe_str (nomark _))
    (yss_cons (ys_for PassesOwn.never rfl (pi_list (pv 2)) (pg_name (i := 9) sc_deeds_over.nd rfl (Or.inl rfl))
    (yss_cons (ys_for PassesOwn.never rfl (pi_list (pe_call G_deeds_by (hr.mono (by decide)) (by rfl) m_deeds_by k_deeds_by b_deeds_by .nil pass0 (pa_cons (pv 8) (pa_cons (pv 7) (pa_cons (pv 9) (pa_cons (pv 3) pa_nil)))))) (pg_name (i := 10) sc_deeds_over.nd rfl (Or.inl rfl))
    (yss_cons (ys_yield (pe_tup (pa_cons (pv 10) (pa_cons (pe_call G_asked_and_got (hr.mono (by decide)) (by rfl) m_asked_and_got k_asked_and_got b_asked_and_got .nil pass0 (pa_cons (pv 8) (pa_cons (pv 10) pa_nil))) pa_nil))))
    yss_nil))
    yss_nil))
    yss_nil) yss_nil)
    yss_nil))
    yss_nil))), fun acc0 H0 sm0 kn0 => ?_⟩
    have g00 : Gr G H G H0 := ⟨Same.refl G, sm0, sm.trans sm0, fun _ _ z _ _ => z⟩
    have h20 := h2
    refine yseq_newK fun d hd => ?_
    have sG0 : Same G H0 := sm.trans sm0
    have gd0 : Gr G H0 G (upd H0 d (.dK [])) := (Gr.refl sG0).mnew hd
    have B0 : BfI K H0 G (upd H0 d (.dK [])) d [] := ⟨hd, sG0.free hd, [], upd_same, Nat.le_refl _, fun p => .inl ⟨rfl, rfl⟩, fun p p' l e => nomatch e⟩
    refine yseq_for (src_list (bs := i.rts) (enc := rD) (ev_var rfl h2)) gd0.sub fun G1 H1 g1 => ⟨fun j σ' G' H' => Gr G H0 G' H' ∧ BfI K H0 G' H' d (i.rts.take j) ∧ ∃ a b c, σ' = [some v1, some v2, some v3, some (.ref d), a, b, c, none, none, none, none],
      ⟨gd0.trans g1, by rw [List.take_zero]; exact B0.up g1, _, _, _, rfl⟩, ?_, ?_⟩
    · rintro j r σ' G' H' hb s1 s2 ⟨gp, B, a, b, c, rfl⟩ x G2 H2 g2 ix
      obtain ⟨x4, x5, x6, p4, p5, p6, tg⟩ := tgt_3 (σ := [some v1, some v2, some v3, some (.ref d), a, b, c, none, none, none, none]) (g1 := gName 4) (g2 := gName 5) (g3 := gName 6) ix (fun v1 _ => tgt_name) (fun v1 v2 _ _ => tgt_name) (fun v1 v2 v3 _ _ _ => tgt_name)
      refine tg H2 g2.sub _ ?_
      have e4 := dp_str p4
      subst e4
      refine bf_step (K := K) (r := r) (i := 3) (j := 4) (gp.trans g2) (B.up g2) rfl rfl (ev_tup (ead_cons (ev_var (i := 5) rfl p5) (ead_cons (ev_var (i := 6) rfl p6) ead_nil)) (by show 2 ≤ 1000; decide)) ?_ fun G3 H3 g3 s3 B3 => ?_
      · rw [List.length_take]
        have := ok.lr
        omega
      · exact ⟨G3, (s1.trans g2.gg).trans s3, g3.sub, g3, by rw [List.take_add_one, hb]; exact B3, _, _, _, rfl⟩
    · rintro σ' G' H' s1 s2 ⟨gp, B, a4, a5, a6, rfl⟩
      rw [List.take_length] at B
      obtain ⟨Gk, gk, sk, hby⟩ := B.keep gp
      refine yone (yfor_src (src_enumOwn (ev_var rfl (mon_po _ _ _ gk.gg h1))) gk.sub fun G3 H3 g3 => ⟨fun j ys acc σ' G' H' => Gr G H0 G' H' ∧ DpAll K G' ys (((i.rs.zipIdx.take j).flatMap (doR i.rts i.ppl)).map itemD) ∧ kn ys acc H' ∧ ∃ a b c e, σ' = [some v1, some v2, some v3, some (.ref d), a4, a5, a6, a, b, c, e],
        ⟨gk.trans g3, .nil, km _ _ _ _ (gk.trans g3).hh kn0, _, _, _, _, rfl⟩, ?_, ?_⟩)
      · rintro n ⟨r, rn⟩ ys acc σ' G' H' hb t1 t2 ⟨gp', hys, kn', a, b, c, e, rfl⟩ x G4 H4 g4 ix
        obtain ⟨x7, x8, p7, p8, tg⟩ := tgt_2 (σ := [some v1, some v2, some v3, some (.ref d), a4, a5, a6, a, b, c, e]) (g1 := gName 7) (g2 := gName 8) ix (fun v1 _ => tgt_name) (fun v1 v2 _ _ => tgt_name)
        refine tg H4 g4.sub _ ?_
        have e7 := dp_int p7
        subst e7
        have gp4 := gp'.trans g4
        obtain ⟨rest1, hr1⟩ := flat_at (f := doR i.rts i.ppl) hb
        have hrm : r ∈ i.rs := by
          obtain ⟨q1, q2⟩ := List.getElem?_eq_some_iff.mp hb
          have z := List.mem_zipIdx_iff_getElem?.mp (List.getElem_mem q1)
          rw [q2] at z
          exact List.mem_of_getElem? z
        refine yone (run_yif (eb_test (ev_neS (ev_kind (ev_var rfl p8)) (ev_c rfl))) g4.sub (fun hk G5 H5 g5 => ?_) (fun hk G5 H5 g5 => ?_))
        · have hk : ¬ r.kind = ("make" : Str) := fun z => by rw [decide_eq_true z] at hk; cases hk
          have hdr : doR i.rts i.ppl (r, rn) = i.ppl.flatMap (doP r rn i.rts) := if_neg hk
          rw [hdr] at hr1
          have gp5 := gp4.trans g5
          refine yone (yfor_src (src_list (bs := i.ppl) (enc := sD) (ev_var rfl (Dp.up gp5.gg _ _ h3))) g5.sub fun G6 H6 g6 => ⟨fun j ys acc σ' G' H' => Gr G H0 G' H' ∧ DpAll K G' ys (((i.rs.zipIdx.take n).flatMap (doR i.rts i.ppl) ++ (i.ppl.take j).flatMap (doP r rn i.rts)).map itemD) ∧ kn ys acc H' ∧ ∃ c e, σ' = [some v1, some v2, some v3, some (.ref d), a4, a5, a6, some (.int rn), some x8, c, e],
            ⟨gp5.trans g6, by rw [List.take_zero, List.flatMap_nil, List.append_nil]; exact DpAll.up ((g4.gg.trans g5.gg).trans g6.gg) _ _ hys, km _ _ _ _ ((g4.trans g5).trans g6).hh kn', _, _, rfl⟩, ?_, ?_⟩)
          · rintro j p ys acc σ' G' H' hbp u1 u2 ⟨gp', hys, kn', c, e, rfl⟩ y G7 H7 g7 iy
            have ey := dp_str iy
            subst ey
            have gp7 := gp'.trans g7
            obtain ⟨rest2, hr2⟩ := flat_at (f := doP r rn i.rts) hbp
            have s17 : Same G3 G7 := ((((t1.trans g4.gg).trans g5.gg).trans g6.gg).trans u1).trans g7.gg
            have s47 : Same G4 G7 := ((g5.gg.trans g6.gg).trans u1).trans g7.gg
            have by7 := mon_by _ _ _ (g3.gg.trans s17) hby
            have r7 := Dp.up s47 _ _ p8
            show yThen (yFor _ _ _) y0 _ ys acc [some v1, some v2, some v3, some (.ref d), a4, a5, a6, some (.int rn), some x8, some (.str p), e] H7
            refine yone (yfor_src (src_list (bs := dby r rn p i.rts) (enc := deedD) (ev_call (α := DbIn) ⟨r, rn, p, i.rts⟩ fun Ha sa Q q => ⟨x8, rfl, .int rn, rfl, .str p, rfl, .ref d, rfl, q _ G7 Ha (Gr.refl sa) ⟨x8, .ref d, rfl, r7, by7, ⟨ok.ok r hrm, hk, ok.lr, ok.cm⟩⟩⟩)) g7.sub fun G8 H8 g8 =>
              ⟨fun l ys acc σ' G' H' => Gr G H0 G' H' ∧ DpAll K G' ys (((i.rs.zipIdx.take n).flatMap (doR i.rts i.ppl) ++ ((i.ppl.take j).flatMap (doP r rn i.rts) ++ (doP r rn i.rts p).take l)).map itemD) ∧ kn ys acc H' ∧ ∃ e, σ' = [some v1, some v2, some v3, some (.ref d), a4, a5, a6, some (.int rn), some x8, some (.str p), e],
              ⟨gp7.trans g8, by rw [List.take_zero, List.append_nil]; exact DpAll.up (g7.gg.trans g8.gg) _ _ hys, km _ _ _ _ (g7.trans g8).hh kn', _, rfl⟩, ?_, ?_⟩)
            · rintro l dd ys acc σ' G' H' hbd w1 w2 ⟨gp', hys, kn', e, rfl⟩ z G9 H9 g9 iz
              have gp9 := gp'.trans g9
              have hat : (doP r rn i.rts p)[l]? = some (dd, agOf r dd) := by unfold doP; rw [List.getElem?_map, hbd]; rfl
              obtain ⟨rest3, hr3⟩ := list_at hat
              have dec : i.all = ((i.rs.zipIdx.take n).flatMap (doR i.rts i.ppl) ++ ((i.ppl.take j).flatMap (doP r rn i.rts) ++ (doP r rn i.rts p).take l)) ++ (dd, agOf r dd) :: (rest3 ++ rest2 ++ rest1) := by
                rw [show i.all = _ from hr1, hr2]
                conv => lhs; rw [hr3]
                simp [List.append_assoc]
              have hys9 := DpAll.up g9.gg _ _ hys
              have hlen : ys.length < sizeLine := by
                have q1 := DpAll.len hys
                have q2 := ok.la
                rw [show doAll i.rs i.rts i.ppl = _ from dec, List.length_append, List.length_cons] at q2
                rw [List.length_map] at q1
                rw [sizeLine_eq]
                omega
              have fit := fits_dby (List.mem_of_getElem? hbd)
              have r9 := Dp.up ((g8.gg.trans w1).trans g9.gg) _ _ r7
              refine yone (run_yield (P := DD K (itemD (dd, agOf r dd))) hlen (ev_tup (ead_cons (ev_var rfl iz) (ead_cons (ev_call (r, dd) (ea2 mon_dd mon_dd (ev_var rfl r9) (ev_var rfl iz) fun a b G' _ q1 q2 => ⟨a, b, rfl, q1, q2, fit⟩)) ead_nil)) (by show 2 ≤ 1000; decide)) g9.sub fun x G10 H10 g10 px => ⟨?_, fun acc' H11 sm11 kn11 => ?_⟩)
              · exact hy _ _ _ G10 H10 _ _ _ (g00.trans (gp9.trans g10)) dec (DpAll.up g10.gg _ _ hys9) px (km _ _ _ _ (g9.trans g10).hh kn')
              · refine ⟨G10, ((w1.trans g9.gg).trans g10.gg), g10.sub.trans sm11, (gp9.trans g10).more sm11, ?_, kn11, _, rfl⟩
                rw [List.take_add_one, hat]
                have z := DpAll.snoc (DpAll.up g10.gg _ _ hys9) px
                rw [← List.map_singleton, ← List.map_append] at z
                simpa [List.append_assoc] using z
            · rintro ys acc σ' G' H' w1 w2 ⟨gp', hys, kn', e, rfl⟩
              refine ⟨G', ((u1.trans g7.gg).trans g8.gg).trans w1, w2, gp', ?_, kn', _, _, rfl⟩
              rw [take_flat hbp]
              have e1 : (doP r rn i.rts p).take (dby r rn p i.rts).length = doP r rn i.rts p := List.take_of_length_le (by unfold doP; rw [List.length_map]; exact Nat.le_refl _)
              rwa [e1] at hys
          · rintro ys acc σ' G' H' u1 u2 ⟨gp', hys, kn', c, e, rfl⟩
            refine ⟨G', (((t1.trans g4.gg).trans g5.gg).trans g6.gg).trans u1, u2, gp', ?_, kn', _, _, _, _, rfl⟩
            rw [take_flat hb, hdr]
            rwa [List.take_length] at hys
        · have hk : r.kind = ("make" : Str) := by
            refine Decidable.byContradiction fun z => ?_
            rw [decide_eq_false z] at hk
            cases hk
          refine ⟨G5, (t1.trans g4.gg).trans g5.gg, g5.sub, gp4.trans g5, ?_, km _ _ _ _ (g4.trans g5).hh kn', _, _, _, _, rfl⟩
          rw [take_flat hb, show doR i.rts i.ppl (r, rn) = [] from if_pos hk, List.append_nil]
          exact DpAll.up (g4.gg.trans g5.gg) _ _ hys
      · rintro ys acc σ' G' H' t1 t2 ⟨gp', hys, kn', _⟩
        rw [List.take_length] at hys
        exact hq ys acc G' H' (g00.trans gp') hys kn'
end
end Hk

set_option Elab.async false
set_option linter.all false
set_option maxRecDepth 100000
set_option maxHeartbeats 1000000
/-! What deeds_over hands out: as a list; what it brings; brought. -/
namespace Hk
open PySem PySem.Spec PyProof.Rows GenW L2
theorem sc_brought : FnScope ["policy", "rights", "people", "deed", "asked", "got", "right"] ["policy", "rights", "people"] (defScope s_brought) := ⟨rfl, rfl, rfl, by decide +kernel, rfl, by decide +kernel, by decide +kernel⟩
/-- what all deeds bring -/
def DoIn.got (i : DoIn) : List Rt := i.all.flatMap fun x => x.2.2
def DoPre (K : PySem.W.Frag) (Po : Addr) (i : DoIn) : List V → Hp → Prop := fun vs G => ∃ v1 v2 v3, vs = [v1, v2, v3] ∧ PoV K Po i.rs v1 G ∧ Dp K G v2 (.list (i.rts.map rD)) ∧ Dp K G v3 (.list (i.ppl.map sD)) ∧ i.Ok
theorem got_len1 {r : Rule} {d : Deed} : (agOf r d).2.length ≤ 1 := by
  cases r <;> cases d <;> simp [agOf]
theorem mem_all {i : DoIn} {x : Item} : x ∈ i.all ↔ ∃ r n p, i.rs[n]? = some r ∧ r.kind ≠ ("make" : Str) ∧ p ∈ i.ppl ∧ ∃ d ∈ dby r n p i.rts, x = (d, agOf r d) := by
  constructor
  · intro h
    obtain ⟨⟨r, n⟩, h1, h2⟩ := List.mem_flatMap.mp h
    unfold doR at h2
    split at h2
    · simp at h2
    · rename_i hk
      obtain ⟨p, hp, h3⟩ := List.mem_flatMap.mp h2
      obtain ⟨d, hd, rfl⟩ := List.mem_map.mp h3
      exact ⟨r, n, p, List.mem_zipIdx_iff_getElem?.mp h1, hk, hp, d, hd, rfl⟩
  · rintro ⟨r, n, p, h1, h2, h3, d, h4, rfl⟩
    refine List.mem_flatMap.mpr ⟨(r, n), List.mem_zipIdx_iff_getElem?.mpr h1, ?_⟩
    unfold doR
    rw [if_neg h2]
    exact List.mem_flatMap.mpr ⟨p, h3, List.mem_map.mpr ⟨d, h4, rfl⟩⟩
theorem len_flat1 {β γ : Type} {f : β → List γ} {l : List β} (h : ∀ b ∈ l, (f b).length ≤ 1) : (l.flatMap f).length ≤ l.length := by
  have := len_flatB (n := 1) h
  omega
theorem all_got1 {i : DoIn} : ∀ x ∈ i.all, x.2.2.length ≤ 1 := fun x hx => by
  obtain ⟨r, n, p, _, _, _, d, _, rfl⟩ := mem_all.mp hx
  exact got_len1
theorem got_len {i : DoIn} : i.got.length ≤ i.all.length := len_flat1 all_got1
section
variable {K : PySem.W.Frag} {σ : L2.St} {G H : Hp} {t : TA} {Po : Addr}
theorem em_listY (i : DoIn) (h : EvA t σ G (DoPre K Po i)) : EvM (tListY (tCallY (sp_deeds_over K Po) [] t)) σ G (fun o G' => ∃ xs, o = .lst xs ∧ DpAll K G' xs (i.all.map itemD)) := fun H s Q q =>
  h H s _ fun vs G1 H1 g1 p1 => ⟨i, G1, g1.sub, by rw [List.append_nil]; exact p1, fun _ _ _ _ _ e => e, fun ys acc x G2 H2 dn it rest g2 e hd hx kn => kn, fun ys acc G2 H2 g2 hd kn => by
    have kn : acc = ys := kn
    subst kn
    refine ⟨?_, fun p hp => q p _ G2 _ ((g1.trans g2).mnew hp) ((g1.trans g2).free0 hp) ((g1.trans g2).freeG hp) upd_same ⟨acc, rfl, hd⟩⟩
    have ok : i.Ok := by obtain ⟨_, _, _, _, _, _, _, ok⟩ := p1; exact ok
    have z := ok.la
    rw [DpAll.len hd, List.length_map, sizeLine_eq]
    have : i.all.length ≤ 16000000 := z
    omega⟩
theorem dp_tup2 {v : V} {d1 d2 : PyData} (h : Dp K G v (.tuple [d1, d2])) : ∃ a v1 v2, v = .ref a ∧ SqT K G a [v1, v2] ∧ Dp K G v1 d1 ∧ Dp K G v2 d2 := by
  obtain ⟨a, xs, e, h1, h2⟩ := dp_tup h
  cases h2 with
  | cons p1 h2 =>
    cases h2 with
    | cons p2 h2 =>
      cases h2
      exact ⟨a, _, _, e, h1, p1, p2⟩
theorem rights_addT {l : List Rt} {vs : List V} (h : DpAll K H vs (l.map rD)) : DpAll K (addT G H) vs (l.map rD) := by
  induction l generalizing vs with
  | nil => cases h; exact .nil
  | cons r l ih =>
    cases h with
    | cons h1 h2 =>
      obtain ⟨q, e1, e2⟩ := right_at h1
      subst e1
      exact .cons (.tup (addT_tup e2) (.cons (.str _) (.cons (.str _) (.cons (.str _) .nil)))) (ih h2)
theorem em_lcY (i : DoIn) (h : EvA t σ G (DoPre K Po i)) : EvM (tLcY K (tCallY (sp_deeds_over K Po) [] t)) σ G (fun o G' => ∃ xs, o = .lst xs ∧ DpAll K G' xs (i.got.map rD)) := fun H s Q q => by
  let kn : List V → List V → Hp → Prop := fun ys acc H' => DpAll K H' acc (((i.all.take ys.length).flatMap fun (x : Item) => x.2.2).map rD)
  refine ⟨kn, fun H1 => ?_, h H s _ fun vs G1 H1 g1 p1 => ⟨i, G1, g1.sub, by rw [List.append_nil]; exact p1, fun _ _ _ _ s (e : DpAll K _ _ _) => DpAll.up s _ _ e, fun ys acc x G2 H2 dn it rest g2 e hd hx kn => ?_, fun ys acc G2 H2 g2 hd kn => ?_⟩⟩
  · show DpAll K H1 [] (((i.all.take 0).flatMap fun (x : Item) => x.2.2).map rD)
    exact .nil
  · have hl : ys.length = dn.length := by rw [DpAll.len hd, List.length_map]
    have kn : DpAll K H2 acc (((i.all.take ys.length).flatMap fun x => x.2.2).map rD) := kn
    obtain ⟨a, vd, v2, rfl, t1, d1, d2⟩ := dp_tup2 hx
    obtain ⟨a2, vq, vl, rfl, t2, d3, d4⟩ := dp_tup2 (show Dp K G2 v2 (.tuple [_, _]) from d2)
    obtain ⟨l, gots, rfl, hlst, hg⟩ := dp_lst' d4
    have ok : i.Ok := by obtain ⟨_, _, _, _, _, _, _, ok⟩ := p1; exact ok
    have e1 : (i.all.take ys.length).flatMap (fun x => x.2.2) = dn.flatMap fun x => x.2.2 := by rw [e, hl, List.take_left]
    have e2 : (i.all.take (ys.length + 1)).flatMap (fun x => x.2.2) = (dn.flatMap fun x => x.2.2) ++ it.2.2 := by
      rw [e, hl, List.take_append]
      simp [List.take_of_length_le]
    rw [e1] at kn
    refine ⟨a, vd, a2, vq, l, gots, rfl, Hk.Same.seqT g2.sub t1, Hk.Same.seqT g2.sub t2, g2.sub _ _ hlst, ?_, ?_⟩
    · have z1 := DpAll.len kn
      have z2 := DpAll.len hg
      have z3 := got_len (i := i)
      have z4 : i.all.length ≤ 16000000 := ok.la
      have z5 : i.got = (dn.flatMap fun x => x.2.2) ++ (it.2.2 ++ rest.flatMap fun x => x.2.2) := by
        unfold DoIn.got
        rw [e, List.flatMap_append, List.flatMap_cons]
      rw [z5, List.length_append, List.length_append] at z3
      rw [List.length_map] at z1 z2
      rw [sizeLine_eq]
      omega
    · show DpAll K H2 (acc ++ gots) (((i.all.take (ys ++ [V.ref a]).length).flatMap fun x => x.2.2).map rD)
      rw [List.length_append, List.length_singleton, e2, List.map_append]
      exact DpAll.append kn (DpAll.up g2.sub _ _ hg)
  · have kn : DpAll K H2 acc (((i.all.take ys.length).flatMap fun x => x.2.2).map rD) := kn
    have hl : ys.length = i.all.length := by rw [DpAll.len hd, List.length_map]
    rw [hl, List.take_length] at kn
    have ok : i.Ok := by obtain ⟨_, _, _, _, _, _, _, ok⟩ := p1; exact ok
    refine ⟨?_, fun p hp => ?_⟩
    · have z3 := got_len (i := i)
      have z4 : i.all.length ≤ 16000000 := ok.la
      have z1 := DpAll.len kn
      rw [List.length_map] at z1
      rw [z1, sizeLine_eq]
      have : ((i.all.flatMap fun x => x.2.2)).length ≤ i.all.length := z3
      omega
    · have g := (g1.trans g2).addT
      exact q p _ _ _ (g.mnew hp) (g.free0 hp) (g.freeG hp) upd_same ⟨acc, rfl, rights_addT kn⟩
end
def sp_brought (K : PySem.W.Frag) (Po : Addr) : Sp := SpM (DoPre K Po) (fun i o G => ∃ xs, o = .lst xs ∧ DpAll K G xs (i.got.map rD))
section
variable {P : Program} {w : World} {K : PySem.W.Frag} {mg : Str → Option Value} {base : Heap} {S Po : Addr} (T : Tx K mg S Po)
include T
theorem ok_brought : Fn P w K mg base 7 "brought" ["policy", "rights", "people"] (sp_brought K Po) := by
  obtain ⟨f_deeds_over, fd_deeds_over, G_deeds_over, m_deeds_over, k_deeds_over, b_deeds_over⟩ := (ok_deeds_over (P := P) (w := w) (base := base) T)
  refine fn_mk (N := ["policy", "rights", "people", "deed", "asked", "got", "right"]) T.f_brought (fun F => F.bindsN fun _ _ _ _ _ _ us hl => match us, hl with | [_, _, _], _ => rfl) sc_brought (fun vs H Q E h => ?_) fun f cdv A outer s H vs Q E hr h => ?_
  · obtain ⟨n, G, sm, ⟨v1, v2, v3, rfl, _⟩, _⟩ := h
    rfl
  · obtain ⟨i, G, sm, ⟨v1, v2, v3, rfl, h1, h2, h3, ok⟩, q⟩ := h
    refine ⟨_, PSs.nox (pss_one (ps_ret (pe_lcY rfl (pgy_call G_deeds_over (hr.mono (by decide)) (by rfl) m_deeds_over k_deeds_over b_deeds_over .nil (pa_cons (pv 0) (pa_cons (pv 1) (pa_cons (pv 2) pa_nil)))) (hr.mono (by decide)) rfl (by decide +kernel) (by decide +kernel) (fun _ => rfl) rfl rfl rfl rfl rfl rfl (fun _ => rfl) (fun _ _ => rfl)))), ?_⟩
    exact (em_lcY (K := K) (Po := Po) i fun Ha sa Q q => ⟨v1, rfl, v2, rfl, v3, rfl, q _ G Ha (Gr.refl sa) ⟨v1, v2, v3, rfl, h1, h2, h3, ok⟩⟩) H sm _ fun p o G2 H2 g h0 hg e r => q p o G2 H2 g h0 hg e r
end
end Hk

set_option Elab.async false
set_option linter.all false
set_option maxRecDepth 100000
set_option maxHeartbeats 1000000
/-! The mathematics: what rounds bring. -/
namespace Hk
open PySem
/-- what one person's deeds of one rule bring by what S holds -/
def BrR (S : Rt → Prop) (p : Str) : Rule → Rt → Prop
  | .fetch a ps, r => ∃ q z, ∃ pr ∈ ps, S (p, a, q) ∧ S (q, pr.1, z) ∧ r = (p, pr.2, z)
  | .hand a ps, r => ∃ q z, ∃ pr ∈ ps, S (p, a, q) ∧ S (p, pr.1, z) ∧ r = (q, pr.2, z)
  | .rais a b, r => ∃ q, S (p, a, q) ∧ r = (p, b, q)
  | .meet a b c, r => ∃ q, S (p, a, q) ∧ S (p, b, q) ∧ r = (p, c, q)
  | .make _, _ => False
structure Sys where
  rs : List Rule
  P : Str → Prop
  B : Rt → Prop
  M : Rt → Prop
def Sys.Br (y : Sys) (S : Rt → Prop) (r : Rt) : Prop := ∃ rl ∈ y.rs, ∃ p, y.P p ∧ BrR S p rl r
def Sys.Lv (y : Sys) : Nat → Rt → Prop
  | 0 => y.B
  | n + 1 => fun r => y.Lv n r ∨ y.Br (y.Lv n) r ∨ (n = 0 ∧ y.M r)
def Sys.Com (y : Sys) (r : Rt) : Prop := ∃ n, y.Lv n r
def Sys.Fst (y : Sys) (n : Nat) (r : Rt) : Prop := y.Lv n r ∧ ∀ m, m < n → ¬ y.Lv m r
theorem brR_mono {S S' : Rt → Prop} (h : ∀ r, S r → S' r) {p : Str} : ∀ {rl : Rule} {r : Rt}, BrR S p rl r → BrR S' p rl r
  | .fetch _ _, _, ⟨q, z, pr, h1, h2, h3, e⟩ => ⟨q, z, pr, h1, h _ h2, h _ h3, e⟩
  | .hand _ _, _, ⟨q, z, pr, h1, h2, h3, e⟩ => ⟨q, z, pr, h1, h _ h2, h _ h3, e⟩
  | .rais _ _, _, ⟨q, h1, e⟩ => ⟨q, h _ h1, e⟩
  | .meet _ _ _, _, ⟨q, h1, h2, e⟩ => ⟨q, h _ h1, h _ h2, e⟩
  | .make _, _, z => z
section
variable {y : Sys}
theorem Sys.br_mono {S S' : Rt → Prop} (h : ∀ r, S r → S' r) {r : Rt} (b : y.Br S r) : y.Br S' r := by
  obtain ⟨rl, h1, p, h2, h3⟩ := b
  exact ⟨rl, h1, p, h2, brR_mono h h3⟩
theorem Sys.lv_le {m n : Nat} {r : Rt} (h : m ≤ n) (l : y.Lv m r) : y.Lv n r := by
  induction n with
  | zero => have : m = 0 := by omega
            subst this; exact l
  | succ n ih =>
    by_cases e : m = n + 1
    · subst e; exact l
    · exact .inl (ih (by omega))
/-- what comes up brings what comes up -/
theorem Sys.br_com {r : Rt} (b : y.Br y.Com r) : y.Com r := by
  obtain ⟨rl, h1, p, h2, h3⟩ := b
  have two : ∀ {a b : Rt}, y.Com a → y.Com b → ∃ n, y.Lv n a ∧ y.Lv n b := fun {a b} ⟨m, ha⟩ ⟨n, hb⟩ => ⟨max m n, Sys.lv_le (Nat.le_max_left ..) ha, Sys.lv_le (Nat.le_max_right ..) hb⟩
  cases rl with
  | fetch a ps =>
    obtain ⟨q, z, pr, q1, q2, q3, e⟩ := h3
    obtain ⟨n, k1, k2⟩ := two q2 q3
    exact ⟨n + 1, .inr (.inl ⟨_, h1, p, h2, q, z, pr, q1, k1, k2, e⟩)⟩
  | hand a ps =>
    obtain ⟨q, z, pr, q1, q2, q3, e⟩ := h3
    obtain ⟨n, k1, k2⟩ := two q2 q3
    exact ⟨n + 1, .inr (.inl ⟨_, h1, p, h2, q, z, pr, q1, k1, k2, e⟩)⟩
  | rais a b =>
    obtain ⟨q, ⟨n, k1⟩, e⟩ := h3
    exact ⟨n + 1, .inr (.inl ⟨_, h1, p, h2, q, k1, e⟩)⟩
  | meet a b c =>
    obtain ⟨q, q1, q2, e⟩ := h3
    obtain ⟨n, k1, k2⟩ := two q1 q2
    exact ⟨n + 1, .inr (.inl ⟨_, h1, p, h2, q, k1, k2, e⟩)⟩
  | make ws => exact h3.elim
/-- the least set -/
theorem Sys.com_least {S : Rt → Prop} (hB : ∀ r, y.B r → S r) (hM : ∀ r, y.M r → S r) (hc : ∀ r, y.Br S r → S r) {r : Rt} (h : y.Com r) : S r := by
  obtain ⟨n, h⟩ := h
  induction n generalizing r with
  | zero => exact hB r h
  | succ n ih =>
    rcases h with h | h | ⟨_, h⟩
    · exact ih h
    · exact hc r (Sys.br_mono (fun r h => ih h) h)
    · exact hM r h
theorem Sys.com_B {r : Rt} (h : y.B r) : y.Com r := ⟨0, h⟩
theorem Sys.com_M {r : Rt} (h : y.M r) : y.Com r := ⟨1, .inr (.inr ⟨rfl, h⟩)⟩
/-- a round that brings nothing is the last -/
theorem Sys.lv_stop {k : Nat} (h : ∀ r, y.Lv (k + 1) r → y.Lv k r) {n : Nat} {r : Rt} (l : y.Lv n r) : y.Lv k r := by
  have step : ∀ n r, y.Lv (k + n) r → y.Lv k r := by
    intro n
    induction n with
    | zero => intro r l; exact l
    | succ n ih =>
      intro r l
      rcases l with l | l | ⟨e, l⟩
      · exact ih r l
      · exact h r (.inr (.inl (Sys.br_mono ih l)))
      · exact h r (.inr (.inr ⟨by have e : k + n = 0 := e; omega, l⟩))
  by_cases e : n ≤ k
  · exact Sys.lv_le e l
  · have e2 : n = k + (n - k) := by omega
    rw [e2] at l
    exact step _ r l
theorem Sys.com_fst {r : Rt} (h : y.Com r) : ∃ n, y.Fst n r := by
  obtain ⟨n, h⟩ := h
  induction n using Nat.strongRecOn with
  | ind n ih =>
    by_cases e : ∃ m, m < n ∧ y.Lv m r
    · obtain ⟨m, h1, h2⟩ := e
      exact ih m h1 h2
    · exact ⟨n, h, fun m hm hl => e ⟨m, hm, hl⟩⟩
theorem Sys.fst_uniq {m n : Nat} {r : Rt} (h1 : y.Fst m r) (h2 : y.Fst n r) : m = n := by
  rcases Nat.lt_trichotomy m n with h | h | h
  · exact absurd h1.1 (h2.2 m h)
  · exact h
  · exact absurd h2.1 (h1.2 n h)
theorem Sys.fst_le {m n : Nat} {r : Rt} (h1 : y.Fst m r) (h2 : y.Lv n r) : m ≤ n := by
  refine Nat.le_of_not_lt fun z => h1.2 n z h2
end
/-- more at the beginning: earlier -/
theorem Sys.lv_more {y z : Sys} (hr : y.rs = z.rs) (hp : ∀ p, y.P p → z.P p) (hb : ∀ r, y.B r → z.B r) (hm : ∀ r, y.M r → z.M r) : ∀ {n : Nat} {r : Rt}, y.Lv n r → z.Lv n r
  | 0, _, h => hb _ h
  | n + 1, _, .inl h => .inl (Sys.lv_more hr hp hb hm h)
  | n + 1, _, .inr (.inl ⟨rl, h1, p, h2, h3⟩) => .inr (.inl ⟨rl, hr ▸ h1, p, hp p h2, brR_mono (fun _ q => Sys.lv_more hr hp hb hm q) h3⟩)
  | n + 1, _, .inr (.inr ⟨e, h⟩) => .inr (.inr ⟨e, hm _ h⟩)
/-! ### bounds -/
def Rule.outs : Rule → List Str
  | .fetch _ ps => ps.map (·.2)
  | .hand _ ps => ps.map (·.2)
  | .rais _ b => [b]
  | .meet _ _ c => [c]
  | .make _ => []
def InU (NS WS : List Str) (r : Rt) : Prop := r.1 ∈ NS ∧ r.2.1 ∈ WS ∧ r.2.2 ∈ NS
structure Sys.Bd (y : Sys) (NS WS : List Str) : Prop where
  sz : NS.length * (WS.length * NS.length) ≤ 400
  okN : ∀ z ∈ NS, okT z
  okW : ∀ z ∈ WS, okT z
  bU : ∀ r, y.B r → InU NS WS r
  mU : ∀ r, y.M r → InU NS WS r
  ws : ∀ rl ∈ y.rs, ∀ z ∈ rl.outs, z ∈ WS
theorem brR_U {NS WS : List Str} {S : Rt → Prop} (h : ∀ r, S r → InU NS WS r) {p : Str} {rl : Rule} (hw : ∀ z ∈ rl.outs, z ∈ WS) {r : Rt} (b : BrR S p rl r) : InU NS WS r := by
  cases rl with
  | fetch a ps =>
    obtain ⟨q, z, pr, q1, q2, q3, rfl⟩ := b
    exact ⟨(h _ q2).1, hw _ (List.mem_map_of_mem q1), (h _ q3).2.2⟩
  | hand a ps =>
    obtain ⟨q, z, pr, q1, q2, q3, rfl⟩ := b
    exact ⟨(h _ q2).2.2, hw _ (List.mem_map_of_mem q1), (h _ q3).2.2⟩
  | rais a b =>
    obtain ⟨q, q1, rfl⟩ := b
    exact ⟨(h _ q1).1, hw _ (List.mem_singleton.mpr rfl), (h _ q1).2.2⟩
  | meet a b c =>
    obtain ⟨q, q1, q2, rfl⟩ := b
    exact ⟨(h _ q1).1, hw _ (List.mem_singleton.mpr rfl), (h _ q1).2.2⟩
  | make ws => exact b.elim
theorem Sys.br_U {y : Sys} {NS WS : List Str} (d : y.Bd NS WS) {S : Rt → Prop} (h : ∀ r, S r → InU NS WS r) {r : Rt} (b : y.Br S r) : InU NS WS r := by
  obtain ⟨rl, h1, p, h2, h3⟩ := b
  exact brR_U h (d.ws rl h1) h3
theorem Sys.com_U {y : Sys} {NS WS : List Str} (d : y.Bd NS WS) {r : Rt} (h : y.Com r) : InU NS WS r :=
  Sys.com_least (y := y) d.bU d.mU (fun r b => Sys.br_U d (fun _ q => q) b) h
def allU (NS WS : List Str) : List Rt := NS.flatMap fun a => WS.flatMap fun w => NS.map fun b => (a, w, b)
theorem mem_allU {NS WS : List Str} {r : Rt} (h : InU NS WS r) : r ∈ allU NS WS := by
  obtain ⟨a, w, b⟩ := r
  exact List.mem_flatMap.mpr ⟨a, h.1, List.mem_flatMap.mpr ⟨w, h.2.1, List.mem_map.mpr ⟨b, h.2.2, rfl⟩⟩⟩
theorem len_allU {NS WS : List Str} : (allU NS WS).length ≤ NS.length * (WS.length * NS.length) :=
  len_flatB fun a _ => len_flatB fun w _ => Nat.le_of_eq (List.length_map _)
theorem nodup_sub_len {β : Type} [DecidableEq β] : ∀ {l u : List β}, l.Nodup → (∀ x ∈ l, x ∈ u) → l.length ≤ u.length
  | [], _, _, _ => Nat.zero_le _
  | a :: l, u, n, h => by
    rw [List.nodup_cons] at n
    have ha := h a (List.mem_cons_self ..)
    have ih := nodup_sub_len (l := l) (u := u.erase a) n.2 fun x hx => by
      have hxa : x ≠ a := fun z => n.1 (z ▸ hx)
      exact (List.mem_erase_of_ne hxa).mpr (h x (List.mem_cons_of_mem _ hx))
    have e := List.length_erase_of_mem ha
    have hp := List.length_pos_of_mem ha
    rw [List.length_cons]
    omega
theorem Sys.len_U {y : Sys} {NS WS : List Str} (d : y.Bd NS WS) {l : List Rt} (n : l.Nodup) (h : ∀ r ∈ l, InU NS WS r) : l.length ≤ 400 :=
  Nat.le_trans (nodup_sub_len n fun r hr => mem_allU (h r hr)) (Nat.le_trans len_allU d.sz)
/-! ### the lists of deeds -/
theorem mem_own {rts : List Rt} {p : Str} {x : Str × Str} : x ∈ own rts p ↔ (p, x.1, x.2) ∈ rts := by
  refine ⟨own_mem, fun h => ?_⟩
  exact List.mem_map.mpr ⟨_, List.mem_filter.mpr ⟨h, by simp⟩, rfl⟩
theorem got_dby {r : Rule} {n : Nat} {p : Str} {rts : List Rt} {t : Rt} : (∃ d ∈ dby r n p rts, t ∈ (agOf r d).2) ↔ BrR (fun r => r ∈ rts) p r t := by
  constructor
  · rintro ⟨d, hd, ht⟩
    obtain ⟨fo, h1, h2⟩ := List.mem_flatMap.mp hd
    have h1 := mem_own.mp h1
    unfold dOne at h2
    split at h2
    · rename_i hw
      cases r with
      | fetch w ps =>
        have hw : fo.1 = w := hw
        obtain ⟨so, h3, h4⟩ := List.mem_flatMap.mp h2
        have h3 := mem_own.mp h3
        obtain ⟨pr, h5, rfl⟩ := List.mem_map.mp h4
        obtain ⟨h6, h7⟩ := List.mem_filter.mp h5
        have h7 : pr.1 = so.1 := of_decide_eq_true h7
        have ht : t = (p, pr.2, so.2) := List.mem_singleton.mp ht
        exact ⟨fo.2, so.2, pr, h6, by rw [← hw]; exact h1, by rw [h7]; exact h3, ht⟩
      | hand w ps =>
        have hw : fo.1 = w := hw
        obtain ⟨so, h3, h4⟩ := List.mem_flatMap.mp h2
        have h3 := mem_own.mp h3
        obtain ⟨pr, h5, rfl⟩ := List.mem_map.mp h4
        obtain ⟨h6, h7⟩ := List.mem_filter.mp h5
        have h7 : pr.1 = so.1 := of_decide_eq_true h7
        have ht : t = (fo.2, pr.2, so.2) := List.mem_singleton.mp ht
        exact ⟨fo.2, so.2, pr, h6, by rw [← hw]; exact h1, by rw [h7]; exact h3, ht⟩
      | rais a b =>
        have hw : fo.1 = a := hw
        have := List.mem_singleton.mp h2
        subst this
        have ht : t = (p, b, fo.2) := List.mem_singleton.mp ht
        exact ⟨fo.2, by rw [← hw]; exact h1, ht⟩
      | meet a b c =>
        have hw : fo.1 = a := hw
        have h2 : d ∈ (if (b, fo.2) ∈ own rts p then [Deed.three n p fo.2] else []) := h2
        split at h2
        · rename_i hb
          have := List.mem_singleton.mp h2
          subst this
          have ht : t = (p, c, fo.2) := List.mem_singleton.mp ht
          exact ⟨fo.2, by rw [← hw]; exact h1, mem_own.mp hb, ht⟩
        · simp at h2
      | make ws => simp at h2
    · simp at h2
  · intro h
    cases r with
    | fetch w ps =>
      obtain ⟨q, z, pr, h1, h2, h3, rfl⟩ := h
      refine ⟨.five n p q z pr, List.mem_flatMap.mpr ⟨(w, q), mem_own.mpr h2, ?_⟩, List.mem_singleton.mpr rfl⟩
      unfold dOne
      rw [if_pos (show (w, q).1 = (Rule.fetch w ps).word from rfl)]
      exact List.mem_flatMap.mpr ⟨(pr.1, z), mem_own.mpr h3, List.mem_map.mpr ⟨pr, List.mem_filter.mpr ⟨h1, by simp⟩, rfl⟩⟩
    | hand w ps =>
      obtain ⟨q, z, pr, h1, h2, h3, rfl⟩ := h
      refine ⟨.five n p q z pr, List.mem_flatMap.mpr ⟨(w, q), mem_own.mpr h2, ?_⟩, List.mem_singleton.mpr rfl⟩
      unfold dOne
      rw [if_pos (show (w, q).1 = (Rule.hand w ps).word from rfl)]
      exact List.mem_flatMap.mpr ⟨(pr.1, z), mem_own.mpr h3, List.mem_map.mpr ⟨pr, List.mem_filter.mpr ⟨h1, by simp⟩, rfl⟩⟩
    | rais a b =>
      obtain ⟨q, h1, rfl⟩ := h
      refine ⟨.three n p q, List.mem_flatMap.mpr ⟨(a, q), mem_own.mpr h1, ?_⟩, List.mem_singleton.mpr rfl⟩
      unfold dOne
      rw [if_pos (show (a, q).1 = (Rule.rais a b).word from rfl)]
      exact List.mem_singleton.mpr rfl
    | meet a b c =>
      obtain ⟨q, h1, h2, rfl⟩ := h
      refine ⟨.three n p q, List.mem_flatMap.mpr ⟨(a, q), mem_own.mpr h1, ?_⟩, List.mem_singleton.mpr rfl⟩
      unfold dOne
      rw [if_pos (show (a, q).1 = (Rule.meet a b c).word from rfl)]
      show Deed.three n p q ∈ (if (b, q) ∈ own rts p then [Deed.three n p q] else [])
      rw [if_pos (mem_own.mpr h2)]
      exact List.mem_singleton.mpr rfl
    | make ws => exact h.elim
theorem got_iff {i : DoIn} {t : Rt} : t ∈ i.got ↔ ∃ rl ∈ i.rs, ∃ p ∈ i.ppl, BrR (fun r => r ∈ i.rts) p rl t := by
  constructor
  · intro h
    obtain ⟨x, h1, h2⟩ := List.mem_flatMap.mp h
    obtain ⟨r, n, p, q1, q2, q3, d, q4, rfl⟩ := mem_all.mp h1
    exact ⟨r, List.mem_of_getElem? q1, p, q3, got_dby.mp ⟨d, q4, h2⟩⟩
  · rintro ⟨rl, h1, p, h2, h3⟩
    obtain ⟨n, hn⟩ := List.getElem?_of_mem h1
    obtain ⟨d, h4, h5⟩ := got_dby (n := n).mpr h3
    refine List.mem_flatMap.mpr ⟨(d, agOf rl d), mem_all.mpr ⟨rl, n, p, hn, fun z => ?_, h2, d, h4, rfl⟩, h5⟩
    cases rl with
    | make ws => exact h3
    | fetch a b => exact absurd z (by show ¬ ("fetch" : Str) = "make"; decide)
    | hand a b => exact absurd z (by show ¬ ("hand" : Str) = "make"; decide)
    | rais a b => exact absurd z (by show ¬ ("raise" : Str) = "make"; decide)
    | meet a b c => exact absurd z (by show ¬ ("meet" : Str) = "make"; decide)
/-- how many deeds there are -/
def Rule.prs : Rule → Nat
  | .fetch _ ps => ps.length
  | .hand _ ps => ps.length
  | _ => 1
theorem all_len {i : DoIn} (h1 : i.rs.length ≤ 6) (h2 : ∀ r ∈ i.rs, r.prs ≤ 2) (h3 : i.ppl.length ≤ 5) (h4 : i.rts.length ≤ 400) : i.all.length ≤ 16000000 := by
  have o : ∀ r ∈ i.rs, ∀ n p fo, (dOne r n p i.rts fo).length ≤ 800 := fun r hr n p fo => by
    have hp := h2 r hr
    unfold dOne
    split
    · cases r with
      | fetch w ps =>
        have hp : ps.length ≤ 2 := hp
        have k1 := len_flatB (l := own i.rts fo.2) (n := 2) (f := fiveOf n p fo.2 ps) fun b _ => Nat.le_trans len_five hp
        have k2 := @own_len i.rts fo.2
        show ((own i.rts fo.2).flatMap (fiveOf n p fo.2 ps)).length ≤ _
        omega
      | hand w ps =>
        have hp : ps.length ≤ 2 := hp
        have k1 := len_flatB (l := own i.rts p) (n := 2) (f := fiveOf n p fo.2 ps) fun b _ => Nat.le_trans len_five hp
        have k2 := @own_len i.rts p
        show ((own i.rts p).flatMap (fiveOf n p fo.2 ps)).length ≤ _
        omega
      | rais a b => exact Nat.le_trans (show _ ≤ 1 from Nat.le_refl _) (by decide)
      | meet a x c =>
        show (if (x, fo.2) ∈ own i.rts p then [Deed.three n p fo.2] else []).length ≤ _
        split
        · exact Nat.le_trans (show _ ≤ 1 from Nat.le_refl _) (by decide)
        · exact Nat.zero_le _
      | make ws => exact Nat.zero_le _
    · exact Nat.zero_le _
  have q : ∀ x ∈ i.rs.zipIdx, (doR i.rts i.ppl x).length ≤ 5 * 320000 := fun x hx => by
    obtain ⟨r, n⟩ := x
    have hr := List.mem_of_getElem? (List.mem_zipIdx_iff_getElem?.mp hx)
    unfold doR
    split
    · exact Nat.zero_le _
    · refine Nat.le_trans (len_flatB (n := 320000) fun p _ => ?_) (Nat.mul_le_mul_right _ h3)
      show (doP r n i.rts p).length ≤ _
      unfold doP
      rw [List.length_map]
      refine Nat.le_trans (len_flatB (n := 800) fun fo _ => o r hr n p fo) ?_
      have := @own_len i.rts p
      omega
  have z := len_flatB (l := i.rs.zipIdx) (n := 5 * 320000) q
  have : i.all.length ≤ i.rs.zipIdx.length * (5 * 320000) := z
  rw [List.length_zipIdx] at this
  omega
end Hk

set_option Elab.async false
set_option linter.all false
set_option maxRecDepth 100000
set_option maxHeartbeats 1000000
/-! Lent dicts; closure. -/
namespace Hk
open PySem PySem.Spec PyProof.Rows GenW L2
theorem sc_closure : FnScope ["policy", "state", "people", "found", "more", "deed", "asked", "got", "right"] ["policy", "state", "people"] (defScope s_closure) := ⟨rfl, rfl, rfl, by decide +kernel, rfl, by decide +kernel, by decide +kernel⟩
/-- a source, at this heap -/
def SrcAt {β : Type} (wi : TI) (σ : L2.St) (G H : Hp) (bs : List β) (I : β → VP) : Prop := ∀ R : It → Hp → Prop,
  (∀ J G1 H1, Gr G H G1 H1 → Walk J bs.length (fun H' => Same G1 H') (fun i H' x H2 => ∀ G', Same G1 G' → Same G' H' → ∃ G2 b, Gr G' H' G2 H2 ∧ bs[i]? = some b ∧ I b x G2) → R J H1) → wi σ H R
abbrev keys (l : List (Rt × V)) : List Rt := l.map (·.1)
section
variable {K : PySem.W.Frag} {σ : L2.St} {G H : Hp} {ta tb te tk tv : TE} {tt : TT} {t u : TS} {β : Type} {bs : List β} {enc : β → PyData} {l : List (Rt × V)} {d : Addr} {D : Ends}
theorem SrcB.at {wi : TI} {I : β → VP} (h : SrcB wi σ G bs I) (s : Same G H) : SrcAt wi σ G H bs I := fun R k => h H s R k
/-- a new list as a source -/
theorem src_new (h : ∀ Q : VK, (∀ p xs G2 H2, Gr G H G2 H2 → H p = none → G2 p = none → H2 p = some (.lst xs) → DpAll K G2 xs (bs.map enc) → Q (.ref p) H2) → te σ H Q) : SrcAt (iList K te) σ G H bs (fun b => DD K (enc b)) := fun R k =>
  h _ fun p xs G2 H2 g h0 hg e hd => by
    refine ⟨p, rfl, ⟨xs, SqL.of e⟩, k _ (upd G2 p (.lst xs)) H2 (g.keepIt h0 hg e) ?_⟩
    have hl : xs.length = bs.length := by rw [DpAll.len hd, List.length_map]
    have hd2 := DpAll.up (same_new (o := .lst xs) hg) _ _ hd
    have e2 : (upd G2 p (.lst xs)) p = some (.lst xs) := upd_same
    rw [← hl]
    refine walk_list.mono (fun H' s' => s'.seq (SqL.of e2)) fun i H' x H2 hi s' y G' s1 s2 => ?_
    obtain ⟨ey, hx⟩ := y
    obtain ⟨b, hb, hdb⟩ := dpa_map hd2 hx
    exact ⟨G', b, by rw [ey]; exact Gr.refl s2, hb, Dp.up s1 _ _ hdb⟩
theorem for_at {wi : TI} {g : TG} {tb : TS} {I : β → VP} (src : SrcAt wi σ G H bs I)
    (k : ∀ G1 H1, Gr G H G1 H1 → ∃ Pv : Nat → L2.St → Hp → Hp → Prop, Pv 0 σ G1 H1 ∧
      (∀ i b σ' G' H', bs[i]? = some b → Same G1 G' → Same G' H' → Pv i σ' G' H' → ∀ x G2 H2, Gr G' H' G2 H2 → I b x G2 → g x σ' H2 fun σ2 H3 =>
        tb { D with nx := fun σ'' H'' => ∃ G'', Same G1 G'' ∧ Same G'' H'' ∧ Pv (i + 1) σ'' G'' H'', ct := fun σ'' H'' => ∃ G'', Same G1 G'' ∧ Same G'' H'' ∧ Pv (i + 1) σ'' G'' H'', bk := D.nx } σ2 H3) ∧
      (∀ σ' G' H', Same G1 G' → Same G' H' → Pv bs.length σ' G' H' → D.nx σ' H')) : tFor wi g tb D σ H :=
  src _ fun J G1 H1 g1 w => by
    obtain ⟨Pv, h0, hs, hd⟩ := k G1 H1 g1
    refine for_it w (fun i σ' H' => ∃ G', Same G1 G' ∧ Same G' H' ∧ Pv i σ' G' H') ⟨G1, Same.refl _, g1.sub, h0⟩ (fun i σ' H' _ ⟨G', s1, s2, _⟩ => s1.trans s2) ?_ ?_
    · rintro i x σ' H' H2 hi ⟨G', s1, s2, p⟩ y
      obtain ⟨G2, b, g2, hb, ib⟩ := y G' s1 s2
      exact hs i b σ' G' H' hb s1 s2 p x G2 H2 g2 ib
    · rintro σ' H' ⟨G', s1, s2, p⟩
      exact hd σ' G' H' s1 s2 p
/-! ### a dict of ours is lent for one expression -/
theorem nt_dT {ys : List V} : DTo l ≠ HO.tup ys := fun z => nomatch z
theorem EvM.lend {R R' : HO → Hp → Prop} (h : EvM te σ (upd G d (DTo l)) R) (s : Same G H) (hd : H d = some (DTo l)) (hg : G d = none) (f : ∀ o G', G' d = some (DTo l) → R o G' → R' o (del G' d)) {Q : VK}
    (k : ∀ p o G2 H2, Gr G H G2 H2 → H p = none → G2 p = none → G2 d = none → H2 d = some (DTo l) → H2 p = some o → R' o G2 → Q (.ref p) H2) : te σ H Q :=
  h H (Hk.lend s hd) Q fun p o G2 H2 g h0 hgp e r => by
    have hpd : p ≠ d := fun z => by rw [z, hd] at h0; cases h0
    exact k p o (del G2 d) H2 (g.back hg) h0 (by rw [del_ne hpd]; exact hgp) del_same (g.hh _ _ hd) e (f o G2 (g.gg _ _ upd_same) r)
theorem EvP.lend {P P' : VP} (h : EvP te σ (upd G d (DTo l)) P) (s : Same G H) (hd : H d = some (DTo l)) (hg : G d = none) (f : ∀ v G', G' d = some (DTo l) → P v G' → P' v (del G' d)) {Q : VK}
    (k : ∀ v G2 H2, Gr G H G2 H2 → G2 d = none → H2 d = some (DTo l) → P' v G2 → Q v H2) : te σ H Q :=
  h H (Hk.lend s hd) Q fun v G2 H2 g p => k v (del G2 d) H2 (g.back hg) del_same (g.hh _ _ hd) (f v G2 (g.gg _ _ upd_same) p)
theorem run_ifL {b : Bool} (h : EvB tt σ (upd G d (DTo l)) b) (s : Same G H) (hd : H d = some (DTo l)) (hg : G d = none) (h1 : b = true → ∀ G2 H2, Gr G H G2 H2 → G2 d = none → H2 d = some (DTo l) → t D σ H2) (h2 : b = false → ∀ G2 H2, Gr G H G2 H2 → G2 d = none → H2 d = some (DTo l) → u D σ H2) : tIfS tt t u D σ H :=
  h H (Hk.lend s hd) _ fun G2 H2 g => by
    cases b with
    | true => exact h1 rfl (del G2 d) H2 (g.back hg) del_same (g.hh _ _ hd)
    | false => exact h2 rfl (del G2 d) H2 (g.back hg) del_same (g.hh _ _ hd)
theorem dct_lent {i : Nat} (e : σ[i]? = some (some (.ref d))) : EvP (tVar i) σ (upd G d (DTo l)) (DctV l) := ev_var e ⟨d, rfl, upd_same⟩
theorem up_lent (hg : G d = none) : Same G (upd G d (DTo l)) := same_new hg
theorem dpa_back {G' : Hp} {vs : List V} {ds : List PyData} (e : G' d = some (DTo l)) (h : DpAll K G' vs ds) : DpAll K (del G' d) vs ds := dpa_del e nolt_dT ds vs h
/-- d[r] = v, d ours, of v only P is known -/
theorem seq_dputP {i : Nat} {G0 H0 : Hp} {P : VP} {r : Rt} (g0 : Gr G0 H0 G H) (hk : EvP tk σ G (DD K (rD r))) (hv : EvP tv σ G P) (e : σ[i]? = some (some (.ref d))) (hd : H d = some (DTo l)) (hg : G d = none) (h0 : H0 d = none) (hl : l.length ≤ 1000000)
    (k : ∀ v G2 H2, Gr G0 H0 G2 H2 → G2 d = none → Same G G2 → H2 d = some (DTo (putK l r v)) → u D σ H2) : tSeq (sDPut (tVar i) tk tv) u D σ H :=
  hv H g0.sub _ fun z G1 H1 g1 ez => ⟨.ref d, e, (hk.up mon_dd g1.gg) H1 g1.sub _ fun y G2 H2 g2 p2 => by
    obtain ⟨qa, e2, h2⟩ := right_at p2
    have g := g1.trans g2
    have hg2 : G2 d = none := g.old d _ hg hd fun _ z => nomatch z
    refine ⟨d, upd H2 d (DTo (putK l r z)), rfl, ?_, k z G2 _ ((g0.trans g).mut h0 hg2) hg2 g.gg upd_same⟩
    rw [e2]
    show DPut H2 d (.ref qa) z (upd H2 d (.dT (mR (putK l r z))))
    rw [← put_mR]
    exact DPut.t (g.hh _ _ hd) (g2.sub _ _ h2) (by rw [len_mR, sizeLine_eq]; omega)⟩
theorem seq_parMC {i j : Nat} {c : V} {R : HO → Hp → Prop} (h : EvM ta σ G R) (s : Same G H) (k : ∀ p o G2 H2, Gr G H G2 H2 → H p = none → G2 p = none → H2 p = some o → R o G2 → u D ((σ.set i (some (.ref p))).set j (some c)) H2) : tSeq (tPar i j (tCons ta (tCons (tC c) tNil))) u D σ H :=
  h H s _ fun p o G2 H2 g h0 hg e r => ⟨.ref p, c, rfl, k p o G2 H2 g h0 hg e r⟩
end
theorem tgt_22 {K : PySem.W.Frag} {σ : L2.St} {G : Hp} {i j k : Nat} {v : V} {d1 d2 d3 : PyData} (h : Dp K G v (.tuple [d1, .tuple [d2, d3]])) : ∃ v1 v2 v3, Dp K G v1 d1 ∧ Dp K G v2 d2 ∧ Dp K G v3 d3 ∧
    Tgt (gTup K 2 (gCons (gName i) (gCons (gTup K 2 (gCons (gName j) (gCons (gName k) gNil))) gNil))) v σ (((σ.set i (some v1)).set j (some v2)).set k (some v3)) G := by
  obtain ⟨a, v1, w2, rfl, t1, p1, p2⟩ := dp_tup2 h
  obtain ⟨b, v2, v3, rfl, t2, p3, p4⟩ := dp_tup2 p2
  exact ⟨v1, v2, v3, p1, p3, p4, tgt_tup t1 rfl fun H s Q q => ⟨v1, _, rfl, ⟨.ref b, _, rfl, b, _, rfl, Hk.Same.seqT s t2, rfl, ⟨v2, _, rfl, ⟨v3, _, rfl, rfl, rfl, q⟩⟩⟩⟩⟩
/-! ### keys -/
theorem keys_put {l : List (Rt × V)} {r : Rt} {v : V} : keys (putK l r v) = if r ∈ keys l then keys l else keys l ++ [r] := by
  unfold putK keys
  have e : (l.any fun kv => decide (kv.1 = r)) = true ↔ r ∈ l.map (·.1) := by
    rw [List.any_eq_true]
    constructor
    · rintro ⟨x, hx, h⟩
      have := of_decide_eq_true h
      exact List.mem_map.mpr ⟨x, hx, this⟩
    · intro h
      obtain ⟨x, hx, h⟩ := List.mem_map.mp h
      exact ⟨x, hx, by simp [h]⟩
  by_cases h : r ∈ l.map (·.1)
  · rw [if_pos (e.mpr h), if_pos h, List.map_map]
    congr 1
    funext p
    show (if p.1 = r then (p.1, v) else p).1 = p.1
    split <;> rfl
  · rw [if_neg (fun z => h (e.mp z)), if_neg h, List.map_append]
    rfl
theorem mem_keys_put {l : List (Rt × V)} {r x : Rt} {v : V} : x ∈ keys (putK l r v) ↔ x ∈ keys l ∨ x = r := by
  rw [keys_put]
  split
  · rename_i h
    exact ⟨.inl, fun z => z.elim id fun e => e ▸ h⟩
  · rw [List.mem_append, List.mem_singleton]
theorem nodup_put {l : List (Rt × V)} {r : Rt} {v : V} (n : (keys l).Nodup) : (keys (putK l r v)).Nodup := by
  rw [keys_put]
  split
  · exact n
  · rename_i h
    exact List.nodup_append.mpr ⟨n, List.nodup_cons.mpr ⟨by simp, .nil⟩, fun a ha b hb => by rw [List.mem_singleton.mp hb]; exact fun z => h (z ▸ ha)⟩
theorem len_keys {l : List (Rt × V)} : (keys l).length = l.length := List.length_map _
theorem val_some {l : List (Rt × V)} {r : Rt} : (valV l r).isSome = decide (r ∈ keys l) := by
  by_cases h : r ∈ keys l
  · rw [decide_eq_true h]
    cases e : valV l r with
    | none => exact absurd h (valV_not e)
    | some v => rfl
  · rw [decide_eq_false h]
    cases e : valV l r with
    | none => rfl
    | some v => exact absurd (valV_in e) h
theorem putAll_keys {β : Type} {key : β → Rt} {val : β → V} : ∀ {l : List β} {acc : List (Rt × V)}, (keys acc).Nodup → (keys (putAll key val l acc)).Nodup ∧ ∀ r, r ∈ keys (putAll key val l acc) ↔ r ∈ keys acc ∨ r ∈ l.map key
  | [], acc, n => ⟨n, fun r => by simp [putAll]⟩
  | b :: l, acc, n => by
    obtain ⟨h1, h2⟩ := putAll_keys (key := key) (val := val) (l := l) (acc := putK acc (key b) (val b)) (nodup_put n)
    refine ⟨h1, fun r => ?_⟩
    rw [show putAll key val (b :: l) acc = putAll key val l (putK acc (key b) (val b)) from rfl, h2, mem_keys_put, List.map_cons, List.mem_cons]
    constructor
    · rintro ((h | h) | h)
      · exact .inl h
      · exact .inr (.inl h)
      · exact .inr (.inr h)
    · rintro (h | h | h)
      · exact .inl (.inl h)
      · exact .inl (.inr h)
      · exact .inr h
/-! ### closure -/
def sysOf (i : BegIn) : Sys := ⟨i.rs, fun p => p ∈ i.ppl, fun r => r ∈ i.st.rts, fun r => ∃ ws, madeOf i.rs = some ws ∧ r ∈ madeR ws i.ppl⟩
structure CloOk (i : BegIn) : Prop where
  beg : i.Ok
  six : i.rs.length ≤ 6
  two : ∀ r ∈ i.rs, r.prs ≤ 2
  fiv : i.ppl.length ≤ 5
  bd : ∃ NS WS, (sysOf i).Bd NS WS
theorem mem_begL {i : BegIn} {r : Rt} : r ∈ begL i.st.rts (madeOf i.rs) i.ppl ↔ (sysOf i).B r ∨ (sysOf i).M r := by
  unfold begL
  rw [List.mem_append]
  cases e : madeOf i.rs with
  | none => simp [sysOf, e]
  | some ws => simp [sysOf, e]
theorem CloOk.lap {i : BegIn} (ok : CloOk i) {l : List Rt} (n : l.Nodup) (h : ∀ r ∈ l, (sysOf i).Com r) : l.length ≤ 400 ∧ (⟨i.rs, l, i.ppl⟩ : DoIn).Ok := by
  obtain ⟨NS, WS, bd⟩ := ok.bd
  have hu : ∀ r ∈ l, InU NS WS r := fun r hr => Sys.com_U bd (h r hr)
  have hl := Sys.len_U bd n hu
  exact ⟨hl, ok.beg.pol.ok, hl, fun r hr => ⟨bd.okN _ (hu r hr).1, bd.okW _ (hu r hr).2.1, bd.okN _ (hu r hr).2.2⟩, all_len (i := ⟨i.rs, l, i.ppl⟩) ok.six ok.two ok.fiv hl⟩
theorem br_got {i : BegIn} {l : List Rt} {r : Rt} : r ∈ (⟨i.rs, l, i.ppl⟩ : DoIn).got ↔ (sysOf i).Br (fun r => r ∈ l) r := got_iff
def CloPost (i : BegIn) (o : HO) : Prop := ∃ l, o = DTo l ∧ (keys l).Nodup ∧ ∀ r, r ∈ keys l ↔ (sysOf i).Com r
def sp_closure (K : PySem.W.Frag) (S Po : Addr) : Sp := SpM (fun (i : BegIn) vs G => ∃ v1 v2 v3, vs = [v1, v2, v3] ∧ PoV K Po i.rs v1 G ∧ StV K S i.st v2 G ∧ Dp K G v3 (.list (i.ppl.map sD)) ∧ CloOk i) (fun i o _ => CloPost i o)
/-- within one lap -/
structure ClI (y : Sys) (l l' : List (Rt × V)) (mo : Bool) : Prop where
  nd : (keys l').Nodup
  sub : ∀ r ∈ keys l, r ∈ keys l'
  com : ∀ r ∈ keys l', y.Com r
  ff : mo = false → l' = l
  tt : mo = true → l.length < l'.length
theorem ClI.put {y : Sys} {l l' : List (Rt × V)} {mo : Bool} {r : Rt} {v : V} (c : ClI y l l' mo) (hr : r ∉ keys l') (hc : y.Com r) : ClI y l (putK l' r v) true := by
  have hlen : (putK l' r v).length = l'.length + 1 := by
    have := len_keys (l := putK l' r v)
    rw [keys_put, if_neg hr, List.length_append, List.length_singleton, len_keys] at this
    omega
  refine ⟨nodup_put c.nd, fun x hx => mem_keys_put.mpr (.inl (c.sub x hx)), fun x hx => ?_, (fun z => nomatch z), fun _ => ?_⟩
  · rcases mem_keys_put.mp hx with z | z
    · exact c.com x z
    · exact z ▸ hc
  · cases mo with
    | false => rw [c.ff rfl] at hlen ⊢; omega
    | true => have := c.tt rfl; omega
section
variable {P : Program} {w : World} {K : PySem.W.Frag} {mg : Str → Option Value} {base : Heap} {S Po : Addr} (T : Tx K mg S Po)
include T
theorem ok_closure : Fn P w K mg base 9 "closure" ["policy", "state", "people"] (sp_closure K S Po) := by
  obtain ⟨f_beginning, fd_beginning, G_beginning, m_beginning, k_beginning, b_beginning⟩ := (ok_beginning (P := P) (w := w) (base := base) T)
  obtain ⟨f_deeds_over, fd_deeds_over, G_deeds_over, m_deeds_over, k_deeds_over, b_deeds_over⟩ := (ok_deeds_over (P := P) (w := w) (base := base) T)
  refine fn_mk (N := ["policy", "state", "people", "found", "more", "deed", "asked", "got", "right"]) T.f_closure (fun F => F.bindsN fun _ _ _ _ _ _ us hl => match us, hl with | [_, _, _], _ => rfl) sc_closure (fun vs H Q E h => ?_) fun f cdv A outer s H vs Q E hr h => ?_
  · obtain ⟨n, G, sm, ⟨v1, v2, v3, rfl, _⟩, _⟩ := h
    rfl
  · obtain ⟨i, G, sm, ⟨v1, v2, v3, rfl, h1, h2, h3, ok⟩, q⟩ := h
    have hu := hu_of hr
    refine ⟨_, PSs.nox (pss_cons (ps_par (i := 3) (j := 4) rfl sc_closure.nd rfl rfl (by decide) rfl rfl (pa_cons (pe_call G_beginning (hr.mono (by decide)) (by rfl) m_beginning k_beginning b_beginning .nil pass0 (pa_cons (pv 0) (pa_cons (pv 1) (pa_cons (pv 2) pa_nil)))) (pa_cons pe_bl pa_nil)) (by rfl))
    (pss_cons (ps_while PassesOwn.never (pt_val (pv 4))
    (pss_cons (ps_set (i := 4) sc_closure.nd rfl (Or.inl rfl) pe_bl)
    (pss_one (ps_for PassesOwn.never rfl (pi_list (pe_listY (pgy_call G_deeds_over (hr.mono (by decide)) (by rfl) m_deeds_over k_deeds_over b_deeds_over .nil (pa_cons (pv 0) (pa_cons (pe_callTy (call_list_dT rfl) (by rfl) T.b_list (by decide +kernel) (pa_cons (pv 3) pa_nil)) (pa_cons (pv 2) pa_nil)))) (hr.mono (by decide)) (by rfl) T.b_list (by decide +kernel))) (pg_tup rfl (pgs_cons (pg_name (i := 5) sc_closure.nd rfl (Or.inl rfl)) (pgs_cons (pg_tup rfl (pgs_cons (pg_name (i := 6) sc_closure.nd rfl (Or.inl rfl)) (pgs_cons (pg_name (i := 7) sc_closure.nd rfl (Or.inl rfl)) pgs_nil))) pgs_nil)))
    (pss_one (ps_for PassesOwn.never rfl (pi_list (pv 7)) (pg_name (i := 8) sc_closure.nd rfl (Or.inl rfl))
    (pss_one (ps_if (pt_cmp (pc_dnotin hu (pv 8) (pv 3)))
    (pss_cons (ps_dput hu (pv 3) (pv 8) (pe_tup (pa_cons (pv 5) (pa_cons (pv 6) pa_nil))) rfl)
    (pss_one (ps_set (i := 4) sc_closure.nd rfl (Or.inl rfl) pe_bl))) pss_nil))))))))
    (pss_one (ps_ret (pv 3))))), ?_⟩
    refine seq_parMC (em_call i fun Ha sa Q q => ⟨v1, rfl, v2, rfl, v3, rfl, q _ G Ha (Gr.refl sa) ⟨v1, v2, v3, rfl, h1, h2, h3, ok.beg⟩⟩) sm fun d o G1 H1 g1 h0 hg e er => ?_
    subst er
    obtain ⟨n1, m1⟩ := putAll_keys (key := fun (r : Rt) => r) (val := fun _ => V.non) (l := begL i.st.rts (madeOf i.rs) i.ppl) (acc := []) .nil
    have m1 : ∀ r, r ∈ keys (putN (begL i.st.rts (madeOf i.rs) i.ppl)) ↔ (sysOf i).B r ∨ (sysOf i).M r := fun r => by
      rw [m1, List.map_id', ← mem_begL]
      simp
    let W : Nat → L2.St → Hp → Prop := fun m σ' H' => ∃ G' l mo a b c e, Gr G H G' H' ∧ G' d = none ∧ H' d = some (DTo l) ∧ (keys l).Nodup ∧ (∀ r ∈ keys l, (sysOf i).Com r) ∧ (∀ r, (sysOf i).B r ∨ (sysOf i).M r → r ∈ keys l) ∧
      σ' = [some v1, some v2, some v3, some (.ref d), some (.bl mo), a, b, c, e] ∧ (mo = false → ∀ r, (sysOf i).Br (fun r => r ∈ keys l) r → r ∈ keys l) ∧ m = if mo = true then 500 - l.length else 0
    refine ⟨W, ⟨_, G1, _, true, _, _, _, _, g1, hg, e, n1, fun r hr => ((m1 r).mp hr).elim Sys.com_B Sys.com_M, fun r hr => (m1 r).mpr hr, rfl, (fun z => nomatch z), rfl⟩, ?_⟩
    rintro m σ' H' ⟨G', l, mo, a5, a6, a7, a8, gp, hgd, hd, nl, cl, bl, rfl, fin, rfl⟩
    obtain ⟨ll, dok⟩ := ok.lap nl cl
    rw [len_keys] at ll
    have bt : EvB (tTest (tVar 4)) [some v1, some v2, some v3, some (.ref d), some (.bl mo), a5, a6, a7, a8] G' mo := eb_test (ev_var rfl rfl)
    refine bt H' gp.sub _ fun G2 H2 g2 => ?_
    have gp2 := gp.trans g2
    have hgd2 := g2.old _ _ hgd hd fun _ => nt_dT
    have hd2 := g2.hh _ _ hd
    cases mo with
    | false =>
      rw [if_neg (by simp)]
      exact ⟨.ref d, rfl, q d _ G2 H2 gp2 h0 hgd2 hd2 ⟨l, rfl, nl, fun r => ⟨cl r, fun hr => Sys.com_least (y := sysOf i) (fun r hb => bl r (.inl hb)) (fun r hm => bl r (.inr hm)) (fun r hb => fin rfl r hb) hr⟩⟩⟩
    | true =>
      rw [if_pos rfl]
      refine ⟨fun σ' H' => ∃ m', m' < (if true = true then 500 - l.length else 0) ∧ W m' σ' H', fun _ _ z => z, ?_⟩
      rw [if_pos rfl]
      have h12 := mon_po _ _ _ gp2.gg h1
      have h32 := Dp.up gp2.gg _ _ h3
      refine for_at (σ := [some v1, some v2, some v3, some (.ref d), some (.bl false), a5, a6, a7, a8]) (bs := (⟨i.rs, keys l, i.ppl⟩ : DoIn).all) (src_new (K := K) (enc := itemD) fun Q k => EvM.lend (R' := fun o G' => ∃ xs, o = .lst xs ∧ DpAll K G' xs ((⟨i.rs, keys l, i.ppl⟩ : DoIn).all.map itemD))
        (em_listY (Po := Po) ⟨i.rs, keys l, i.ppl⟩ (ea3 mon_po mon_dd mon_dd (ev_var rfl (mon_po _ _ _ (up_lent hgd2) h12)) (ev_listD (K := K) (dct_R (dct_lent rfl))) (ev_var rfl (Dp.up (up_lent hgd2) _ _ h32)) fun a b c G' _ q1 q2 q3 => ⟨a, b, c, rfl, q1, q2, q3, dok⟩)) gp2.sub hd2 hgd2
        (fun o G' eg ⟨xs, eo, hx⟩ => ⟨xs, eo, dpa_back eg hx⟩) fun p o G3 H3 g3 k1 k2 k3 k4 k5 ⟨xs, eo, hx⟩ => k p xs G3 H3 g3 k1 k2 (by rw [k5, eo]) hx) fun G3 H3 g3 => ?_
      have gp3 := gp2.trans g3
      refine ⟨fun j σ' G' H' => Gr G H G' H' ∧ G' d = none ∧ ∃ l' mo a b c e, H' d = some (DTo l') ∧ ClI (sysOf i) l l' mo ∧ (∀ x ∈ (⟨i.rs, keys l, i.ppl⟩ : DoIn).all.take j, ∀ r ∈ x.2.2, r ∈ keys l') ∧ σ' = [some v1, some v2, some v3, some (.ref d), some (.bl mo), a, b, c, e],
        ⟨gp3, g3.old _ _ hgd2 hd2 (fun _ => nt_dT), l, false, _, _, _, _, g3.hh _ _ hd2, ⟨nl, fun _ h => h, cl, fun _ => rfl, fun z => nomatch z⟩, fun x hx => by simp at hx, rfl⟩, ?_, ?_⟩
      · rintro j ⟨dd, asked, got⟩ σ' G' H' hb s1 s2 ⟨gp', hgd', l', mo, b5, b6, b7, b8, hd', ci, pr, rfl⟩ x G4 H4 g4 ix
        obtain ⟨x5, x6, x7, p5, p6, p7, tg⟩ := tgt_22 (σ := [some v1, some v2, some v3, some (.ref d), some (.bl mo), b5, b6, b7, b8]) (i := 5) (j := 6) (k := 7) (show Dp K G4 x (.tuple [deedD dd, .tuple [.list (asked.map rD), .list (got.map rD)]]) from ix)
        refine tg H4 g4.sub _ ?_
        have hxm : (dd, asked, got) ∈ (⟨i.rs, keys l, i.ppl⟩ : DoIn).all := List.mem_of_getElem? hb
        have gcom : ∀ r ∈ got, (sysOf i).Com r := fun r hr => Sys.br_com (Sys.br_mono (fun r hr => cl r hr) (br_got.mp (List.mem_flatMap.mpr ⟨_, hxm, hr⟩)))
        refine for_src (src_list (bs := got) (enc := rD) (ev_var rfl p7)) g4.sub fun G5 H5 g5 => ⟨fun n σ' G' H' => Gr G H G' H' ∧ G' d = none ∧ ∃ l' mo c, H' d = some (DTo l') ∧ ClI (sysOf i) l l' mo ∧ (∀ x ∈ (⟨i.rs, keys l, i.ppl⟩ : DoIn).all.take j, ∀ r ∈ x.2.2, r ∈ keys l') ∧ (∀ r ∈ got.take n, r ∈ keys l') ∧ σ' = [some v1, some v2, some v3, some (.ref d), some (.bl mo), some x5, some x6, some x7, c],
          ⟨(gp'.trans g4).trans g5, (g4.trans g5).old _ _ hgd' hd' (fun _ => nt_dT), l', mo, _, (g4.trans g5).hh _ _ hd', ci, pr, fun r hr => by simp at hr, rfl⟩, ?_, ?_⟩
        · rintro n r σ' G' H' hbr t1 t2 ⟨gp', hgd', l', mo, c, hd', ci, pr, prg, rfl⟩ y G6 H6 g6 iy
          have hgd6 := g6.old _ _ hgd' hd' fun _ => nt_dT
          have hd6 := g6.hh _ _ hd'
          have s56 : Same G5 G6 := t1.trans g6.gg
          have gp6 := gp'.trans g6
          have fin2 : ∀ (l'' : List (Rt × V)), (∀ r ∈ keys l', r ∈ keys l'') → r ∈ keys l'' → (∀ x ∈ (⟨i.rs, keys l, i.ppl⟩ : DoIn).all.take j, ∀ r ∈ x.2.2, r ∈ keys l'') ∧ ∀ r ∈ got.take (n + 1), r ∈ keys l'' := fun l'' hs hr => by
            refine ⟨fun x hx r hr => hs r (pr x hx r hr), fun r' hr' => ?_⟩
            rw [List.take_add_one, hbr] at hr'
            rcases List.mem_append.mp hr' with z | z
            · exact hs r' (prg r' z)
            · have : r' = r := by simpa using z
              rw [this]; exact hr
          show tIfS _ _ _ _ [some v1, some v2, some v3, some (.ref d), some (.bl mo), some x5, some x6, some x7, some y] H6
          refine run_ifL (l := l') (d := d) (G := G6) (eb_test (ev_dni (ev_var rfl (Dp.up (up_lent hgd6) _ _ iy)) (dct_lent rfl))) gp6.sub hd6 hgd6 (fun hin G7 H7 g7 hgd7 hd7 => ?_) (fun hin G7 H7 g7 hgd7 hd7 => ?_)
          · have hin : r ∉ keys l' := fun z => by rw [val_some, decide_eq_true z] at hin; cases hin
            have hl4 : l'.length ≤ 400 := by
              have := (ok.lap ci.nd ci.com).1
              rwa [len_keys] at this
            refine seq_dputP (K := K) (P := fun _ _ => True) (gp6.trans g7) (ev_var rfl (Dp.up g7.gg _ _ iy)) ((ev_tup (K := K) (ds := [deedD dd, .list (asked.map rD)]) (ead_cons (ev_var rfl (Dp.up ((g5.gg.trans s56).trans g7.gg) _ _ p5)) (ead_cons (ev_var rfl (Dp.up ((g5.gg.trans s56).trans g7.gg) _ _ p6)) ead_nil)) (by show 2 ≤ 1000; decide)).imp fun _ _ _ _ => trivial) rfl hd7 hgd7 h0 (by omega) fun v G8 H8 g8 hgd8 s8 hd8 => ?_
            obtain ⟨f1, f2⟩ := fin2 (putK l' r v) (fun r hr => mem_keys_put.mpr (.inl hr)) (mem_keys_put.mpr (.inr rfl))
            exact ⟨G8, (s56.trans g7.gg).trans s8, g8.sub, g8, hgd8, _, true, _, hd8, ci.put hin (gcom r (List.mem_of_getElem? hbr)), f1, f2, rfl⟩
          · have hin : r ∈ keys l' := Decidable.byContradiction fun z => by rw [val_some, decide_eq_false z] at hin; cases hin
            obtain ⟨f1, f2⟩ := fin2 l' (fun _ h => h) hin
            exact ⟨G7, s56.trans g7.gg, g7.sub, gp6.trans g7, hgd7, l', mo, _, hd7, ci, f1, f2, rfl⟩
        · rintro σ' G' H' t1 t2 ⟨gp', hgd', l', mo, c, hd', ci, pr, prg, rfl⟩
          refine ⟨G', ((s1.trans g4.gg).trans g5.gg).trans t1, t2, gp', hgd', l', mo, _, _, _, _, hd', ci, fun x hx r hr => ?_, rfl⟩
          rw [List.take_add_one, hb] at hx
          rcases List.mem_append.mp hx with z | z
          · exact pr x z r hr
          · have : x = (dd, asked, got) := by simpa using z
            rw [this] at hr
            rw [List.take_length] at prg
            exact prg r hr
      · rintro σ' G' H' s1 s2 ⟨gp', hgd', l', mo, b5, b6, b7, b8, hd', ci, pr, rfl⟩
        rw [List.take_length] at pr
        refine ⟨if mo = true then 500 - l'.length else 0, ?_, G', l', mo, _, _, _, _, gp', hgd', hd', ci.nd, ci.com, fun r hr => ci.sub r (bl r hr), rfl, fun em r hr => ?_, rfl⟩
        · cases mo with
          | false => rw [if_neg (by simp)]; omega
          | true => rw [if_pos rfl]; have := ci.tt rfl; omega
        · rw [ci.ff em] at hr ⊢
          obtain ⟨x, hx, hrx⟩ := List.mem_flatMap.mp (br_got.mpr hr)
          have z := pr x hx r hrx
          rwa [ci.ff em] at z
end
end Hk

set_option Elab.async false
set_option linter.all false
set_option maxRecDepth 100000
set_option maxHeartbeats 1000000
/-! Comprehensions over sources at a heap; all_that_come. -/
namespace Hk
open PySem PySem.Spec PyProof.Rows GenW L2
theorem sc_all_that_come : FnScope ["policy", "state", "right"] ["policy", "state"] (defScope s_all_that_come) := ⟨rfl, rfl, rfl, by decide +kernel, rfl, by decide +kernel, by decide +kernel⟩
section
variable {K : PySem.W.Frag} {σ : L2.St} {G H : Hp} {ta tb te tk tv tl : TE} {β : Type} {bs : List β} {enc : β → PyData} {l : List (Rt × V)}
theorem lc_at {wi : TI} {g : TG} {tt : TT} {vs : List Nat} {I R : β → VP} {keep : β → Bool} (src : SrcAt wi σ G H bs I) (m : ∀ b, Mon (R b)) (hz : bs.length ≤ sizeLine)
    (turn : ∀ b, b ∈ bs → ∀ v G', Same G G' → I b v G' → ∃ σ2, Tgt g v (wipe σ vs) σ2 G' ∧ wipe σ2 vs = wipe σ vs ∧ EvB tt σ2 G' (keep b) ∧ (keep b = true → EvP te σ2 G' (R b))) {Q : VK}
    (q : ∀ p xs G2 H2, Gr G H G2 H2 → H p = none → G2 p = none → H2 p = some (.lst xs) → Each R G2 (bs.filter keep) xs → Q (.ref p) H2) : tLc wi g tt te vs σ H Q :=
  src _ fun J G1 H1 g1 w D hD => by
    refine lc_it w (fun i H' => ∃ G' acc, Gr G1 H1 G' H' ∧ G' D = none ∧ H' D = some (.lst acc) ∧ Each R G' ((bs.take i).filter keep) acc) ?_ (fun i H' _ ⟨G', acc, g, _⟩ => g.gg.trans g.sub) ?_ ?_
    · exact ⟨G1, [], (Gr.refl g1.sub).mnew hD, g1.freeG hD, upd_same, by simpa using (show Each R G1 [] [] from .nil)⟩
    · rintro i x H' H2 hi ⟨G', acc, g, hg, hD', he⟩ y
      obtain ⟨G2, b, g2, hb, ib⟩ := y G' g.gg g.sub
      obtain ⟨σ2, ht, hw, htt, hte⟩ := turn b (List.mem_of_getElem? hb) x G2 (g1.gg.trans (g.gg.trans g2.gg)) ib
      refine ht H2 g2.sub _ ⟨hw, htt H2 g2.sub _ fun G3 H3 g3 => ?_⟩
      have nt : ∀ ys : List V, HO.lst acc ≠ HO.tup ys := fun _ z => nomatch z
      have gD3 : G3 D = none := (g2.trans g3).old D _ hg hD' nt
      have hD3 : H3 D = some (.lst acc) := (g2.trans g3).hh _ _ hD'
      cases hk : keep b with
      | true =>
        rw [if_pos rfl]
        refine (hte hk).up (m b) g3.gg H3 g3.sub _ fun v G4 H4 g4 p4 => ?_
        have e4 : Each R G4 ((bs.take i).filter keep) acc := Each.up m ((g2.trans g3).trans g4).gg he
        have gD4 : G4 D = none := g4.old D _ gD3 hD3 nt
        have hl : acc.length < sizeLine := by
          have h1 := Paired.length he
          have h2 := List.length_filter_le keep (bs.take i)
          rw [List.length_take] at h2
          omega
        refine ⟨acc, g4.hh _ _ hD3, hl, G4, acc ++ [v], (g.trans ((g2.trans g3).trans g4)).mut hD gD4, gD4, upd_same, ?_⟩
        rw [take_filter_yes hb hk]
        exact Each.snoc e4 p4
      | false =>
        rw [if_neg (by simp)]
        refine ⟨G3, acc, g.trans (g2.trans g3), gD3, hD3, ?_⟩
        rw [take_filter_no hb hk]
        exact Each.up m (g2.trans g3).gg he
    · rintro H' ⟨G', acc, g, hg, hD', he⟩
      rw [List.take_length] at he
      exact q D acc G' H' (g1.trans g) (g1.free0 hD) hg hD' he
/-- the keys of a frozen dict of rights -/
theorem walk_rts {G : Hp} {d : Addr} {od : Obj} (e : G d = some (.frz od (DTo l))) : Walk (Itkt d od (mR l)) l.length (fun H' => Same G H') (fun i H' x H2 => ∀ G', Same G G' → Same G' H' → ∃ G2 b, Gr G' H' G2 H2 ∧ l[i]? = some b ∧ DD K (rD b.1) x G2) := by
  have hl : (mR l).length = l.length := len_mR
  rw [← hl]
  refine walk_keysT.mono (fun H' s' => s' _ _ e) fun i H' x H2 hi s' y G' s1 s2 => ?_
  obtain ⟨ey, kk, v', q, h2, h3, h4⟩ := y
  unfold mR at h2
  rw [List.getElem?_map] at h2
  obtain ⟨b, hb, eb⟩ := Option.map_eq_some_iff.mp h2
  cases eb
  refine ⟨upd G' q (.tup ((kR b.1).map kV)), b, by rw [ey]; exact (Gr.refl s2).tup h4, hb, ?_⟩
  rw [h3]
  exact .tup upd_same (.cons (.str _) (.cons (.str _) (.cons (.str _) .nil)))
theorem src_rts {G H : Hp} {d : Addr} {od : Obj} (s : Same G H) (e : G d = some (.frz od (DTo l))) : SrcAt (fun _ H' R => R (Itkt d od (mR l)) H') σ G H l (fun b => DD K (rD b.1)) := fun R k => k _ G H (Gr.refl s) (walk_rts e)
/-- the keys of a new dict, of which Rl is known, frozen for good -/
theorem keysE {Rl : List (Rt × V) → Prop} (h : EvM te σ G (fun o _ => ∃ l, o = DTo l ∧ Rl l)) (s : Same G H) {R : It → Hp → Prop} (k : ∀ l od d G2 H2, Rl l → Gr G H G2 H2 → G2 d = some (.frz od (DTo l)) → R (Itkt d od (mR l)) H2) : iKeys (tFrz te) σ H R :=
  h H s _ fun p o G2 H2 g h0 hg e ⟨l, eo, hl⟩ => by
    subst eo
    exact ⟨p, DTo l, rfl, e, trivial, fun od => ⟨p, od, rfl, .inr ⟨mR l, upd_same, k l od p (upd G2 p (.frz od (DTo l))) _ hl ((g.mut h0 hg).keepIt h0 hg upd_same) upd_same⟩⟩⟩
theorem ev_sortE {κ : Type} {enc : κ → PyData} {Rc : List κ → Prop} (h : EvP ta σ G (fun v G' => ∃ cs, Rc cs ∧ DD K (.list (cs.map enc)) v G')) (S : ∀ cs, Rc cs → Srt K enc cs) :
    EvM (tCB (rSort K enc) (tCons ta tNil)) σ G (fun o G' => ∃ cs xs, Rc cs ∧ o = .lst xs ∧ DpAll K G' xs ((cs.mergeSort (PySem.W.dataLe false enc)).map enc)) := fun H s Q q =>
  h H s _ fun v G1 H1 g1 ⟨cs, hc, hd⟩ => ⟨G1, v, cs, rfl, g1.sub, .inl hd, S cs hc, fun p vs hp hv => q p _ G1 _ (g1.mnew hp) (g1.free0 hp) (g1.freeG hp) upd_same ⟨cs, vs, hc, rfl, hv⟩⟩
end
theorem ev_isOwn {K : PySem.W.Frag} {σ : L2.St} {G : Hp} {ta tb : TE} {S : Addr} {r : Rt} {st : StIn} {E : XK} (ha : EvP ta σ G (DD K (rD r))) (hb : EvP tb σ G (StV K S st)) (hl : (st.ppl ++ st.ths).length ≤ 12) :
    EvP (tCall (sp_is_own K S) [] E (tCons ta (tCons tb tNil))) σ G (IsV (.bl (isOwn (st.ppl ++ st.ths) r))) := by
  unfold sp_is_own
  exact ev_call (r, st) (ea2 mon_dd mon_st ha hb fun a c G' _ q1 q2 => ⟨a, c, rfl, q1, q2, hl⟩)
/-- a policy and a state -/
structure RIn where
  rs : List Rule
  st : StIn
abbrev RIn.beg (i : RIn) : BegIn := ⟨i.rs, i.st, i.st.ppl⟩
abbrev RIn.sys (i : RIn) : Sys := sysOf i.beg
abbrev RIn.ns (i : RIn) : List Str := i.st.ppl ++ i.st.ths
structure RIn.Ok (i : RIn) : Prop where
  clo : CloOk i.beg
  len : i.ns.length ≤ 12
def RPre (K : PySem.W.Frag) (S Po : Addr) (i : RIn) : List V → Hp → Prop := fun vs G => ∃ v1 v2, vs = [v1, v2] ∧ PoV K Po i.rs v1 G ∧ StV K S i.st v2 G ∧ i.Ok
/-- the ascending list of what comes up between the parties -/
structure OwnL (i : RIn) (cs : List Rt) : Prop where
  nd : cs.Nodup
  up : Up rD cs
  mem : ∀ r, r ∈ cs ↔ i.sys.Com r ∧ isOwn i.ns r = true
theorem OwnL.uniq {i : RIn} {a b : List Rt} (h1 : OwnL i a) (h2 : OwnL i b) : a = b := up_uniq inj_r h1.nd h2.nd (fun x => (h1.mem x).trans (h2.mem x).symm) h1.up h2.up
theorem nodup_filter_keys {l : List (Rt × V)} (f : Rt → Bool) (n : (keys l).Nodup) : (keys (l.filter fun b => f b.1)).Nodup := by
  have e : keys (l.filter fun b => f b.1) = (keys l).filter f := by
    unfold keys
    rw [List.filter_map]
    rfl
  rw [e]
  exact n.filter _
theorem mem_filter_keys {l : List (Rt × V)} (f : Rt → Bool) {r : Rt} : r ∈ keys (l.filter fun b => f b.1) ↔ r ∈ keys l ∧ f r = true := by
  constructor
  · intro h
    obtain ⟨b, hb, e⟩ := List.mem_map.mp h
    obtain ⟨h1, h2⟩ := List.mem_filter.mp hb
    subst e
    exact ⟨List.mem_map_of_mem h1, h2⟩
  · rintro ⟨h1, h2⟩
    obtain ⟨b, hb, e⟩ := List.mem_map.mp h1
    subst e
    exact List.mem_map_of_mem (List.mem_filter.mpr ⟨hb, h2⟩)
def sp_all_that_come (K : PySem.W.Frag) (S Po : Addr) : Sp := SpI (RPre K S Po) (fun i v G => ∃ cs, OwnL i cs ∧ Dp K G v (.list (cs.map rD)))
section
variable {P : Program} {w : World} {K : PySem.W.Frag} {mg : Str → Option Value} {base : Heap} {S Po : Addr} (T : Tx K mg S Po)
include T
theorem ok_all_that_come : Fn P w K mg base 10 "all_that_come" ["policy", "state"] (sp_all_that_come K S Po) := by
  obtain ⟨f_check_policy, fd_check_policy, G_check_policy, m_check_policy, k_check_policy, b_check_policy⟩ := (ok_check_policy (P := P) (w := w) (base := base) T)
  obtain ⟨f_check_small, fd_check_small, G_check_small, m_check_small, k_check_small, b_check_small⟩ := (ok_check_small (P := P) (w := w) (base := base) T)
  obtain ⟨f_closure, fd_closure, G_closure, m_closure, k_closure, b_closure⟩ := (ok_closure (P := P) (w := w) (base := base) T)
  obtain ⟨f_is_own, fd_is_own, G_is_own, m_is_own, k_is_own, b_is_own⟩ := (ok_is_own (P := P) (w := w) (base := base) T)
  refine fn_mk (N := ["policy", "state", "right"]) T.f_all_that_come (fun F => F.bindsN fun _ _ _ _ _ _ us hl => match us, hl with | [_, _], _ => rfl) sc_all_that_come (fun vs H Q E h => ?_) fun f cdv A outer s H vs Q E hr h => ?_
  · obtain ⟨n, G, sm, ⟨v1, v2, rfl, _⟩, _⟩ := h
    rfl
  · obtain ⟨i, G, sm, ⟨v1, v2, rfl, h1, h2, ok⟩, q⟩ := h
    have hu := hu_of hr
    have hr0 := hr.mono (Nat.zero_le _)
    refine ⟨_, PSs.nox (pss_cons (ps_expr (pe_call G_check_policy (hr.mono (by decide)) (by rfl) m_check_policy k_check_policy b_check_policy .nil pass0 (pa_cons (pv 0) pa_nil)))
    (pss_cons (ps_expr (pe_call G_check_small (hr.mono (by decide)) (by rfl) m_check_small k_check_small b_check_small .nil pass0 (pa_cons (pv 1) pa_nil)))
    (pss_one (ps_ret (pe_callB (call_sort (enc := rD) flat_right rfl hr0) (by rfl) T.b_sorted (by decide +kernel) (pa_cons (pe_lc (own := [("right", 2)]) rfl sc_all_that_come.nd (pi_keys (pe_frz (pe_call G_closure (hr.mono (by decide)) (by rfl) m_closure k_closure b_closure .nil pass0 (pa_cons (pv 0) (pa_cons (pv 1) (pa_cons (pe_fld (pv 1) rfl) pa_nil)))))) (blkOk_by (own := [("right", 2)]) (N := ["policy", "state", "right"]) (sc := defScope s_all_that_come) (by decide +kernel)) (fun _ _ _ _ _ => (pg_name (i := 2) sc_all_that_come.nd rfl (Or.inl rfl))) (fun _ _ _ _ _ => (pts_one (pt_val (pe_call G_is_own (hr.mono (by decide)) (by rfl) m_is_own k_is_own b_is_own .nil pass0 (pa_cons (pv 2) (pa_cons (pv 1) pa_nil)))))) (fun _ _ _ _ _ => (pv 2))) pa_nil)))))), ?_⟩
    refine seq_do (ev_call i.rs (ea1 (ev_var rfl h1) fun v G' _ e => ⟨v, rfl, e⟩)) sm fun _ G1 H1 g1 _ => ?_
    refine seq_do (ev_call i.st (ea1 (ev_var rfl (mon_st _ _ _ g1.gg h2)) fun v G' _ e => ⟨v, rfl, e, ok.len⟩)) g1.sub fun _ G2 H2 g2 _ => ?_
    have s02 := g1.gg.trans g2.gg
    have h12 := mon_po _ _ _ s02 h1
    have h22 := mon_st _ _ _ s02 h2
    have cl : EvM (tCall (sp_closure K S Po) [] E0 (tCons (tVar 0) (tCons (tVar 1) (tCons (tFld K (tVar 1) "people") tNil)))) [some v1, some v2, none] G2 (fun o _ => ∃ l, o = DTo l ∧ ((keys l).Nodup ∧ ∀ r, r ∈ keys l ↔ i.sys.Com r)) :=
      em_call (post := fun i o _ => CloPost i o) i.beg (ea3 mon_po mon_st mon_dd (ev_var rfl h12) (ev_var rfl h22) (ev_people T (ev_var rfl h22)) fun a b c G' _ q1 q2 q3 => ⟨a, b, c, rfl, q1, q2, q3, ok.clo⟩)
    refine run_ret (G := G2) (P := fun v G' => ∃ cs, OwnL i cs ∧ Dp K G' v (.list (cs.map rD))) (EvM.stay (ev_sortE (enc := rD) (Rc := fun cs => cs.Nodup ∧ cs.length ≤ 400 ∧ ∀ r, r ∈ cs ↔ i.sys.Com r ∧ isOwn i.ns r = true) (fun Ha sa Q k => ?_) fun cs hc => srt_r K (by omega)) fun p o G' hp ⟨cs, xs, hc, eo, hd⟩ => ?_) g2.sub fun v G3 H3 g3 p => q v G3 H3 ((g1.trans g2).trans g3) p
    · refine keysE cl sa fun l od d G3 H3 ⟨nl, ml⟩ g3 e => ?_
      have hl := (ok.clo.lap nl fun r hr => (ml r).mp hr).1
      rw [len_keys] at hl
      refine lc_at (wi := fun _ H' R => R (Itkt d od (mR l)) H') (G := G3) (H := H3) (bs := l) (I := fun b => DD K (rD b.1)) (R := fun b => DD K (rD b.1)) (keep := fun b => isOwn i.ns b.1) (src_rts g3.sub e) (fun _ => mon_dd) (by rw [sizeLine_eq]; omega) (fun b hb v G' s ib => ?_) fun p xs G4 H4 g4 k1 k2 k3 k4 => ?_
      · exact ⟨_, tgt_name, rfl, eb_test (ev_isOwn (ev_var rfl ib) (ev_var rfl (mon_st _ _ _ (g3.gg.trans s) h22)) ok.len), fun _ => ev_var rfl ib⟩
      · refine k (.ref p) _ H4 ((g3.trans g4).keepIt (g3.free0 k1) k2 k3) ⟨keys (l.filter fun b => isOwn i.ns b.1), ⟨nodup_filter_keys _ nl, ?_, fun r => ?_⟩, ?_⟩
        · rw [len_keys]; exact Nat.le_trans (List.length_filter_le _ _) hl
        · rw [mem_filter_keys, ml]
        · have z := Each.dp (K := K) (enc := fun (b : Rt × V) => rD b.1) k4 fun _ _ z => z
          refine .lst upd_same (DpAll.up (same_new k2) _ _ ?_)
          rw [show (keys (l.filter fun b => isOwn i.ns b.1)).map rD = (l.filter fun b => isOwn i.ns b.1).map fun b => rD b.1 from List.map_map ..]
          exact z
    · subst eo
      exact ⟨_, ⟨(List.mergeSort_perm _ _).nodup_iff.mpr hc.1, up_sort _, fun r => List.mem_mergeSort.trans (hc.2.2 r)⟩, .lst upd_same (DpAll.up (same_new hp) _ _ hd)⟩
end
end Hk

set_option Elab.async false
set_option linter.all false
set_option maxRecDepth 100000
set_option maxHeartbeats 1000000
/-! rounds_of. -/
namespace Hk
open PySem PySem.Spec PyProof.Rows GenW L2
theorem sc_rounds_of : FnScope ["policy", "state", "found", "right", "start", "number", "waiting", "made", "late"] ["policy", "state"] (defScope s_rounds_of) := ⟨rfl, rfl, rfl, by decide +kernel, rfl, by decide +kernel, by decide +kernel⟩
section
variable {K : PySem.W.Frag} {σ : L2.St} {G H : Hp} {ta tb te tk tv tl : TE} {tt : TT} {β : Type} {bs : List β} {enc : β → PyData} {l : List (Rt × V)} {d : Addr} {u : TS} {D : Ends} {ds : List PyData}
theorem src_frzE {l : List (Rt × V)} (h : EvM te σ G (fun o _ => o = DTo l)) : SrcB (iKeys (tFrz te)) σ G l (fun b => DD K (rD b.1)) := fun H s R k =>
  keysE (Rl := fun l' => l' = l) (h.imp fun o G' _ e => ⟨l, e, rfl⟩) s fun l' od d G2 H2 hl g e => by
    subst hl
    exact k _ G2 H2 g (walk_rts e)
theorem seq_parFrz {i j k : Nat} {c : V} {g : TG} {vs : List Nat} (e : σ[k]? = some (some (.ref d))) (hd : H d = some (DTo l))
    (h : ∀ od, tSeq (tPar i j (tCons (tC c) (tCons (tLc (fun _ H' R => R (Itkt d od (mR l)) H') g tt te vs) tNil))) u D σ (upd H d (.frz od (DTo l)))) : tSeq (tPar i j (tCons (tC c) (tCons (tLc (iKeys (tFrz (tVar k))) g tt te vs) tNil))) u D σ H :=
  ⟨.ref d, e, d, DTo l, rfl, hd, trivial, fun od => ⟨d, od, rfl, .inr ⟨mR l, upd_same, h od⟩⟩⟩
theorem seq_parCM {i j : Nat} {c : V} {tb : TE} {R : V → Hp → Prop} (h : ∀ Q : VK, (∀ v H', R v H' → Q v H') → tb σ H Q) (k : ∀ v H', R v H' → u D ((σ.set i (some c)).set j (some v)) H') : tSeq (tPar i j (tCons (tC c) (tCons tb tNil))) u D σ H :=
  h _ fun v H' r => ⟨c, v, rfl, k v H' r⟩
theorem seq_ifB {t : TS} {b : Bool} (h : EvB tt σ G b) (s : Same G H) (h1 : b = true → ∀ G2 H2, Gr G H G2 H2 → t { D with nx := u D } σ H2) (h2 : b = false → ∀ G2 H2, Gr G H G2 H2 → u D σ H2) : tSeq (tIfS tt t tNext) u D σ H :=
  h H s _ fun G2 H2 g => by
    cases b with
    | true => exact h1 rfl G2 H2 g
    | false => exact h2 rfl G2 H2 g
theorem seq_setQ {i : Nat} {R : V → Hp → Prop} (h : ∀ Q : VK, (∀ v H', R v H' → Q v H') → te σ H Q) (k : ∀ v H', R v H' → u D (σ.set i (some v)) H') : tSeq (tAsg te (gName i)) u D σ H :=
  h _ fun v H' r => k v H' r
theorem seq_aug {i : Nat} {n k : Int} (e : σ[i]? = some (some (.int n))) (h : u D (σ.set i (some (.int (n + k)))) H) : tSeq (tAug i (tC (.int k)) (ipI fun i j => i + j)) u D σ H :=
  ⟨_, e, n, k, rfl, rfl, h⟩
theorem em_listOf (h : EvP te σ G (DD K (.list ds))) : EvM (tCB (fun xs H Q => ∃ p ys, xs = [.ref p] ∧ (SqL K H p ys ∨ SqT K H p ys) ∧ ∀ l, H l = none → Q (.ref l) (upd H l (.lst ys))) (tCons te tNil)) σ G (fun o G' => ∃ xs, o = .lst xs ∧ DpAll K G' xs ds) := fun H s Q q =>
  h H s _ fun v G1 H1 g1 hd => by
    obtain ⟨a, xs, rfl, h1, h2⟩ := dp_list hd
    exact ⟨a, xs, rfl, .inl (g1.sub.seq h1), fun p hp => q p _ G1 _ (g1.mnew hp) (g1.free0 hp) (g1.freeG hp) upd_same ⟨xs, rfl, h2⟩⟩
theorem stayL (h : EvM te σ G (fun o G' => ∃ xs, o = .lst xs ∧ DpAll K G' xs ds)) : EvP te σ G (DD K (.list ds)) :=
  h.stay fun p o G' hp ⟨xs, e, r⟩ => by subst e; exact .lst upd_same (DpAll.up (same_new hp) _ _ r)
theorem em_lstB {ta : TA} (h : EvAD K ta σ G ds) (hl : ds.length ≤ sizeLine) : EvM (tLst ta) σ G (fun o G2 => ∃ xs, o = .lst xs ∧ DpAll K G2 xs ds) := fun H s Q q =>
  h H s _ fun vs G1 H1 g1 p1 => ⟨by rw [DpAll.len p1]; exact hl, fun p hp => q p _ _ _ (g1.mnew hp) (g1.free0 hp) (g1.freeG hp) upd_same ⟨vs, rfl, p1⟩⟩
end
theorem val_putAll {v : V} : ∀ {lt : List Rt} {l : List (Rt × V)} {r : Rt}, valV (putAll (fun r => r) (fun _ => v) lt l) r = if r ∈ lt then some v else valV l r
  | [], l, r => rfl
  | a :: lt, l, r => by
    rw [show putAll (fun r => r) (fun _ => v) (a :: lt) l = putAll (fun r => r) (fun _ => v) lt (putK l a v) from rfl, val_putAll, valV_put]
    by_cases h1 : r ∈ lt
    · rw [if_pos h1, if_pos (List.mem_cons_of_mem _ h1)]
    · rw [if_neg h1]
      by_cases h2 : r = a
      · rw [if_pos h2, if_pos (by rw [h2]; exact List.mem_cons_self ..)]
      · rw [if_neg h2, if_neg (fun z => (List.mem_cons.mp z).elim h2 h1)]
/-- the rounds so far -/
structure RI (y : Sys) (n : Nat) (l : List (Rt × V)) : Prop where
  nd : (keys l).Nodup
  mem : ∀ r, r ∈ keys l ↔ y.Lv n r
  val : ∀ r v, valV l r = some v → ∃ k : Nat, v = .int k ∧ y.Fst k r
/-- all rounds -/
structure RdD (y : Sys) (l : List (Rt × V)) : Prop where
  nd : (keys l).Nodup
  mem : ∀ r, r ∈ keys l ↔ y.Com r
  val : ∀ r v, valV l r = some v → ∃ k : Nat, v = .int k ∧ y.Fst k r
theorem RI.next {y : Sys} {n : Nat} {l : List (Rt × V)} (h : RI y n l) {lt : List Rt} (hs : ∀ r, r ∈ lt → y.Lv (n + 1) r ∧ ¬ y.Lv n r) (hc : ∀ r, y.Lv (n + 1) r → ¬ y.Lv n r → r ∈ lt) : RI y (n + 1) (putAll (fun r => r) (fun _ => .int ((n + 1 : Nat) : Int)) lt l) := by
  obtain ⟨k1, k2⟩ := putAll_keys (key := fun (r : Rt) => r) (val := fun _ => V.int ((n + 1 : Nat) : Int)) (l := lt) (acc := l) h.nd
  refine ⟨k1, fun r => ?_, fun r v e => ?_⟩
  · rw [k2, List.map_id', h.mem]
    constructor
    · rintro (z | z)
      · exact .inl z
      · exact (hs r z).1
    · intro z
      by_cases e : y.Lv n r
      · exact .inl e
      · exact .inr (hc r z e)
  · rw [val_putAll] at e
    split at e
    · rename_i hr
      cases e
      obtain ⟨q1, q2⟩ := hs r hr
      exact ⟨n + 1, rfl, q1, fun m hm hl => q2 (Sys.lv_le (by omega) hl)⟩
    · exact h.val r v e
theorem RI.done {y : Sys} {n : Nat} {l : List (Rt × V)} (h : RI y n l) (hs : ∀ r, y.Lv (n + 1) r → y.Lv n r) : RdD y l :=
  ⟨h.nd, fun r => ⟨fun z => ⟨n, (h.mem r).mp z⟩, fun ⟨m, z⟩ => (h.mem r).mpr (Sys.lv_stop hs z)⟩, h.val⟩
theorem RI.grow {y : Sys} {n : Nat} {l : List (Rt × V)} (h : RI y n l) {lt : List Rt} {v : V} {r : Rt} (hr : r ∈ lt) (hn : ¬ y.Lv n r) : l.length < (putAll (fun r => r) (fun _ => v) lt l).length := by
  obtain ⟨k1, k2⟩ := putAll_keys (key := fun (r : Rt) => r) (val := fun _ => v) (l := lt) (acc := l) h.nd
  have z := nodup_sub_len (l := r :: keys l) (u := keys (putAll (fun r => r) (fun _ => v) lt l)) (List.nodup_cons.mpr ⟨fun q => hn ((h.mem r).mp q), h.nd⟩) fun x hx => by
    rw [k2, List.map_id']
    rcases List.mem_cons.mp hx with e | e
    · rw [e]; exact .inr hr
    · exact .inl e
  rw [List.length_cons, len_keys, len_keys] at z
  exact z
def sp_rounds_of (K : PySem.W.Frag) (S Po : Addr) : Sp := SpM (RPre K S Po) (fun i o _ => ∃ l, o = DTo l ∧ RdD i.sys l)
section
variable {P : Program} {w : World} {K : PySem.W.Frag} {mg : Str → Option Value} {base : Heap} {S Po : Addr} (T : Tx K mg S Po)
include T
theorem ok_rounds_of : Fn P w K mg base 8 "rounds_of" ["policy", "state"] (sp_rounds_of K S Po) := by
  obtain ⟨f_beginning, fd_beginning, G_beginning, m_beginning, k_beginning, b_beginning⟩ := (ok_beginning (P := P) (w := w) (base := base) T)
  obtain ⟨f_brought, fd_brought, G_brought, m_brought, k_brought, b_brought⟩ := (ok_brought (P := P) (w := w) (base := base) T)
  refine fn_mk (N := ["policy", "state", "found", "right", "start", "number", "waiting", "made", "late"]) T.f_rounds_of (fun F => F.bindsN fun _ _ _ _ _ _ us hl => match us, hl with | [_, _], _ => rfl) sc_rounds_of (fun vs H Q E h => ?_) fun f cdv A outer s H vs Q E hr h => ?_
  · obtain ⟨n, G, sm, ⟨v1, v2, rfl, _⟩, _⟩ := h
    rfl
  · obtain ⟨i, G, sm, ⟨v1, v2, rfl, h1, h2, ok⟩, q⟩ := h
    have hu := hu_of hr
    have hu65 : A.units + 3 + 65 < cLine := by have := hr.un; show A.units + 3 + 65 < cLine; have h2 : (A.deeper (envOfC "rounds_of" (defScope s_rounds_of) s.heap.objs.size f cdv)).units = A.units + 3 := rfl; omega
    refine ⟨_, PSs.nox (pss_cons (ps_set (i := 2) sc_rounds_of.nd rfl (Or.inr rfl) (pe_dcT (own := [("right", 3)]) rfl hu sc_rounds_of.nd (pi_list (pe_fld (pv 1) rfl)) (blkOk_by (own := [("right", 3)]) (N := ["policy", "state", "found", "right", "start", "number", "waiting", "made", "late"]) (sc := defScope s_rounds_of) (by decide +kernel)) (fun _ _ _ _ _ => (pg_name (i := 3) sc_rounds_of.nd rfl (Or.inl rfl))) (fun _ _ _ _ _ => pts_nil) (fun _ _ _ _ _ => (pv 3)) (fun _ _ _ _ _ => pe_int)))
    (pss_cons (ps_setDcT (i := 4) (own := [("right", 3)]) rfl hu sc_rounds_of.nd rfl rfl (sw_trueD rfl rfl rfl (by decide +kernel)) (pi_keys (pe_frz (pe_call G_beginning (hr.mono (by decide)) (by rfl) m_beginning k_beginning b_beginning .nil pass0 (pa_cons (pv 0) (pa_cons (pv 1) (pa_cons (pe_fld (pv 1) rfl) pa_nil)))))) (blkOk_by (own := [("right", 3)]) (N := ["policy", "state", "found", "right", "start", "number", "waiting", "made", "late"]) (sc := defScope s_rounds_of) (by decide +kernel)) (fun _ _ _ _ _ => (pg_name (i := 3) sc_rounds_of.nd rfl (Or.inl rfl))) (fun _ _ _ _ _ => pts_nil) (fun _ _ _ _ _ => (pv 3)) (fun _ _ _ _ _ => pe_bl))
    (pss_cons (ps_par (i := 5) (j := 6) rfl sc_rounds_of.nd rfl rfl (by decide) rfl rfl (pa_cons pe_int (pa_cons (pe_lc (own := [("right", 3)]) rfl sc_rounds_of.nd (pi_keys (pe_frz (pv 4))) (blkOk_by (own := [("right", 3)]) (N := ["policy", "state", "found", "right", "start", "number", "waiting", "made", "late"]) (sc := defScope s_rounds_of) (by decide +kernel)) (fun _ _ _ _ _ => (pg_name (i := 3) sc_rounds_of.nd rfl (Or.inl rfl))) (fun _ _ _ _ _ => (pts_one (pt_cmp (pc_dnotin hu (pv 3) (pv 2))))) (fun _ _ _ _ _ => (pv 3))) pa_nil)) (by rfl))
    (pss_one (ps_while PassesOwn.never (pt_val pe_bl)
    (pss_cons (ps_aug (i := 5) sc_rounds_of.nd rfl (.inl rfl) pe_int ip_add)
    (pss_cons (ps_set (i := 7) sc_rounds_of.nd rfl (Or.inl rfl) (pe_ifExp (pt_cmpR op_eq (pv 5) pe_int (nomark _)) (pe_callTy call_list_of (by rfl) T.b_list (by decide +kernel) (pa_cons (pv 6) pa_nil)) (pe_lst pa_nil)))
    (pss_cons (ps_setLc (i := 8) (own := [("right", 3)]) rfl sc_rounds_of.nd rfl rfl (sw_true rfl rfl rfl (by decide +kernel)) (pi_list (pe_lst (StX.pa_star (pv 7) (StX.pa_star (pe_call G_brought (hr.mono (by decide)) (by rfl) m_brought k_brought b_brought .nil pass0 (pa_cons (pv 0) (pa_cons (pe_callTy (call_list_dT rfl) (by rfl) T.b_list (by decide +kernel) (pa_cons (pv 2) pa_nil)) (pa_cons (pe_fld (pv 1) rfl) pa_nil)))) pa_nil)))) (blkOk_by (own := [("right", 3)]) (N := ["policy", "state", "found", "right", "start", "number", "waiting", "made", "late"]) (sc := defScope s_rounds_of) (by decide +kernel)) (fun _ _ _ _ _ => (pg_name (i := 3) sc_rounds_of.nd rfl (Or.inl rfl))) (fun _ _ _ _ _ => (pts_one (pt_cmp (pc_dnotin hu (pv 3) (pv 2))))) (fun _ _ _ _ _ => (pv 3)))
    (pss_cons (ps_if (pt_cmpR (op_eqD hr.units) (pv 8) (pe_lst pa_nil) (nomark _))
    (pss_one (ps_ret (pv 2))) pss_nil)
    (pss_one (ps_for PassesOwn.never rfl (pi_list (pv 8)) (pg_name (i := 3) sc_rounds_of.nd rfl (Or.inl rfl))
    (pss_one (ps_dput hu (pv 2) (pv 3) (pv 5) rfl))))))))))))), ?_⟩
    have lr : i.st.rts.length ≤ 1000 := ok.clo.beg.lr
    refine seq_setM (em_dcT (bs := i.st.rts) (keep := fun _ => true) (key := fun r => r) (val := fun _ => V.int 0) (src_list (enc := rD) (ev_rights T (ev_var rfl h2))) (by omega) fun b hb v G' s i => ⟨_, tgt_name, rfl, eb_yes, fun _ => ⟨ev_var rfl i, ev_c rfl⟩⟩) sm fun d o G1 H1 g1 h0 hg e eo => ?_
    rw [List.filter_eq_self.mpr (fun _ _ => rfl)] at eo
    subst eo
    have h11 := mon_po _ _ _ g1.gg h1
    have h21 := mon_st _ _ _ g1.gg h2
    have bg : EvM (tCall (sp_beginning K S Po) [] E0 (tCons (tVar 0) (tCons (tVar 1) (tCons (tFld K (tVar 1) "people") tNil)))) [some v1, some v2, some (.ref d), none, none, none, none, none, none] G1 (fun o _ => o = DTo (putN (begL i.st.rts (madeOf i.rs) i.st.ppl))) :=
      em_call (post := fun (i : BegIn) o _ => o = DTo (putN (begL i.st.rts (madeOf i.rs) i.ppl))) i.beg (ea3 mon_po mon_st mon_dd (ev_var rfl h11) (ev_var rfl h21) (ev_people T (ev_var rfl h21)) fun a b c G' _ q1 q2 q3 => ⟨a, b, c, rfl, q1, q2, q3, ok.clo.beg⟩)
    obtain ⟨n1, m1⟩ := putAll_keys (key := fun (r : Rt) => r) (val := fun _ => V.non) (l := begL i.st.rts (madeOf i.rs) i.st.ppl) (acc := []) .nil
    have m1 : ∀ r, r ∈ keys (putN (begL i.st.rts (madeOf i.rs) i.st.ppl)) ↔ i.sys.B r ∨ i.sys.M r := fun r => by
      have e := mem_begL (i := i.beg) (r := r)
      rw [m1, List.map_id', ← e]
      simp
    have lb := (ok.clo.lap n1 fun r hr => ((m1 r).mp hr).elim Sys.com_B Sys.com_M).1
    rw [len_keys] at lb
    refine seq_setM (em_dcT (K := K) (keep := fun _ => true) (key := fun (b : Rt × V) => b.1) (val := fun _ => V.bl true) (src_frzE bg) (Nat.le_trans lb (by decide)) fun b hb v G' s ib => ⟨_, tgt_name, rfl, eb_yes, fun _ => ⟨ev_var rfl ib, ev_c rfl⟩⟩) g1.sub fun d2 o2 G2 H2 g2 h02 hg2 e2 eo2 => ?_
    rw [List.filter_eq_self.mpr (fun _ _ => rfl)] at eo2
    subst eo2
    obtain ⟨n2, m2⟩ := putAll_keys (key := fun (b : Rt × V) => b.1) (val := fun _ => V.bl true) (l := putN (begL i.st.rts (madeOf i.rs) i.st.ppl)) (acc := []) .nil
    generalize hl2 : putAll (fun (b : Rt × V) => b.1) (fun _ => V.bl true) (putN (begL i.st.rts (madeOf i.rs) i.st.ppl)) [] = l2 at e2 n2 m2
    have m2 : ∀ r, r ∈ keys l2 ↔ i.sys.B r ∨ i.sys.M r := fun r => by
      rw [m2, ← m1]
      simp
    obtain ⟨n0, m0⟩ := putAll_keys (key := fun (r : Rt) => r) (val := fun _ => V.int 0) (l := i.st.rts) (acc := []) .nil
    have r0 : RI i.sys 0 (putAll (fun r => r) (fun _ => V.int 0) i.st.rts []) := ⟨n0, fun r => by rw [m0, List.map_id']; simp [Sys.Lv, sysOf], fun r v ev => by
      rw [val_putAll] at ev
      split at ev
      · rename_i hr
        cases ev
        exact ⟨0, rfl, hr, fun m hm => absurd hm (Nat.not_lt_zero m)⟩
      · cases ev⟩
    generalize hl0 : putAll (fun (r : Rt) => r) (fun _ => V.int 0) i.st.rts [] = l0 at e r0
    have hd2 := g2.hh _ _ e
    have hgd2 := g2.old _ _ hg e fun _ => nt_dT
    have h0d2 : H d2 = none := g1.free0 h02
    have hdd : d ≠ d2 := fun z => by rw [← z, e] at h02; cases h02
    refine seq_parFrz (l := l2) (d := d2) rfl e2 fun od => ?_
    have gf := ((g1.trans g2).mut (o := .frz od (DTo l2)) h0d2 hg2).keepIt h0d2 hg2 upd_same
    have hdf : (upd H2 d2 (.frz od (DTo l2))) d = some (DTo l0) := by rw [upd_ne hdd]; exact hd2
    have hgf : (upd G2 d2 (.frz od (DTo l2))) d = none := by rw [upd_ne hdd]; exact hgd2
    have hff : (upd G2 d2 (.frz od (DTo l2))) d2 = some (.frz od (DTo l2)) := upd_same
    have l2len := (ok.clo.lap n2 fun r hr => ((m2 r).mp hr).elim Sys.com_B Sys.com_M).1
    rw [len_keys] at l2len
    have s2f : Same G2 (upd G2 d2 (.frz od (DTo l2))) := same_new hg2
    generalize hGf : upd G2 d2 (.frz od (DTo l2)) = Gf at gf hgf hff s2f
    generalize hHf : upd H2 d2 (.frz od (DTo l2)) = Hf at gf hdf
    have hdl : (upd Gf d (DTo l0)) d2 = some (.frz od (DTo l2)) := by rw [upd_ne hdd.symm]; exact hff
    refine seq_parCM (R := fun v H' => ∃ G', Gr G H G' H' ∧ G' d = none ∧ H' d = some (DTo l0) ∧ Dp K G' v (.list ((keys (l2.filter fun b => !decide (b.1 ∈ keys l0))).map rD))) (fun Q k => ?_) fun wv H3 ⟨G3, g3, hg3, hd3, hwv⟩ => ?_
    · refine lc_at (wi := fun _ H' R => R (Itkt d2 od (mR l2)) H') (G := upd Gf d (DTo l0)) (H := Hf) (bs := l2) (I := fun b => DD K (rD b.1)) (R := fun b => DD K (rD b.1)) (keep := fun b => !decide (b.1 ∈ keys l0)) (src_rts (lend gf.sub hdf) hdl) (fun _ => mon_dd) (by rw [sizeLine_eq]; omega) (fun b hb v G' s ib => ?_) fun p xs G4 H4 g4 k1 k2 k3 k4 => ?_
      · refine ⟨_, tgt_name, rfl, eb_test (ev_is (ev_dni (l := l0) (ev_var rfl ib) (ev_var rfl ⟨d, rfl, s _ _ upd_same⟩)) ?_), fun _ => ev_var rfl ib⟩
        rw [val_some]
      · have z := Each.dp (K := K) (enc := fun (b : Rt × V) => rD b.1) k4 fun _ _ z => z
        have hpd : p ≠ d := fun z => by rw [z, hdf] at k1; cases k1
        have gb := g4.back hgf
        have hgp : del G4 d p = none := by rw [del_ne hpd]; exact k2
        refine k _ _ ⟨upd (del G4 d) p (.lst xs), (gf.trans gb).keepIt (gf.free0 k1) hgp k3, by rw [upd_ne hpd.symm]; exact del_same, gb.hh _ _ hdf, .lst upd_same (DpAll.up (same_new hgp) _ _ ?_)⟩
        rw [show (keys (l2.filter fun b => !decide (b.1 ∈ keys l0))).map rD = (l2.filter fun b => !decide (b.1 ∈ keys l0)).map fun b => rD b.1 from List.map_map ..]
        exact dpa_back (g4.gg _ _ upd_same) z
    have wt : ∀ r, r ∈ keys (l2.filter fun b => !decide (b.1 ∈ keys l0)) ↔ i.sys.M r ∧ ¬ i.sys.B r := fun r => by
      rw [mem_filter_keys (fun r => !decide (r ∈ keys l0)), m2, Bool.not_eq_true', decide_eq_false_iff_not, r0.mem]
      show (i.sys.B r ∨ i.sys.M r) ∧ ¬ i.sys.B r ↔ _
      constructor
      · rintro ⟨a | a, b⟩
        · exact absurd a b
        · exact ⟨a, b⟩
      · rintro ⟨a, b⟩
        exact ⟨.inr a, b⟩
    have wtl : (keys (l2.filter fun b => !decide (b.1 ∈ keys l0))).length ≤ 400 := by
      rw [len_keys]
      exact Nat.le_trans (List.length_filter_le _ _) l2len
    generalize hw : keys (l2.filter fun b => !decide (b.1 ∈ keys l0)) = wts at hwv wt wtl
    have h0d : H d = none := h0
    let W : Nat → L2.St → Hp → Prop := fun m σ' H' => ∃ G' n l a b c, Gr G H G' H' ∧ G' d = none ∧ H' d = some (DTo l) ∧ Same G3 G' ∧ RI i.sys n l ∧ σ' = [some v1, some v2, some (.ref d), a, some (.ref d2), some (.int (n : Nat)), some wv, b, c] ∧ m = 500 - l.length
    show tWhile _ _ _ [some v1, some v2, some (.ref d), none, some (.ref d2), some (.int ((0 : Nat) : Int)), some wv, none, none] H3
    refine ⟨W, ⟨_, G3, 0, l0, _, _, _, g3, hg3, hd3, Same.refl _, r0, rfl, rfl⟩, ?_⟩
    rintro m σ' H' ⟨G', n, l, a3, a7, a8, gp, hgd, hd, s3, ri, rfl, rfl⟩
    have bt : EvB (tTest (tC (.bl true))) [some v1, some v2, some (.ref d), a3, some (.ref d2), some (.int (n : Nat)), some wv, a7, a8] G' true := eb_test (ev_c rfl)
    refine bt H' gp.sub _ fun G4 H4 g4 => ?_
    rw [if_pos rfl]
    refine ⟨fun σ' H' => ∃ m', m' < 500 - l.length ∧ W m' σ' H', fun _ _ z => z, ?_⟩
    have gp4 := gp.trans g4
    have hgd4 := g4.old _ _ hgd hd fun _ => nt_dT
    have hd4 := g4.hh _ _ hd
    refine seq_aug (n := (n : Nat)) (k := 1) rfl ?_
    have en : ((n : Nat) : Int) + 1 = ((n + 1 : Nat) : Int) := by omega
    rw [en]
    have hw4 : Dp K G4 wv (.list (wts.map rD)) := Dp.up (s3.trans g4.gg) _ _ hwv
    refine seq_set (P := DD K (.list ((if n = 0 then wts else []).map rD))) (ev_if (b := decide (((n + 1 : Nat) : Int) = 1)) (eb_test (ev_eqI (ev_var rfl rfl) (ev_c rfl))) mon_dd (fun hn => ?_) (fun hn => ?_)) gp4.sub fun mv G5 H5 g5 hmv => ?_
    · have hn : n = 0 := by have := of_decide_eq_true hn; omega
      rw [if_pos hn]
      exact stayL (em_listOf (ev_var rfl hw4))
    · have hn : ¬ n = 0 := by have := of_decide_eq_false hn; omega
      rw [if_neg hn]
      exact ev_lst ead_nil (by decide)
    generalize hmd : (if n = 0 then wts else []) = md at hmv
    have mdl : md.length ≤ 400 := by
      rw [← hmd]
      split
      · exact wtl
      · exact Nat.zero_le _
    have mdm : ∀ r, r ∈ md ↔ n = 0 ∧ i.sys.M r ∧ ¬ i.sys.B r := fun r => by
      rw [← hmd]
      split
      · rename_i hn; rw [wt]; exact ⟨fun z => ⟨hn, z⟩, fun z => z.2⟩
      · rename_i hn; exact ⟨fun z => by simp at z, fun z => absurd z.1 hn⟩
    have gp5 := gp4.trans g5
    have hgd5 := g5.old _ _ hgd4 hd4 fun _ => nt_dT
    have hd5 := g5.hh _ _ hd4
    obtain ⟨ll, dok⟩ := ok.clo.lap ri.nd fun r hr => ⟨n, (ri.mem r).mp hr⟩
    rw [len_keys] at ll
    generalize hdo : (⟨i.rs, keys l, i.st.ppl⟩ : DoIn) = di at dok
    have gotl : di.got.length ≤ 16000000 := Nat.le_trans got_len dok.la
    have gotm : ∀ r, r ∈ di.got ↔ i.sys.Br (fun r => r ∈ keys l) r := fun r => by rw [← hdo]; exact br_got (i := i.beg)
    have h15 := mon_po _ _ _ gp5.gg h1
    have h25 := mon_st _ _ _ gp5.gg h2
    refine seq_setQ (R := fun v H' => ∃ G', Gr G H G' H' ∧ G' d = none ∧ H' d = some (DTo l) ∧ Same G5 G' ∧ Dp K G' v (.list (((md ++ di.got).filter fun r => !decide (r ∈ keys l)).map rD))) (fun Q k => ?_) fun lv H6 ⟨G6, gp6, hgd6, hd6, s56, hlv⟩ => ?_
    · have sl : Same G5 (upd G5 d (DTo l)) := up_lent hgd5
      have br : EvP (tCall (sp_brought K Po) [] E0 (tCons (tVar 0) (tCons (tCB (fun xs H Q => ∃ d kvs, xs = [V.ref d] ∧ Rd H d (.dT kvs) ∧ ∀ p bs, H p = none → IsKeys H kvs bs → Q (.ref p) (upd H p (.lst (bs.map V.ref)))) (tCons (tVar 2) tNil)) (tCons (tFld K (tVar 1) "people") tNil)))) [some v1, some v2, some (.ref d), a3, some (.ref d2), some (.int ((n + 1 : Nat) : Int)), some wv, some mv, a8] (upd G5 d (DTo l)) (DD K (.list (di.got.map rD))) :=
        stayL (em_call (post := fun (i : DoIn) o G => ∃ xs, o = .lst xs ∧ DpAll K G xs (i.got.map rD)) di (ea3 mon_po mon_dd mon_dd (ev_var rfl (mon_po _ _ _ sl h15)) (ev_listD (K := K) (dct_R (dct_lent rfl))) (ev_people T (ev_var rfl (mon_st _ _ _ sl h25))) fun a b c G' _ q1 q2 q3 => ⟨a, b, c, rfl, by rw [← hdo]; exact q1, by rw [← hdo]; exact q2, by rw [← hdo]; exact q3, dok⟩))
      have lst := stayL (em_lstB (K := K) (ead_star (ev_list (ev_var (i := 7) (σ := [some v1, some v2, some (.ref d), a3, some (.ref d2), some (.int ((n + 1 : Nat) : Int)), some wv, some mv, a8]) rfl (Dp.up sl _ _ hmv))) (ead_star (ev_list br) ead_nil)) (by rw [List.append_nil, List.length_append, List.length_map, List.length_map, sizeLine_eq]; omega))
      rw [List.append_nil, ← List.map_append] at lst
      refine lc_at (G := upd G5 d (DTo l)) (H := H5) (bs := md ++ di.got) (I := fun b => DD K (rD b)) (R := fun b => DD K (rD b)) (keep := fun b => !decide (b ∈ keys l)) ((src_list lst).at (lend gp5.sub hd5)) (fun _ => mon_dd) (by rw [List.length_append, sizeLine_eq]; omega) (fun b hb v G' s ib => ?_) fun p xs G7 H7 g7 k1 k2 k3 k4 => ?_
      · refine ⟨_, tgt_name, rfl, eb_test (ev_is (ev_dni (l := l) (ev_var rfl ib) (ev_var rfl ⟨d, rfl, s _ _ upd_same⟩)) ?_), fun _ => ev_var rfl ib⟩
        rw [val_some]
      · have z := Each.dp (K := K) (enc := rD) k4 fun _ _ z => z
        have hpd : p ≠ d := fun z => by rw [z, hd5] at k1; cases k1
        have gb := g7.back hgd5
        have hgp : del G7 d p = none := by rw [del_ne hpd]; exact k2
        exact k _ _ ⟨upd (del G7 d) p (.lst xs), (gp5.trans gb).keepIt (gp5.free0 k1) hgp k3, by rw [upd_ne hpd.symm]; exact del_same, gb.hh _ _ hd5, gb.gg.trans (same_new hgp), .lst upd_same (DpAll.up (same_new hgp) _ _ (dpa_back (g7.gg _ _ upd_same) z))⟩
    have ltm : ∀ r, r ∈ (md ++ di.got).filter (fun r => !decide (r ∈ keys l)) ↔ ((n = 0 ∧ i.sys.M r ∧ ¬ i.sys.B r) ∨ i.sys.Br (fun r => r ∈ keys l) r) ∧ ¬ i.sys.Lv n r := fun r => by
      rw [List.mem_filter, List.mem_append, mdm, gotm, Bool.not_eq_true', decide_eq_false_iff_not, ri.mem]
    have ltl : ((md ++ di.got).filter (fun r => !decide (r ∈ keys l))).length ≤ 16000400 := by
      refine Nat.le_trans (List.length_filter_le _ _) ?_
      rw [List.length_append]
      omega
    generalize hlt : (md ++ di.got).filter (fun r => !decide (r ∈ keys l)) = lt at hlv ltm ltl
    have hs : ∀ r, r ∈ lt → i.sys.Lv (n + 1) r ∧ ¬ i.sys.Lv n r := fun r hr => by
      obtain ⟨z, zn⟩ := (ltm r).mp hr
      refine ⟨?_, zn⟩
      rcases z with z | z
      · exact .inr (.inr ⟨z.1, z.2.1⟩)
      · exact .inr (.inl (Sys.br_mono (fun r h => (ri.mem r).mp h) z))
    have hc : ∀ r, i.sys.Lv (n + 1) r → ¬ i.sys.Lv n r → r ∈ lt := fun r hl hn => by
      refine (ltm r).mpr ⟨?_, hn⟩
      rcases hl with z | z | z
      · exact absurd z hn
      · exact .inr (Sys.br_mono (fun r h => (ri.mem r).mpr h) z)
      · refine .inl ⟨z.1, z.2, fun hb => hn ?_⟩
        rw [z.1]; exact hb
    have cm : SeqAt.shaped (.list (lt.map rD)) = true := (Cm.list (n := 1) fun x hx => by
      obtain ⟨r, hr, e⟩ := List.mem_map.mp hx
      obtain ⟨NS, WS, bd⟩ := ok.clo.bd
      have hu := Sys.com_U bd ⟨n + 1, (hs r hr).1⟩
      rw [← e]
      exact cm_right (bd.okN _ hu.1) (bd.okW _ hu.2.1) (bd.okN _ hu.2.2)).ok (by decide)
    have tst := ev_eqD (K := K) (ev_var (i := 8) (σ := [some v1, some v2, some (.ref d), a3, some (.ref d2), some (.int ((n + 1 : Nat) : Int)), some wv, some mv, some lv]) rfl hlv) (ev_lst (ds := []) ead_nil (by decide)) cm rfl
    rw [eqv_nil] at tst
    refine seq_ifB (eb_test tst) gp6.sub (fun he G7 H7 g7 => ?_) (fun he G7 H7 g7 => ?_)
    · have hz : lt = [] := by cases lt with
        | nil => rfl
        | cons a b => simp at he
      exact ⟨_, rfl, q d _ G7 H7 (gp6.trans g7) h0d (g7.old _ _ hgd6 hd6 fun _ => nt_dT) (g7.hh _ _ hd6) ⟨l, rfl, ri.done fun r hl => Classical.byContradiction fun hn => by
        have := hc r hl hn
        rw [hz] at this
        cases this⟩⟩
    · have gp7 := gp6.trans g7
      refine for_src (src_list (bs := lt) (enc := rD) (ev_var rfl (Dp.up g7.gg _ _ hlv))) g7.sub fun G8 H8 g8 => ⟨fun j σ' G' H' => Gr G H G' H' ∧ G' d = none ∧ H' d = some (DTo (putAll (fun r => r) (fun _ => .int ((n + 1 : Nat) : Int)) (lt.take j) l)) ∧ ∃ a, σ' = [some v1, some v2, some (.ref d), a, some (.ref d2), some (.int ((n + 1 : Nat) : Int)), some wv, some mv, some lv],
        ⟨gp7.trans g8, (g7.trans g8).old _ _ hgd6 hd6 (fun _ => nt_dT), (g7.trans g8).hh _ _ hd6, _, rfl⟩, ?_, ?_⟩
      · rintro j r σ' G' H' hb s1 s2 ⟨gp', hgd', hd', a, rfl⟩ x G9 H9 g9 ix
        have hsub : ∀ j, (putAll (fun r => r) (fun _ => V.int ((n + 1 : Nat) : Int)) (lt.take j) l).length ≤ 400 := fun j => by
          obtain ⟨k1, k2⟩ := putAll_keys (key := fun (r : Rt) => r) (val := fun _ => V.int ((n + 1 : Nat) : Int)) (l := lt.take j) (acc := l) ri.nd
          have z := (ok.clo.lap k1 fun r hr => ?_).1
          · rwa [len_keys] at z
          · rw [k2, List.map_id'] at hr
            rcases hr with hr | hr
            · exact ⟨n, (ri.mem r).mp hr⟩
            · exact ⟨n + 1, (hs r (List.mem_of_mem_take hr)).1⟩
        refine run_dput (K := K) (r := r) (v := .int ((n + 1 : Nat) : Int)) (i := 2) (gp'.trans g9) (ev_var rfl ix) (ev_var rfl rfl) rfl (g9.hh _ _ hd') (g9.old _ _ hgd' hd' fun _ => nt_dT) h0d (Nat.le_trans (hsub j) (by decide)) fun G10 H10 g10 hg10 s10 hd10 => ?_
        refine ⟨G10, (s1.trans g9.gg).trans s10, g10.sub, g10, hg10, ?_, _, rfl⟩
        rw [List.take_add_one, hb]
        rw [show putAll (fun r => r) (fun _ => V.int ((n + 1 : Nat) : Int)) (lt.take j ++ (some r).toList) l = putK (putAll (fun r => r) (fun _ => V.int ((n + 1 : Nat) : Int)) (lt.take j) l) r (.int ((n + 1 : Nat) : Int)) from putAll_snoc]
        exact hd10
      · rintro σ' G' H' s1 s2 ⟨gp', hgd', hd', a, rfl⟩
        rw [List.take_length] at hd'
        obtain ⟨r, hr⟩ : ∃ r, r ∈ lt := by
          cases lt with
          | nil => simp at he
          | cons a b => exact ⟨a, List.mem_cons_self ..⟩
        have gr := ri.grow (v := .int ((n + 1 : Nat) : Int)) hr (hs r hr).2
        have rn := ri.next hs hc
        have l4 := (ok.clo.lap rn.nd fun r hr => ⟨n + 1, (rn.mem r).mp hr⟩).1
        rw [len_keys] at l4
        exact ⟨_, by omega, G', n + 1, _, _, _, _, gp', hgd', hd', (((((s3.trans g4.gg).trans g5.gg).trans s56).trans g7.gg).trans g8.gg).trans s1, rn, rfl, rfl⟩
end
end Hk

set_option Elab.async false
set_option linter.all false
set_option maxRecDepth 100000
set_option maxHeartbeats 1000000
/-! rounds, last_round, at_once, round_for. -/
namespace Hk
open PySem PySem.Spec PyProof.Rows L2
theorem sc_rounds : FnScope ["policy", "state", "found", "right"] ["policy", "state"] (defScope s_rounds) := ⟨rfl, rfl, rfl, by decide +kernel, rfl, by decide +kernel, by decide +kernel⟩
theorem sc_last_round : FnScope ["policy", "state"] ["policy", "state"] (defScope s_last_round) := ⟨rfl, rfl, rfl, by decide +kernel, rfl, by decide +kernel, by decide +kernel⟩
theorem val_putAllF {val : Rt → V} : ∀ {lt : List Rt} {l : List (Rt × V)} {r : Rt}, valV (putAll (fun r => r) val lt l) r = if r ∈ lt then some (val r) else valV l r
  | [], l, r => rfl
  | a :: lt, l, r => by
    rw [show putAll (fun r => r) val (a :: lt) l = putAll (fun r => r) val lt (putK l a (val a)) from rfl, val_putAllF, valV_put]
    by_cases h1 : r ∈ lt
    · rw [if_pos h1, if_pos (List.mem_cons_of_mem _ h1)]
    · rw [if_neg h1]
      by_cases h2 : r = a
      · rw [if_pos h2, if_pos (by rw [h2]; exact List.mem_cons_self ..), h2]
      · rw [if_neg h2, if_neg (fun z => (List.mem_cons.mp z).elim h2 h1)]
theorem keys_putAll {val : Rt → V} : ∀ {lt : List Rt} {l : List (Rt × V)}, (keys l ++ lt).Nodup → keys (putAll (fun r => r) val lt l) = keys l ++ lt
  | [], l, _ => (List.append_nil _).symm
  | a :: lt, l, n => by
    have ha : a ∉ keys l := fun z => (List.nodup_append.mp n).2.2 a z a (List.mem_cons_self ..) rfl
    have e : keys (putK l a (val a)) = keys l ++ [a] := by rw [keys_put, if_neg ha]
    rw [show putAll (fun r => r) val (a :: lt) l = putAll (fun r => r) val lt (putK l a (val a)) from rfl, keys_putAll (by rw [e, List.append_assoc]; exact n), e, List.append_assoc]
    rfl
/-- the ascending dict of what comes up between the parties, with the round of each -/
structure OwnR (i : RIn) (l : List (Rt × V)) : Prop where
  own : OwnL i (keys l)
  val : ∀ r v, valV l r = some v → ∃ k : Nat, v = .int k ∧ i.sys.Fst k r
def sp_rounds (K : PySem.W.Frag) (S Po : Addr) : Sp := SpM (RPre K S Po) (fun i o _ => ∃ l, o = DTo l ∧ OwnR i l)
theorem RdD.own {i : RIn} {l : List (Rt × V)} (h : RdD i.sys l) : OwnR i (putAll (fun r => r) (fun r => (valV l r).getD .non) ((sortR (keys l)).filter fun r => isOwn i.ns r) []) := by
  have ns : (sortR (keys l)).Nodup := (List.mergeSort_perm _ _).nodup_iff.mpr h.nd
  have nf : ((sortR (keys l)).filter fun r => isOwn i.ns r).Nodup := ns.filter _
  have ek : keys (putAll (fun r => r) (fun r => (valV l r).getD .non) ((sortR (keys l)).filter fun r => isOwn i.ns r) []) = (sortR (keys l)).filter fun r => isOwn i.ns r := keys_putAll (l := []) nf
  have mm : ∀ r, r ∈ ((sortR (keys l)).filter fun r => isOwn i.ns r) ↔ i.sys.Com r ∧ isOwn i.ns r = true := fun r => by
    rw [List.mem_filter, List.mem_mergeSort, h.mem]
  refine ⟨⟨by rw [ek]; exact nf, by rw [ek]; exact (up_sort (k := rD) _).filter _, fun r => by rw [ek]; exact mm r⟩, fun r v e => ?_⟩
  rw [val_putAllF] at e
  split at e
  · rename_i hr
    cases ev : valV l r with
    | none =>
      exact absurd (List.mem_mergeSort.mp (List.mem_filter.mp hr).1) (valV_not ev)
    | some u =>
      rw [ev] at e
      cases e
      exact h.val r u ev
  · cases e
/-- the last round -/
structure LastR (y : Sys) (m : Nat) : Prop where
  hi : ∀ n r, y.Fst n r → n ≤ m
  at_ : m = 0 ∨ ∃ r, y.Fst m r
theorem LastR.uniq {y : Sys} {a b : Nat} (h1 : LastR y a) (h2 : LastR y b) : a = b := by
  refine Nat.le_antisymm ?_ ?_
  · rcases h1.at_ with z | ⟨r, z⟩
    · omega
    · exact h2.hi _ _ z
  · rcases h2.at_ with z | ⟨r, z⟩
    · omega
    · exact h1.hi _ _ z
def sp_last_round (K : PySem.W.Frag) (S Po : Addr) : Sp := SpI (RPre K S Po) (fun i v _ => ∃ m : Nat, v = .int m ∧ LastR i.sys m)
section
variable {K : PySem.W.Frag} {σ : L2.St} {G H : Hp} {te : TE} {l : List (Rt × V)}
theorem mem_val {l : List (Rt × V)} {r : Rt} {v : V} (n : (keys l).Nodup) (h : (r, v) ∈ l) : valV l r = some v := by
  induction l with
  | nil => cases h
  | cons p l ih =>
    have n := List.nodup_cons.mp (show (p.1 :: keys l).Nodup from n)
    rcases List.mem_cons.mp h with e | e
    · subst e; exact valV_pos rfl
    · have hp : ¬ p.1 = r := fun z => n.1 (by rw [z]; exact List.mem_map_of_mem (f := (·.1)) e)
      rw [valV_neg hp]
      exact ih n.2 e
theorem vals_nat {y : Sys} : ∀ {l : List (Rt × V)}, (∀ p ∈ l, ∃ k : Nat, p.2 = .int k ∧ y.Fst k p.1) → ∃ ns : List Nat, l.map (·.2) = (ns.map fun n : Nat => V.int n) ∧ (∀ n ∈ ns, ∃ r, y.Fst n r) ∧ ∀ p ∈ l, ∃ n ∈ ns, y.Fst n p.1
  | [], _ => ⟨[], rfl, (fun _ h => nomatch h), (fun _ h => nomatch h)⟩
  | p :: l, all => by
    obtain ⟨ns, e1, e2, e3⟩ := vals_nat (l := l) fun p hp => all p (List.mem_cons_of_mem _ hp)
    obtain ⟨k, k1, k2⟩ := all p (List.mem_cons_self ..)
    refine ⟨k :: ns, by rw [List.map_cons, List.map_cons, e1, k1], fun n hn => ?_, fun p' hp' => ?_⟩
    · rcases List.mem_cons.mp hn with z | z
      · rw [z]; exact ⟨_, k2⟩
      · exact e2 n z
    · rcases List.mem_cons.mp hp' with z | z
      · rw [z]; exact ⟨k, List.mem_cons_self .., k2⟩
      · obtain ⟨n, n1, n2⟩ := e3 p' z
        exact ⟨n, List.mem_cons_of_mem _ n1, n2⟩
/-- the pairs of a frozen dict of rights -/
theorem walk_itR {G : Hp} {d : Addr} {od : Obj} (e : G d = some (.frz od (DTo l))) : Walk (ItiT d od (mR l)) l.length (fun H' => Same G H') (fun i H' x H2 => ∀ G', Same G G' → Same G' H' → ∃ G2 b, Gr G' H' G2 H2 ∧ l[i]? = some b ∧ ∃ a x1, x = .ref a ∧ G2 a = some (.tup [x1, b.2]) ∧ Dp K G2 x1 (rD b.1)) := by
  have hl : (mR l).length = l.length := len_mR
  rw [← hl]
  refine ⟨fun i H' hi s => ⟨s _ _ e, hi⟩, fun H' s => ⟨s _ _ e, Nat.le_refl _⟩, fun i H' x H2 hi s y G' s1 s2 => ?_⟩
  obtain ⟨T, kk, v', q, h1, h2, h3, h4, h5⟩ := y
  unfold mR at h1
  rw [List.getElem?_map] at h1
  obtain ⟨b, hb, eb⟩ := Option.map_eq_some_iff.mp h1
  cases eb
  have gt := (Gr.refl s2).tup h4
  have gn := Gr.new (p := T) (o := .tup [.ref q, b.2]) gt.sub h3
  have hqT : q ≠ T := fun z => by rw [z, h3] at h4; cases h4
  refine ⟨upd (upd G' q (.tup ((kR b.1).map kV))) T (.tup [.ref q, b.2]), b, by rw [h5]; exact gt.trans gn, hb, T, .ref q, h2, upd_same, .tup ?_ (.cons (.str _) (.cons (.str _) (.cons (.str _) .nil)))⟩
  rw [upd_ne hqT]
  exact upd_same
theorem itemsE {Rl : List (Rt × V) → Prop} (h : EvM te σ G (fun o _ => ∃ l, o = DTo l ∧ Rl l)) (s : Same G H) {R : It → Hp → Prop} (k : ∀ l od d G2 H2, Rl l → Gr G H G2 H2 → G2 d = some (.frz od (DTo l)) → R (ItiT d od (mR l)) H2) : iItemsT (tFrz te) σ H R :=
  h H s _ fun p o G2 H2 g h0 hg e ⟨l, eo, hl⟩ => by
    subst eo
    exact ⟨p, DTo l, rfl, e, trivial, fun od => ⟨p, od, mR l, rfl, upd_same, k l od p (upd G2 p (.frz od (DTo l))) _ hl ((g.mut h0 hg).keepIt h0 hg upd_same) upd_same⟩⟩
theorem seq_doM {R : HO → Hp → Prop} {u : TS} {D : Ends} {i : Nat} (h : EvM te σ G R) (s : Same G H) (k : ∀ p o G2 H2, Gr G H G2 H2 → H p = none → G2 p = none → H2 p = some o → R o G2 → u D (σ.set i (some (.ref p))) H2) : tSeq (tAsg te (gName i)) u D σ H := h H s _ k
end
section
variable {P : Program} {w : World} {K : PySem.W.Frag} {mg : Str → Option Value} {base : Heap} {S Po : Addr} (T : Tx K mg S Po)
include T
theorem ok_rounds : Fn P w K mg base 9 "rounds" ["policy", "state"] (sp_rounds K S Po) := by
  obtain ⟨f_check_policy, fd_check_policy, G_check_policy, m_check_policy, k_check_policy, b_check_policy⟩ := (ok_check_policy (P := P) (w := w) (base := base) T)
  obtain ⟨f_check_small, fd_check_small, G_check_small, m_check_small, k_check_small, b_check_small⟩ := (ok_check_small (P := P) (w := w) (base := base) T)
  obtain ⟨f_rounds_of, fd_rounds_of, G_rounds_of, m_rounds_of, k_rounds_of, b_rounds_of⟩ := (ok_rounds_of (P := P) (w := w) (base := base) T)
  obtain ⟨f_is_own, fd_is_own, G_is_own, m_is_own, k_is_own, b_is_own⟩ := (ok_is_own (P := P) (w := w) (base := base) T)
  refine fn_mk (N := ["policy", "state", "found", "right"]) T.f_rounds (fun F => F.bindsN fun _ _ _ _ _ _ us hl => match us, hl with | [_, _], _ => rfl) sc_rounds (fun vs H Q E h => ?_) fun f cdv A outer s H vs Q E hr h => ?_
  · obtain ⟨n, G, sm, ⟨v1, v2, rfl, _⟩, _⟩ := h
    rfl
  · obtain ⟨i, G, sm, ⟨v1, v2, rfl, h1, h2, ok⟩, q⟩ := h
    have hu := hu_of hr
    have hr0 := hr.mono (Nat.zero_le _)
    refine ⟨_, PSs.nox (pss_cons (ps_expr (pe_call G_check_policy (hr.mono (by decide)) (by rfl) m_check_policy k_check_policy b_check_policy .nil pass0 (pa_cons (pv 0) pa_nil)))
    (pss_cons (ps_expr (pe_call G_check_small (hr.mono (by decide)) (by rfl) m_check_small k_check_small b_check_small .nil pass0 (pa_cons (pv 1) pa_nil)))
    (pss_cons (ps_set (i := 2) sc_rounds.nd rfl (Or.inr rfl) (pe_call G_rounds_of (hr.mono (by decide)) (by rfl) m_rounds_of k_rounds_of b_rounds_of .nil pass0 (pa_cons (pv 0) (pa_cons (pv 1) pa_nil))))
    (pss_one (ps_ret (pe_dcT (own := [("right", 3)]) rfl hu sc_rounds.nd (pi_list (pe_callB (call_sortDT (enc := rD) flat_right rfl hr0) (by rfl) T.b_sorted (by decide +kernel) (pa_cons (pv 2) pa_nil))) (blkOk_by (own := [("right", 3)]) (N := ["policy", "state", "found", "right"]) (sc := defScope s_rounds) (by decide +kernel)) (fun _ _ _ _ _ => (pg_name (i := 3) sc_rounds.nd rfl (Or.inl rfl))) (fun _ _ _ _ _ => (pts_one (pt_val (pe_call G_is_own (hr.mono (by decide)) (by rfl) m_is_own k_is_own b_is_own .nil pass0 (pa_cons (pv 3) (pa_cons (pv 1) pa_nil)))))) (fun _ _ _ _ _ => (pv 3)) (fun _ _ _ _ _ => (pe_dget hu (pv 2) (pv 3) (fun _ _ => rfl))))))))), ?_⟩
    refine seq_do (ev_call i.rs (ea1 (ev_var rfl h1) fun v G' _ e => ⟨v, rfl, e⟩)) sm fun _ G1 H1 g1 _ => ?_
    refine seq_do (ev_call i.st (ea1 (ev_var rfl (mon_st _ _ _ g1.gg h2)) fun v G' _ e => ⟨v, rfl, e, ok.len⟩)) g1.sub fun _ G2 H2 g2 _ => ?_
    have s02 := g1.gg.trans g2.gg
    refine seq_setM (em_call (post := fun (i : RIn) o _ => ∃ l, o = DTo l ∧ RdD i.sys l) i (ea2 mon_po mon_st (ev_var rfl (mon_po _ _ _ s02 h1)) (ev_var rfl (mon_st _ _ _ s02 h2)) fun a b G' _ q1 q2 => ⟨a, b, rfl, q1, q2, ok⟩)) g2.sub fun d o G3 H3 g3 h0 hg e er => ?_
    obtain ⟨l, eo, rd⟩ := er
    subst eo
    have h23 := mon_st _ _ _ (s02.trans g3.gg) h2
    have sl : Same G3 (upd G3 d (DTo l)) := up_lent hg
    have hl := (ok.clo.lap rd.nd fun r hr => (rd.mem r).mp hr).1
    rw [len_keys] at hl
    refine EvM.lend (G := G3) (R' := fun o _ => o = DTo (putAll (fun r => r) (fun r => (valV l r).getD .non) ((sortR (keys l)).filter fun r => isOwn i.ns r) [])) (em_dcT (bs := sortR (keys l)) (keep := fun r => isOwn i.ns r) (key := fun r => r) (val := fun r => (valV l r).getD .non)
      (src_list (ev_sortD (K := K) (dct_R (dct_lent rfl)) (by omega))) (by rw [List.length_mergeSort, len_keys]; omega) fun b hb v G' s' ib => ⟨_, tgt_name, rfl, eb_test (ev_isOwn (ev_var rfl ib) (ev_var rfl (mon_st _ _ _ (sl.trans s') h23)) ok.len), fun _ => ⟨ev_var rfl ib, ev_dget (ev_var rfl ⟨d, rfl, s' _ _ upd_same⟩) (ev_var rfl ib) ?_⟩⟩) g3.sub e hg (fun o G' _ e => e) fun p o G4 H4 g4 k1 k2 k3 k4 k5 k6 => ?_
    · have hb := List.mem_mergeSort.mp hb
      cases ev : valV l b with
      | none => exact absurd hb (valV_not ev)
      | some u => rfl
    · exact q p o G4 H4 (((g1.trans g2).trans g3).trans g4) (((g1.trans g2).trans g3).free0 k1) k2 k5 ⟨_, k6, rd.own⟩
theorem ok_last_round : Fn P w K mg base 9 "last_round" ["policy", "state"] (sp_last_round K S Po) := by
  obtain ⟨f_check_policy, fd_check_policy, G_check_policy, m_check_policy, k_check_policy, b_check_policy⟩ := (ok_check_policy (P := P) (w := w) (base := base) T)
  obtain ⟨f_check_small, fd_check_small, G_check_small, m_check_small, k_check_small, b_check_small⟩ := (ok_check_small (P := P) (w := w) (base := base) T)
  obtain ⟨f_rounds_of, fd_rounds_of, G_rounds_of, m_rounds_of, k_rounds_of, b_rounds_of⟩ := (ok_rounds_of (P := P) (w := w) (base := base) T)
  refine fn_mk (N := ["policy", "state"]) T.f_last_round (fun F => F.bindsN fun _ _ _ _ _ _ us hl => match us, hl with | [_, _], _ => rfl) sc_last_round (fun vs H Q E h => ?_) fun f cdv A outer s H vs Q E hr h => ?_
  · obtain ⟨n, G, sm, ⟨v1, v2, rfl, _⟩, _⟩ := h
    rfl
  · obtain ⟨i, G, sm, ⟨v1, v2, rfl, h1, h2, ok⟩, q⟩ := h
    have hu := hu_of hr
    have hr0 := hr.mono (Nat.zero_le _)
    refine ⟨_, PSs.nox (pss_cons (ps_expr (pe_call G_check_policy (hr.mono (by decide)) (by rfl) m_check_policy k_check_policy b_check_policy .nil pass0 (pa_cons (pv 0) pa_nil)))
    (pss_cons (ps_expr (pe_call G_check_small (hr.mono (by decide)) (by rfl) m_check_small k_check_small b_check_small .nil pass0 (pa_cons (pv 1) pa_nil)))
    (pss_one (ps_ret (pe_callB (cr_max rfl) (by rfl) T.b_max (by decide +kernel) (pa_cons (pe_lst (pa_cons pe_int (pa_starV rfl (pe_call G_rounds_of (hr.mono (by decide)) (by rfl) m_rounds_of k_rounds_of b_rounds_of .nil pass0 (pa_cons (pv 0) (pa_cons (pv 1) pa_nil))) pa_nil))) pa_nil)))))), ?_⟩
    refine seq_do (ev_call i.rs (ea1 (ev_var rfl h1) fun v G' _ e => ⟨v, rfl, e⟩)) sm fun _ G1 H1 g1 _ => ?_
    refine seq_do (ev_call i.st (ea1 (ev_var rfl (mon_st _ _ _ g1.gg h2)) fun v G' _ e => ⟨v, rfl, e, ok.len⟩)) g1.sub fun _ G2 H2 g2 _ => ?_
    have s02 := g1.gg.trans g2.gg
    refine em_call (post := fun (i : RIn) o _ => ∃ l, o = DTo l ∧ RdD i.sys l) i (ea2 mon_po mon_st (ev_var rfl (mon_po _ _ _ s02 h1)) (ev_var rfl (mon_st _ _ _ s02 h2)) fun a b G' _ q1 q2 => ⟨a, b, rfl, q1, q2, ok⟩) H2 g2.sub _ fun d o G3 H3 g3 h0 hg e ⟨l, eo, rd⟩ => ?_
    subst eo
    have hl := (ok.clo.lap rd.nd fun r hr => (rd.mem r).mp hr).1
    rw [len_keys] at hl
    obtain ⟨ns, e1, e2, e3⟩ := vals_nat (y := i.sys) fun p hp => rd.val p.1 p.2 (mem_val rd.nd hp)
    have em : (mR l).map (·.2) = l.map (·.2) := by unfold mR; rw [List.map_map]; rfl
    refine ⟨d, mR l, rfl, .inl e, ⟨?_, fun p hp => ?_⟩⟩
    · show (V.int 0 :: ((mR l).map (·.2) ++ [])).length ≤ sizeLine
      rw [List.length_cons, List.append_nil, em, List.length_map, sizeLine_eq]
      omega
    · refine ⟨p, 0 :: ns.map (fun n : Nat => (n : Int)), rfl, SqL.of ?_, Nat.succ_pos _, fun m hm hmax => ?_⟩
      · rw [upd_same, List.append_nil, em, e1, List.map_cons, List.map_map]
        rfl
      · have g4 := (((g1.trans g2).trans g3).mnew (o := .lst (V.int 0 :: ((mR l).map (·.2) ++ []))) hp)
        obtain ⟨n, hn, en⟩ : ∃ n : Nat, (n = 0 ∨ n ∈ ns) ∧ m = n := by
          rcases List.mem_cons.mp hm with z | z
          · exact ⟨0, .inl rfl, z⟩
          · obtain ⟨n, n1, n2⟩ := List.mem_map.mp z
            exact ⟨n, .inr n1, n2.symm⟩
        subst en
        refine q _ G3 _ g4 ⟨n, rfl, fun k r hk => ?_, hn.imp id fun z => e2 n z⟩
        have hr : r ∈ keys l := (rd.mem r).mpr ⟨k, hk.1⟩
        obtain ⟨p', hp', ep⟩ := List.mem_map.mp hr
        obtain ⟨n', n1, n2⟩ := e3 p' hp'
        rw [ep] at n2
        have := hmax (n' : Int) (List.mem_cons_of_mem _ (List.mem_map_of_mem (f := fun n : Nat => (n : Int)) n1))
        rw [Sys.fst_uniq hk n2]
        omega
end
end Hk

set_option Elab.async false
set_option linter.all false
set_option maxRecDepth 100000
set_option maxHeartbeats 1000000
/-! at_once, round_for. -/
namespace Hk
open PySem PySem.Spec PyProof.Rows L2
theorem sc_at_once : FnScope ["policy", "state", "number", "right", "at"] ["policy", "state", "number"] (defScope s_at_once) := ⟨rfl, rfl, rfl, by decide +kernel, rfl, by decide +kernel, by decide +kernel⟩
theorem sc_round_for : FnScope ["policy", "state", "right", "found"] ["policy", "state", "right"] (defScope s_round_for) := ⟨rfl, rfl, rfl, by decide +kernel, rfl, by decide +kernel, by decide +kernel⟩
/-- what is there behind n rounds, between the parties -/
structure AtL (i : RIn) (n : Nat) (ks : List Rt) : Prop where
  nd : ks.Nodup
  up : Up rD ks
  mem : ∀ r, r ∈ ks ↔ i.sys.Lv n r ∧ isOwn i.ns r = true
theorem AtL.uniq {i : RIn} {n : Nat} {a b : List Rt} (h1 : AtL i n a) (h2 : AtL i n b) : a = b := up_uniq inj_r h1.nd h2.nd (fun x => (h1.mem x).trans (h2.mem x).symm) h1.up h2.up
def upTo (n : Nat) (v : V) : Bool := match v with
  | .int k => decide (k ≤ (n : Int))
  | _ => false
theorem pair_filter {k : Rt → PyData} {f : Rt × V → Bool} {l : List (Rt × V)} (u : Up k (keys l)) : Up k (keys (l.filter f)) := by
  unfold keys at u ⊢
  exact List.Pairwise.sublist (List.Sublist.map _ List.filter_sublist) u
theorem nodup_keysF {f : Rt × V → Bool} {l : List (Rt × V)} (u : (keys l).Nodup) : (keys (l.filter f)).Nodup := by
  unfold keys at u ⊢
  exact List.Pairwise.sublist (List.Sublist.map _ List.filter_sublist) u
theorem OwnR.upto {i : RIn} {n : Nat} {l : List (Rt × V)} (h : OwnR i l) : AtL i n (keys (l.filter fun b => upTo n b.2)) := by
  refine ⟨nodup_keysF h.own.nd, pair_filter h.own.up, fun r => ⟨fun hr => ?_, fun hr => ?_⟩⟩
  · obtain ⟨b, hb, e⟩ := List.mem_map.mp hr
    obtain ⟨h1, h2⟩ := List.mem_filter.mp hb
    subst e
    obtain ⟨k, k1, k2⟩ := h.val _ _ (mem_val h.own.nd (show (b.1, b.2) ∈ l from h1))
    rw [k1] at h2
    have h2 := of_decide_eq_true (show decide ((k : Int) ≤ (n : Int)) = true from h2)
    exact ⟨Sys.lv_le (by omega) k2.1, ((h.own.mem _).mp (List.mem_map_of_mem h1)).2⟩
  · have hk : r ∈ keys l := (h.own.mem r).mpr ⟨⟨n, hr.1⟩, hr.2⟩
    obtain ⟨b, hb, e⟩ := List.mem_map.mp hk
    subst e
    refine List.mem_map_of_mem (f := (·.1)) (List.mem_filter.mpr ⟨hb, ?_⟩)
    obtain ⟨k, k1, k2⟩ := h.val _ _ (mem_val h.own.nd (show (b.1, b.2) ∈ l from hb))
    rw [k1]
    have := Sys.fst_le k2 hr.1
    exact decide_eq_true (by omega)
def sp_at_once (K : PySem.W.Frag) (S Po : Addr) : Sp := SpI (fun (i : RIn × Nat) vs G => ∃ v1 v2, vs = [v1, v2, .int (i.2 : Nat)] ∧ PoV K Po i.1.rs v1 G ∧ StV K S i.1.st v2 G ∧ i.1.Ok) (fun i v G => ∃ ks, AtL i.1 i.2 ks ∧ Dp K G v (.list (ks.map rD)))
/-- the class NeverComes -/
structure Nx (K : PySem.W.Frag) (mg : Str → Option Value) (C : Addr) : Prop where
  g : mg "NeverComes" = some (.ref C)
  x : PySem.W.excIn K C [.type "ValueError", .type "Exception", .type "BaseException", .type "object"] "ValueError.__new__" = true
  k : PySem.W.keepIn K (.ref C) = true
  b : PySem.W.subIn K (.ref C) (.type "BaseException") = some true
  t : PySem.W.typeIn K (.ref C) = some (.type "type")
  e : PySem.W.exmOne K (.ref C) (.ref C) = some true
def sp_round_for (K : PySem.W.Frag) (S Po C : Addr) : Sp := fun vs H Q E => ∃ (i : RIn) (r : Rt) (G : Hp), Same G H ∧ (∃ v1 v2 v3, vs = [v1, v2, v3] ∧ PoV K Po i.rs v1 G ∧ StV K S i.st v2 G ∧ Dp K G v3 (rD r) ∧ i.Ok ∧ AskIn.Ok ⟨i.rs, i.st, r⟩) ∧
  (∀ (n : Nat) G2 H2, Gr G H G2 H2 → i.sys.Fst n r → Q (.int (n : Nat)) H2) ∧ (¬ i.sys.Com r → ∀ G2 H2, Gr G H G2 H2 → E (.ref C) none H2)
/-- a def that may raise, by its name -/
def FnX (P : Program) (w : World) (K : PySem.W.Frag) (mg : Str → Option Value) (base : Heap) (k : Nat) (x : Str) (ps : List Str) (sp : Sp) : Prop :=
  ∃ f fd, FnOk P w K mg base (L2.CX P w) k f fd ps sp ∧ mg x = some (.ref f) ∧ PySem.W.keepIn K (.ref f) = true ∧ Binds K fd ps []
section
variable {P : Program} {w : World} {K : PySem.W.Frag} {mg : Str → Option Value} {base : Heap} {S Po : Addr} (T : Tx K mg S Po)
include T
theorem ok_at_once : Fn P w K mg base 10 "at_once" ["policy", "state", "number"] (sp_at_once K S Po) := by
  obtain ⟨f_check_policy, fd_check_policy, G_check_policy, m_check_policy, k_check_policy, b_check_policy⟩ := (ok_check_policy (P := P) (w := w) (base := base) T)
  obtain ⟨f_check_small, fd_check_small, G_check_small, m_check_small, k_check_small, b_check_small⟩ := (ok_check_small (P := P) (w := w) (base := base) T)
  obtain ⟨f_is_whole, fd_is_whole, G_is_whole, m_is_whole, k_is_whole, b_is_whole⟩ := (ok_is_whole (P := P) (w := w) (base := base) T)
  obtain ⟨f_rounds, fd_rounds, G_rounds, m_rounds, k_rounds, b_rounds⟩ := (ok_rounds (P := P) (w := w) (base := base) T)
  refine fn_mk (N := ["policy", "state", "number", "right", "at"]) T.f_at_once (fun F => F.bindsN fun _ _ _ _ _ _ us hl => match us, hl with | [_, _, _], _ => rfl) sc_at_once (fun vs H Q E h => ?_) fun f cdv A outer s H vs Q E hr h => ?_
  · obtain ⟨n, G, sm, ⟨v1, v2, rfl, _⟩, _⟩ := h
    rfl
  · obtain ⟨⟨i, n⟩, G, sm, ⟨v1, v2, rfl, h1, h2, ok⟩, q⟩ := h
    have hu := hu_of hr
    have hr0 := hr.mono (Nat.zero_le _)
    refine ⟨_, PSs.nox (pss_cons (ps_expr (pe_call G_check_policy (hr.mono (by decide)) (by rfl) m_check_policy k_check_policy b_check_policy .nil pass0 (pa_cons (pv 0) pa_nil)))
    (pss_cons (ps_expr (pe_call G_check_small (hr.mono (by decide)) (by rfl) m_check_small k_check_small b_check_small .nil pass0 (pa_cons (pv 1) pa_nil)))
    (pss_cons (ps_if (PW.pt (pw_or (pt_not (pt_val (pe_call G_is_whole (hr.mono (by decide)) (by rfl) m_is_whole k_is_whole b_is_whole .nil pass0 (pa_cons (pv 2) pa_nil)))) (pw_or1 (pt_cmpR op_lt (pv 2) pe_int (nomark _)))))
    (pss_one ps_never) pss_nil)
    (pss_one (ps_ret (pe_lc (own := [("right", 3), ("at", 4)]) rfl sc_at_once.nd (pi_itemsT (pe_frz (pe_call G_rounds (hr.mono (by decide)) (by rfl) m_rounds k_rounds b_rounds .nil pass0 (pa_cons (pv 0) (pa_cons (pv 1) pa_nil))))) (blkOk_by (own := [("right", 3), ("at", 4)]) (N := ["policy", "state", "number", "right", "at"]) (sc := defScope s_at_once) (by decide +kernel)) (fun _ _ _ _ _ => (show PG _ _ (gTup K 2 _) from pg_tup rfl (pgs_cons (pg_name (i := 3) sc_at_once.nd rfl (Or.inl rfl)) (pgs_cons (pg_name (i := 4) sc_at_once.nd rfl (Or.inl rfl)) pgs_nil)))) (fun _ _ _ _ _ => (pts_one (pt_cmpR op_le (pv 4) (pv 2) (nomark _)))) (fun _ _ _ _ _ => (pv 3)))))))), ?_⟩
    refine seq_do (ev_call i.rs (ea1 (ev_var rfl h1) fun v G' _ e => ⟨v, rfl, e⟩)) sm fun _ G1 H1 g1 _ => ?_
    refine seq_do (ev_call i.st (ea1 (ev_var rfl (mon_st _ _ _ g1.gg h2)) fun v G' _ e => ⟨v, rfl, e, ok.len⟩)) g1.sub fun _ G2 H2 g2 _ => ?_
    have wh : EvP (tCall sp_is_whole [] E0 (tCons (tVar 2) tNil)) [some v1, some v2, some (.int (n : Nat)), none, none] G2 (IsV (.bl true)) := by
      unfold sp_is_whole
      exact ev_call (post := fun _ => IsV (.bl true)) (n : Int) (ea1 (P1 := IsV (.int (n : Nat))) (ev_var rfl rfl) fun v G' _ e => by rw [show v = _ from e])
    refine seq_guard (eb_orF (eb_notT (eb_T wh)) (eb_test (ev_is (ev_int (g := fun i j => .bl (decide (i < j))) (i := (n : Nat)) (j := 0) (ev_var rfl rfl) (ev_c rfl)) (decide_eq_false (by omega))))) g2.sub fun G3 H3 g3 => ?_
    have s03 := (g1.gg.trans g2.gg).trans g3.gg
    have rd : EvM (tCall (sp_rounds K S Po) [] E0 (tCons (tVar 0) (tCons (tVar 1) tNil))) [some v1, some v2, some (.int (n : Nat)), none, none] G3 (fun o _ => ∃ l, o = DTo l ∧ OwnR i l) :=
      em_call (post := fun (i : RIn) o _ => ∃ l, o = DTo l ∧ OwnR i l) i (ea2 mon_po mon_st (ev_var rfl (mon_po _ _ _ s03 h1)) (ev_var rfl (mon_st _ _ _ s03 h2)) fun a b G' _ q1 q2 => ⟨a, b, rfl, q1, q2, ok⟩)
    show tLc (iItemsT (tFrz (tCall (sp_rounds K S Po) [] E0 (tCons (tVar 0) (tCons (tVar 1) tNil))))) _ _ _ _ [some v1, some v2, some (.int (n : Nat)), none, none] H3 Q
    refine itemsE rd g3.sub fun l od d G4 H4 hl g4 e => ?_
    have ll := (ok.clo.lap hl.own.nd fun r hr => ((hl.own.mem r).mp hr).1).1
    rw [len_keys] at ll
    refine lc_at (wi := fun _ H' R => R (ItiT d od (mR l)) H') (G := G4) (H := H4) (bs := l) (I := fun b x G2 => ∃ a x1, x = .ref a ∧ G2 a = some (.tup [x1, b.2]) ∧ Dp K G2 x1 (rD b.1)) (R := fun b => DD K (rD b.1)) (keep := fun b => upTo n b.2) (fun R k => k _ G4 H4 (Gr.refl g4.sub) (walk_itR e)) (fun _ => mon_dd) (by rw [sizeLine_eq]; omega) (fun b hb v G' s ib => ?_) fun p xs G5 H5 g5 k1 k2 k3 k4 => ?_
    · obtain ⟨a, x1, e1, e2, e3⟩ := ib
      obtain ⟨k, k1, k2⟩ := hl.val b.1 b.2 (mem_val hl.own.nd (show (b.1, b.2) ∈ l from hb))
      subst e1
      refine ⟨[some v1, some v2, some (.int (n : Nat)), some x1, some b.2], tgt_tup (SqT.of e2) rfl fun H s Q q => ⟨x1, _, rfl, ⟨b.2, _, rfl, rfl, q⟩⟩, rfl, ?_, fun _ => ev_var rfl e3⟩
      rw [k1]
      exact eb_test (ev_int (g := fun i j => .bl (decide (i ≤ j))) (ev_var rfl rfl) (ev_var rfl rfl))
    · have z := Each.dp (K := K) (enc := fun (b : Rt × V) => rD b.1) k4 fun _ _ z => z
      have g05 := (((g1.trans g2).trans g3).trans g4).trans g5
      refine q (.ref p) (upd G5 p (.lst xs)) H5 (g05.keepIt ((((g1.trans g2).trans g3).trans g4).free0 k1) k2 k3) ⟨_, hl.upto, .lst upd_same (DpAll.up (same_new k2) _ _ ?_)⟩
      rw [show (keys (l.filter fun b => upTo n b.2)).map rD = (l.filter fun b => upTo n b.2).map fun b => rD b.1 from List.map_map ..]
      exact z
theorem ok_round_for {C : Addr} (Nv : Nx K mg C) : FnX P w K mg base 10 "round_for" ["policy", "state", "right"] (sp_round_for K S Po C) := by
  obtain ⟨f_check_asked, fd_check_asked, G_check_asked, m_check_asked, k_check_asked, b_check_asked⟩ := (ok_check_asked (P := P) (w := w) (base := base) T)
  obtain ⟨f_rounds_of, fd_rounds_of, G_rounds_of, m_rounds_of, k_rounds_of, b_rounds_of⟩ := (ok_rounds_of (P := P) (w := w) (base := base) T)
  obtain ⟨f, fd, hm, F⟩ := T.f_round_for
  refine ⟨f, fd, F.ok (N := ["policy", "state", "right", "found"]) sc_round_for (fun vs H Q E h => ?_) (fun cdv A outer s H vs Q E hr h => ?_), hm, F.kp, F.bindsN fun _ _ _ _ _ _ us hl => match us, hl with | [_, _, _], _ => rfl⟩
  · obtain ⟨i, r, G, sm, ⟨v1, v2, v3, rfl, _⟩, _⟩ := h
    rfl
  · obtain ⟨i, r, G, sm, ⟨v1, v2, v3, rfl, h1, h2, h3, ok, ask⟩, q1, q2⟩ := h
    have hu := hu_of hr
    refine ⟨_, (pss_cons (ps_expr (pe_call G_check_asked (hr.mono (by decide)) (by rfl) m_check_asked k_check_asked b_check_asked .nil pass0 (pa_cons (pv 0) (pa_cons (pv 1) (pa_cons (pv 2) pa_nil)))))
    (pss_cons (ps_set (i := 3) sc_round_for.nd rfl (Or.inl rfl) (pe_call G_rounds_of (hr.mono (by decide)) (by rfl) m_rounds_of k_rounds_of b_rounds_of .nil pass0 (pa_cons (pv 0) (pa_cons (pv 1) pa_nil))))
    (pss_cons (ps_if (pt_cmp (pc_dnotin hu (pv 2) (pv 3))) (pss_one (ps_raise rfl (takes_of rfl rfl rfl rfl) (pmk_own PySem.F.excBase_ValueError Nv.x Nv.g Nv.k (raises_own Nv.b Nv.t) (by exact rfl)))) pss_nil)
    (pss_one (ps_ret (pe_dget hu (pv 3) (pv 2) (fun _ _ => rfl))))))), ?_⟩
    refine seq_do (ev_call (post := fun _ => IsV .non) (⟨i.rs, i.st, r⟩ : AskIn) (ea3 mon_po mon_st mon_dd (ev_var rfl h1) (ev_var rfl h2) (ev_var rfl h3) fun a b c G' _ e1 e2 e3 => ⟨a, b, c, rfl, e1, e2, e3, ask⟩)) sm fun _ G1 H1 g1 _ => ?_
    refine seq_setM (em_call (post := fun (i : RIn) o _ => ∃ l, o = DTo l ∧ RdD i.sys l) i (ea2 mon_po mon_st (ev_var rfl (mon_po _ _ _ g1.gg h1)) (ev_var rfl (mon_st _ _ _ g1.gg h2)) fun a b G' _ q1 q2 => ⟨a, b, rfl, q1, q2, ok⟩)) g1.sub fun d o G2 H2 g2 h0 hg e er => ?_
    obtain ⟨l, eo, rd⟩ := er
    subst eo
    have g02 := g1.trans g2
    have h32 := Dp.up g02.gg _ _ h3
    refine run_ifL (D := _) (l := l) (d := d) (G := G2) (b := !(valV l r).isSome) (eb_test (ev_dni (ev_var rfl (Dp.up (up_lent hg) _ _ h32)) (dct_lent rfl))) g2.sub e hg (fun hin G3 H3 g3 hg3 hd3 => ?_) (fun hin G3 H3 g3 hg3 hd3 => ?_)
    · refine q2 (fun hc => ?_) G3 H3 (g02.trans g3)
      rw [val_some, decide_eq_true ((rd.mem r).mpr hc)] at hin
      cases hin
    · cases ev : valV l r with
      | none => rw [ev] at hin; cases hin
      | some u =>
        obtain ⟨k, rfl, hk⟩ := rd.val r u ev
        exact EvP.lend (P' := IsV (.int (k : Nat))) (ev_dget (dct_lent rfl) (ev_var rfl (Dp.up (up_lent hg3) _ _ (Dp.up g3.gg _ _ h32))) ev) g3.sub hd3 hg3 (fun _ _ _ e => e) fun v G4 H4 g4 _ _ ev => by
          rw [show v = V.int (k : Nat) from ev]
          exact q1 k G4 H4 ((g02.trans g3).trans g4) hk
end
end Hk

set_option Elab.async false
set_option linter.all false
set_option maxRecDepth 100000
set_option maxHeartbeats 1000000
/-! state + rights. -/
namespace PySem.W
open Lean Elab Tactic Meta PySem PySem.Calls PyProof.Rows
section
variable {prog : Program} {w : World} {M : Model} {A : Around} {E : Value → Shared → Prop} {s : Shared} {K : Frag} {x C L f : Addr} {h₀ : Heap} {m : Str → Option Value} {ox : Obj} {od : Option Obj} {nm T : String}
/-- o + xs, the class of o has __add__ of its own, xs is a list: a list has no number slot of this name, so that its __radd__ is never asked for -/
theorem list_slot : fillsNumberSlot (.type "list") "add" = pure false := by
  show (do
    let f ← typeLookup (.type "list") (PySem.dunder "add")
    let r ← typeLookup (.type "list") (dunderR "add")
    return (f.isSome && !isSeqSlot f) || (r.isSome && !isSeqSlot r)) = _
  simp only [typeLookup_type, builtinLookup_eq_fast]
  kernel_rfl
theorem hk_addL {b : Value} {Q : Value → Shared → Prop} (X : K.In s.heap) (I : InstAt s.heap x ox C od) (isL : Looks (model prog w) s.heap (typeOf b) (.type "list")) (first : selfFirst K C = true) (own : findIn K (.ref C) "__add__" = some (some (.ref f))) (fn : isFn K (.ref f) = true)
    (h : wpAny (model prog w) A (call (.ref f) [.ref x, b]) (CmpBack Q) E s) : wpAny (model prog w) A (binaryOp .Add (.ref x) b) Q E s := by
  obtain ⟨_, _, hc, hm⟩ := ksp_first first
  have slot : Looks (model prog w) s.heap (fillsNumberSlot (.ref C) "add") true := fills_K X hc hm own
  have none : Looks (model prog w) s.heap (fillsNumberSlot (.type "list") "add") false := .of_pure list_slot
  refine wpAny_holding (wpAny_bind (wpAny_bind (I.type.at (wpAny_bind (isL.at (wpAny_bind (slot.at (wpAny_bind (none.at ?_)))))))))
  refine wpAny_bind (wpAny_pure (wpAny_bind (wpAny_mono (ksp_try X I own fn h) (fun r s' q => ?_) fun _ _ z => z)))
  obtain ⟨v, rfl, q⟩ := q
  exact wpAny_pure (wpAny_pure q)
end
end PySem.W
namespace Hk
open PySem PySem.Spec PyProof.Rows L2
structure AddX (K : PySem.W.Frag) (S : Addr) : Prop where
  sf : PySem.W.selfFirst K S = true
  rd : PySem.W.findIn K (.ref S) "__radd__" = some none
def rOwnAdd (S : Addr) (sp : Sp) : R2 := fun x y H Q => ∃ a dx fs p xs, x = .ref a ∧ H a = some (.ins S dx fs) ∧ y = .ref p ∧ H p = some (.lst xs) ∧ sp [x, y] H Q E0
theorem op_ownAdd {X : Cx} {S f : Addr} {fd : FuncData} {sp : Sp} {k : Nat} (F : FnOk X.prog X.w X.K X.mg X.base CX0 k f fd ["self", "rights"] sp) (M : Meth X.K S "__add__" f) (hb : Binds X.K fd ["self", "rights"] []) (hr : Room k X.A) (ax : AddX X.K S) : OpR X (binaryOp .Add) (rOwnAdd S sp) := by
  intro pins s σ H x y v u Q I rx ry h
  obtain ⟨a, dx, fs, p, xs, rfl, ha, rfl, hp, q⟩ := h
  cases rx
  cases ry
  obtain ⟨mA, J0, _⟩ := ins_get I.hok ha
  obtain ⟨od, J, _⟩ := J0.look
  obtain ⟨its, rv, pl, hz⟩ := I.list (SqL.of (K := X.K) hp)
  have tb : PySem.W.Looks (model X.prog X.w) s.heap (typeOf (.ref p)) (.type "list") := fun A Q E s' k q => by
    obtain ⟨o, n, e, hcl, _⟩ := id pl
    exact wpAny_typeOf_ref (k _ _ e) (by rw [hcl]; exact q)
  refine PySem.W.hk_addL I.kIn J tb ax.sf M.at_ M.fn ?_
  refine wpAny_call (codeAny_mono (F.run X.A X.stack s H ⟨[.ref a, .ref p], []⟩ [.ref a, .ref p] [.ref a, .ref p] Q E0 hr I.env0 (by
    have := hb s [.ref a, .ref p] I.kIn (by rfl)
    simpa using this) (.cons rfl (.cons rfl .nil)) q) fun r s' hq' => ?_)
  cases r with
  | error e => exact False.elim hq'
  | ok fl =>
    cases fl with
    | next => exact False.elim hq'
    | brk => exact False.elim hq'
    | cont => exact False.elim hq'
    | ret u =>
      obtain ⟨v, H', I', rv', q'⟩ := I.after hq'
      have z : EP X pins σ Q u s' := ⟨v, H', I', rv', q'⟩
      cases v <;> cases u <;> first | exact z | (cases rv'; done) | (obtain ⟨_, e⟩ := rv'; cases e; done) | exact False.elim rv'
end Hk

set_option Elab.async false
set_option linter.all false
set_option maxRecDepth 100000
set_option maxHeartbeats 2000000
/-! _law_brings. -/
namespace Hk
open PySem PySem.Spec PyProof.Rows L2
theorem sc_law_brings : FnScope ["_law_rules_here", "_law_people", "_law_rights", "_law_found", "_law_number_here", "_law_rule", "_law_actor", "_law_word", "_law_other", "_law_pair", "_law_owner", "_law_gets", "_law_first", "_law_second", "_law_over", "_law_asked"] ["_law_rules_here", "_law_people", "_law_rights"] (defScope s_law_brings) := ⟨rfl, rfl, rfl, by decide +kernel, rfl, by decide +kernel, by decide +kernel⟩
abbrev Tri := Deed × List Rt × Rt
def trD (x : Tri) : PyData := .tuple [deedD x.1, .list (x.2.1.map rD), rD x.2.2]
def prsOf : Rule → List (Str × Str)
  | .fetch _ ps => ps
  | .hand _ ps => ps
  | _ => []
def l1 (r : Rule) (n : Nat) (t : Rt) : List Tri := match r with
  | .rais _ b => [(.three n t.1 t.2.2, [t], (t.1, b, t.2.2))]
  | _ => []
def l2 (r : Rule) (n : Nat) (t : Rt) (rts : List Rt) : List Tri := match r with
  | .meet _ b c => if (t.1, b, t.2.2) ∈ rts then [(.three n t.1 t.2.2, [t, (t.1, b, t.2.2)], (t.1, c, t.2.2))] else []
  | _ => []
def lHit (t : Rt) (f : Bool) (pr : Str × Str) (x : Rt) : Bool := decide (x.1 = if f = true then t.2.2 else t.1) && decide (x.2.1 = pr.1)
def lTri (n : Nat) (t : Rt) (f : Bool) (pr : Str × Str) (x : Rt) : Tri := (.five n t.1 t.2.2 x.2.2 pr, [t, x], (if f = true then t.1 else t.2.2, pr.2, x.2.2))
def lPair (n : Nat) (t : Rt) (rts : List Rt) (f : Bool) (pr : Str × Str) : List Tri := (rts.filter (lHit t f pr)).map (lTri n t f pr)
def Rule.isF (r : Rule) : Bool := decide (r.kind = ("fetch" : Str))
def lOne (r : Rule) (n : Nat) (t : Rt) (rts : List Rt) : List Tri := l1 r n t ++ l2 r n t rts ++ (prsOf r).flatMap (lPair n t rts r.isF)
def lHas (ppl : List Str) (r : Rule) (t : Rt) : Bool := decide (t.1 ∈ ppl) && (!decide (r.kind = ("make" : Str)) && decide (t.2.1 = r.word))
def lRow (rts : List Rt) (ppl : List Str) (rn : Rule × Nat) (t : Rt) : List Tri := if lHas ppl rn.1 t = true then lOne rn.1 rn.2 t rts else []
def lAll (rs : List Rule) (rts : List Rt) (ppl : List Str) : List Tri := rs.zipIdx.flatMap fun rn => rts.flatMap (lRow rts ppl rn)
theorem isF_hand {w : Str} {ps : List (Str × Str)} : (Rule.hand w ps).isF = false := decide_eq_false (by show ¬ ("hand" : Str) = "fetch"; decide)
theorem isF_fetch {w : Str} {ps : List (Str × Str)} : (Rule.fetch w ps).isF = true := decide_eq_true rfl
theorem lHas_of {ppl : List Str} {r : Rule} {t : Rt} (h1 : t.1 ∈ ppl) (h2 : ¬ r.kind = ("make" : Str)) (h3 : t.2.1 = r.word) : lHas ppl r t = true := by
  unfold lHas
  rw [decide_eq_true h1, decide_eq_false h2, decide_eq_true h3]
  rfl
theorem brR_l {r : Rule} {n : Nat} {rts : List Rt} {ppl : List Str} {g : Rt} : (∃ t ∈ rts, ∃ x ∈ lRow rts ppl (r, n) t, x.2.2 = g) ↔ ∃ p ∈ ppl, BrR (fun t => t ∈ rts) p r g := by
  constructor
  · rintro ⟨⟨a, w, o⟩, ht, x, hx, rfl⟩
    unfold lRow at hx
    split at hx
    · rename_i hh
      unfold lHas at hh
      simp only [Bool.and_eq_true, decide_eq_true_eq] at hh
      obtain ⟨hp, _, hw⟩ := hh
      refine ⟨a, hp, ?_⟩
      unfold lOne at hx
      cases r with
      | fetch w' ps =>
        have hw : w = w' := hw
        subst hw
        have hx : x ∈ ps.flatMap (lPair n (a, w, o) rts true) := by simpa [l1, l2, prsOf, Rule.isF, Rule.kind] using hx
        obtain ⟨pr, h1, h2⟩ := List.mem_flatMap.mp hx
        obtain ⟨y, h3, rfl⟩ := List.mem_map.mp h2
        obtain ⟨h4, h5⟩ := List.mem_filter.mp h3
        obtain ⟨y1, y2, y3⟩ := y
        simp [lHit] at h5
        obtain ⟨rfl, rfl⟩ := h5
        exact ⟨_, y3, pr, h1, ht, h4, rfl⟩
      | hand w' ps =>
        have hw : w = w' := hw
        subst hw
        have hx : x ∈ ps.flatMap (lPair n (a, w, o) rts false) := by
          have e : (Rule.hand w ps).isF = false := isF_hand
          rw [e] at hx
          simpa [l1, l2, prsOf] using hx
        obtain ⟨pr, h1, h2⟩ := List.mem_flatMap.mp hx
        obtain ⟨y, h3, rfl⟩ := List.mem_map.mp h2
        obtain ⟨h4, h5⟩ := List.mem_filter.mp h3
        obtain ⟨y1, y2, y3⟩ := y
        simp [lHit] at h5
        obtain ⟨rfl, rfl⟩ := h5
        exact ⟨_, y3, pr, h1, ht, h4, rfl⟩
      | rais w' b =>
        have hw : w = w' := hw
        subst hw
        have hx : x = (.three n a o, [(a, w, o)], (a, b, o)) := by simpa [l1, l2, prsOf] using hx
        subst hx
        exact ⟨o, ht, rfl⟩
      | meet w' b c =>
        have hw : w = w' := hw
        subst hw
        have hx : x ∈ (if (a, b, o) ∈ rts then [((.three n a o, [(a, w, o), (a, b, o)], (a, c, o)) : Tri)] else []) := by simpa [l1, l2, prsOf] using hx
        split at hx
        · rename_i hb
          have := List.mem_singleton.mp hx
          subst this
          exact ⟨o, ht, hb, rfl⟩
        · simp at hx
      | make ws => simp [l1, l2, prsOf] at hx
    · simp at hx
  · rintro ⟨p, hp, hb⟩
    cases r with
    | fetch w ps =>
      obtain ⟨q, z, pr, h1, h2, h3, rfl⟩ := hb
      refine ⟨(p, w, q), h2, lTri n (p, w, q) true pr (q, pr.1, z), ?_, rfl⟩
      have hh : lHas ppl (.fetch w ps) (p, w, q) = true := lHas_of hp (by show ¬ ("fetch" : Str) = "make"; decide) rfl
      unfold lRow
      rw [if_pos hh]
      refine List.mem_append_right _ (List.mem_flatMap.mpr ⟨pr, h1, List.mem_map.mpr ⟨_, List.mem_filter.mpr ⟨h3, by simp [lHit, Rule.isF, Rule.kind]⟩, rfl⟩⟩)
    | hand w ps =>
      obtain ⟨q, z, pr, h1, h2, h3, rfl⟩ := hb
      refine ⟨(p, w, q), h2, lTri n (p, w, q) false pr (p, pr.1, z), ?_, rfl⟩
      have hh : lHas ppl (.hand w ps) (p, w, q) = true := lHas_of hp (by show ¬ ("hand" : Str) = "make"; decide) rfl
      have e : (Rule.hand w ps).isF = false := isF_hand
      unfold lRow
      rw [if_pos hh]
      refine List.mem_append_right _ (List.mem_flatMap.mpr ⟨pr, h1, List.mem_map.mpr ⟨_, List.mem_filter.mpr ⟨h3, by rw [e]; simp [lHit]⟩, by rw [e]⟩⟩)
    | rais a b =>
      obtain ⟨q, h1, rfl⟩ := hb
      have hh : lHas ppl (.rais a b) (p, a, q) = true := lHas_of hp (by show ¬ ("raise" : Str) = "make"; decide) rfl
      refine ⟨(p, a, q), h1, (.three n p q, [(p, a, q)], (p, b, q)), ?_, rfl⟩
      unfold lRow
      rw [if_pos hh]
      exact List.mem_append_left _ (List.mem_append_left _ (List.mem_singleton.mpr rfl))
    | meet a b c =>
      obtain ⟨q, h1, h2, rfl⟩ := hb
      have hh : lHas ppl (.meet a b c) (p, a, q) = true := lHas_of hp (by show ¬ ("meet" : Str) = "make"; decide) rfl
      refine ⟨(p, a, q), h1, (.three n p q, [(p, a, q), (p, b, q)], (p, c, q)), ?_, rfl⟩
      unfold lRow
      rw [if_pos hh]
      refine List.mem_append_left _ (List.mem_append_right _ ?_)
      show _ ∈ (if (p, b, q) ∈ rts then [((.three n p q, [(p, a, q), (p, b, q)], (p, c, q)) : Tri)] else [])
      rw [if_pos h2]
      exact List.mem_singleton.mpr rfl
    | make ws => exact hb.elim
theorem lAll_got {rs : List Rule} {rts : List Rt} {ppl : List Str} {g : Rt} : (∃ x ∈ lAll rs rts ppl, x.2.2 = g) ↔ ∃ rl ∈ rs, ∃ p ∈ ppl, BrR (fun t => t ∈ rts) p rl g := by
  constructor
  · rintro ⟨x, hx, e⟩
    obtain ⟨⟨r, n⟩, h1, h2⟩ := List.mem_flatMap.mp hx
    obtain ⟨t, h3, h4⟩ := List.mem_flatMap.mp h2
    obtain ⟨p, hp, hb⟩ := brR_l.mp ⟨t, h3, x, h4, e⟩
    exact ⟨r, List.mem_of_getElem? (List.mem_zipIdx_iff_getElem?.mp h1), p, hp, hb⟩
  · rintro ⟨r, h1, p, hp, hb⟩
    obtain ⟨n, hn⟩ := List.getElem?_of_mem h1
    obtain ⟨t, h3, x, h4, e⟩ := brR_l.mpr ⟨p, hp, hb⟩
    exact ⟨x, List.mem_flatMap.mpr ⟨(r, n), List.mem_zipIdx_iff_getElem?.mpr hn, List.mem_flatMap.mpr ⟨t, h3, h4⟩⟩, e⟩
structure LbOk (i : DoIn) : Prop where
  ok : ∀ r ∈ i.rs, r.Ok
  six : i.rs.length ≤ 6
  two : ∀ r ∈ i.rs, (prsOf r).length ≤ 2
  lr : i.rts.length ≤ 400
  cm : ∀ r ∈ i.rts, okR r
def sp_law_brings (K : PySem.W.Frag) : Sp := SpI (fun (i : DoIn) vs G => ∃ v1 v2 v3, vs = [v1, v2, v3] ∧ Dp K G v1 (.list (i.rs.map ruleD)) ∧ Dp K G v2 (.list (i.ppl.map sD)) ∧ Dp K G v3 (.list (i.rts.map rD)) ∧ LbOk i) (fun i => DD K (.list ((lAll i.rs i.rts i.ppl).map trD)))
theorem lAll_len {i : DoIn} (ok : LbOk i) : (lAll i.rs i.rts i.ppl).length ≤ 16000000 := by
  have h1 : ∀ x ∈ i.rs.zipIdx, (i.rts.flatMap (lRow i.rts i.ppl x)).length ≤ 400 * 802 := fun x hx => by
    obtain ⟨r, n⟩ := x
    have hr := List.mem_of_getElem? (List.mem_zipIdx_iff_getElem?.mp hx)
    refine Nat.le_trans (len_flatB (n := 802) fun t _ => ?_) (Nat.mul_le_mul_right _ ok.lr)
    unfold lRow
    split
    · unfold lOne
      have a1 : (l1 r n t).length ≤ 1 := by cases r <;> simp [l1]
      have a2 : (l2 r n t i.rts).length ≤ 1 := by
        cases r with
        | meet a b c =>
          show (if _ then _ else _ : List Tri).length ≤ 1
          split <;> simp
        | _ => simp [l2]
      have a3 := len_flatB (l := prsOf r) (n := 400) (f := lPair n t i.rts r.isF) fun pr _ => by
        unfold lPair
        rw [List.length_map]
        exact Nat.le_trans (List.length_filter_le _ _) ok.lr
      have a4 := ok.two r hr
      rw [List.length_append, List.length_append]
      show (l1 r n t).length + (l2 r n t i.rts).length + ((prsOf r).flatMap (lPair n t i.rts r.isF)).length ≤ 802
      omega
    · exact Nat.zero_le _
  have z := len_flatB (l := i.rs.zipIdx) (n := 400 * 802) h1
  have z2 : (lAll i.rs i.rts i.ppl).length ≤ i.rs.zipIdx.length * (400 * 802) := z
  rw [List.length_zipIdx] at z2
  have := ok.six
  omega
end Hk

set_option Elab.async false
set_option linter.all false
set_option maxRecDepth 100000
set_option maxHeartbeats 2000000
/-! _law_brings: the walk. -/
namespace Hk
open PySem PySem.Spec PyProof.Rows L2
@[irreducible] def bdN (a b : Nat) : Nat := a * 320800 + b * 802
theorem bdN_eq (a b : Nat) : bdN a b = a * 320800 + b * 802 := by unfold bdN; rfl
/-- our list at l stands for ds, no longer than n -/
structure LSt (K : PySem.W.Frag) (G0 H0 G H : Hp) (l : Addr) (ds : List PyData) (n : Nat) : Prop where
  gr : Gr G0 H0 G H
  no : G l = none
  ex : ∃ xs, H l = some (.lst xs) ∧ DpAll K G xs ds ∧ xs.length ≤ n
section
variable {K : PySem.W.Frag} {σ : L2.St} {G0 H0 G H G2 H2 : Hp} {l : Addr} {ds : List PyData} {n m : Nat} {te : TE} {tt : TT} {u : TS} {D : Ends} {d : PyData}
theorem LSt.up (h : LSt K G0 H0 G H l ds n) (g : Gr G H G2 H2) : LSt K G0 H0 G2 H2 l ds n := by
  obtain ⟨xs, h1, h2, h3⟩ := h.ex
  exact ⟨h.gr.trans g, g.old _ _ h.no h1 ntL, xs, g.hh _ _ h1, DpAll.up g.gg _ _ h2, h3⟩
theorem LSt.le (h : LSt K G0 H0 G H l ds n) (e : n ≤ m) : LSt K G0 H0 G H l ds m := by
  obtain ⟨xs, h1, h2, h3⟩ := h.ex
  exact ⟨h.gr, h.no, xs, h1, h2, by omega⟩
theorem LSt.is {ds' : List PyData} (h : LSt K G0 H0 G H l ds n) (e : ds = ds') : LSt K G0 H0 G H l ds' n := e ▸ h
theorem ls_app {i : Nat} (h : LSt K G0 H0 G H l ds n) (h0 : H0 l = none) (hi : σ[i]? = some (some (.ref l))) (hn : n < sizeLine) (he : EvP te σ G (DD K d)) (k : ∀ G2 H2, Same G G2 → LSt K G0 H0 G2 H2 l (ds ++ [d]) (n + 1) → D.nx σ H2) :
    tDrop (tBM K "list" rAppend (tVar i) (tCons te tNil)) D σ H := by
  obtain ⟨xs, h1, h2, h3⟩ := h.ex
  refine run_append (K := K) h.gr he hi h1 h.no h0 (by omega) fun v G2 H2 g2 hg s hv e => k G2 H2 s ⟨g2, hg, _, e, DpAll.snoc (DpAll.up s _ _ h2) hv, by rw [List.length_append, List.length_singleton]; omega⟩
theorem seq_ifApp {i : Nat} {b : Bool} (h : EvB tt σ G b) (ls : LSt K G0 H0 G H l ds n) (h0 : H0 l = none) (hi : σ[i]? = some (some (.ref l))) (hn : n < sizeLine) (he : b = true → ∀ G2, Same G G2 → EvP te σ G2 (DD K d))
    (k : ∀ G2 H2, Same G G2 → LSt K G0 H0 G2 H2 l (if b = true then ds ++ [d] else ds) (n + 1) → u D σ H2) : tSeq (tIfS tt (tDrop (tBM K "list" rAppend (tVar i) (tCons te tNil))) tNext) u D σ H := by
  refine seq_ifB h ls.gr.sub (fun hb G2 H2 g => ?_) (fun hb G2 H2 g => ?_)
  · refine ls_app (ls.up g) h0 hi hn (he hb G2 g.gg) fun G3 H3 s l3 => k G3 H3 (g.gg.trans s) ?_
    rw [if_pos hb]
    exact l3
  · refine k G2 H2 g.gg ?_
    rw [hb, if_neg (by simp)]
    exact (ls.up g).le (Nat.le_succ _)
theorem ev_tri {t1 t2 t3 : TE} {x : Tri} (h1 : EvP t1 σ G (DD K (deedD x.1))) (h2 : EvP t2 σ G (DD K (.list (x.2.1.map rD)))) (h3 : EvP t3 σ G (DD K (rD x.2.2))) : EvP (tTup (tCons t1 (tCons t2 (tCons t3 tNil)))) σ G (DD K (trD x)) :=
  ev_tup (ead_cons h1 (ead_cons h2 (ead_cons h3 ead_nil))) (by show 3 ≤ 1000; decide)
theorem eqv_rD (a b : Rt) : PyData.eqv (rD a) (rD b) = decide (a = b) := by
  obtain ⟨a1, a2, a3⟩ := a
  obtain ⟨b1, b2, b3⟩ := b
  simp [rD, PyData.eqv, PyData.eqvAll]
  rfl
theorem any_rD {x : Rt} : ∀ {l : List Rt}, ((l.map rD).any fun z => PyData.eqv z (rD x)) = decide (x ∈ l)
  | [] => rfl
  | a :: l => by
    rw [List.map_cons, List.any_cons, any_rD, eqv_rD]
    by_cases h : a = x
    · subst h; simp
    · simp [h, Ne.symm h]
theorem ev_inR {ta tb : TE} {x : Rt} {l : List Rt} (h1 : EvP ta σ G (DD K (rD x))) (h2 : EvP tb σ G (DD K (.list (l.map rD)))) (hx : okR x) (hl : ∀ r ∈ l, okR r) : EvP (tOp (rInD K) ta tb) σ G (IsV (.bl (decide (x ∈ l)))) := by
  have cs : SeqAt.shaped (.list (l.map rD)) = true := (Cm.list (n := 1) fun d hd => by
    obtain ⟨y, hy, e⟩ := List.mem_map.mp hd
    rw [← e]
    exact cm_right (hl y hy).1 (hl y hy).2.1 (hl y hy).2.2).ok (by decide)
  have z := ev_inD h1 h2 ((cm_right hx.1 hx.2.1 hx.2.2).ok (by decide)) cs
  rwa [any_rD] at z
def b2Of (rts : List Rt) (t : Rt) : Rule → Bool
  | .meet _ b _ => decide ((t.1, b, t.2.2) ∈ rts)
  | _ => false
def d1Of (n : Nat) (t : Rt) : Rule → PyData
  | .rais _ b => trD (.three n t.1 t.2.2, [t], (t.1, b, t.2.2))
  | _ => .none
def d2Of (n : Nat) (t : Rt) : Rule → PyData
  | .meet _ b c => trD (.three n t.1 t.2.2, [t, (t.1, b, t.2.2)], (t.1, c, t.2.2))
  | _ => .none
theorem kind_ne {a b : Str} {p : Prop} (h : decide (a = b) = true) (n : ¬ a = b) : p := absurd (of_decide_eq_true h) n
theorem l1_is {r : Rule} {n : Nat} {t : Rt} {pre : List Tri} : (if decide (r.kind = ("raise" : Str)) = true then pre.map trD ++ [d1Of n t r] else pre.map trD) = (pre ++ l1 r n t).map trD := by
  cases r with
  | rais a b => rw [if_pos (show decide ((Rule.rais a b).kind = ("raise" : Str)) = true from decide_eq_true rfl), List.map_append]; rfl
  | fetch a b => rw [if_neg (fun z => kind_ne z (by show ¬ ("fetch" : Str) = "raise"; decide))]; simp [l1]
  | hand a b => rw [if_neg (fun z => kind_ne z (by show ¬ ("hand" : Str) = "raise"; decide))]; simp [l1]
  | meet a b c => rw [if_neg (fun z => kind_ne z (by show ¬ ("meet" : Str) = "raise"; decide))]; simp [l1]
  | make a => rw [if_neg (fun z => kind_ne z (by show ¬ ("make" : Str) = "raise"; decide))]; simp [l1]
theorem l2_is {r : Rule} {n : Nat} {t : Rt} {rts : List Rt} {pre : List Tri} : (if b2Of rts t r = true then pre.map trD ++ [d2Of n t r] else pre.map trD) = (pre ++ l2 r n t rts).map trD := by
  cases r with
  | meet a b c =>
    by_cases h : (t.1, b, t.2.2) ∈ rts
    · rw [show b2Of rts t (.meet a b c) = true from decide_eq_true h, if_pos rfl, show l2 (.meet a b c) n t rts = [(.three n t.1 t.2.2, [t, (t.1, b, t.2.2)], (t.1, c, t.2.2))] from if_pos h, List.map_append]; rfl
    · rw [show b2Of rts t (.meet a b c) = false from decide_eq_false h, if_neg (by simp), show l2 (.meet a b c) n t rts = [] from if_neg h, List.append_nil]
  | rais a b => simp [b2Of, l2]
  | fetch a b => simp [b2Of, l2]
  | hand a b => simp [b2Of, l2]
  | make a => simp [b2Of, l2]
theorem ev_prs {ta : TE} {r : Rule} (h : EvP ta σ G (DD K (ruleD r))) : EvP (tIf (tTest (tOp (rIn K false) (tOp (rIxT K) ta (tC (.int 0))) (tTup (tCons (tC (.str "fetch")) (tCons (tC (.str "hand")) tNil))))) (tOp (rIxT K) ta (tC (.int 2))) (tTup tNil)) σ G (DD K (.tuple ((prsOf r).map pD))) := by
  refine ev_if (eb_test (ev_in2 (ev_kind h))) mon_dd (fun hb => ?_) (fun hb => ?_)
  · have hb := of_decide_eq_true hb
    cases r with
    | fetch a b => exact ev_ixT (ds := [.str "fetch", .str a, .tuple (b.map pD)]) h (ev_c rfl) rfl
    | hand a b => exact ev_ixT (ds := [.str "hand", .str a, .tuple (b.map pD)]) h (ev_c rfl) rfl
    | rais a b => exact absurd hb (by show ¬ ("raise" : Str) ∈ (["fetch", "hand"] : List Str); decide)
    | meet a b c => exact absurd hb (by show ¬ ("meet" : Str) ∈ (["fetch", "hand"] : List Str); decide)
    | make a => exact absurd hb (by show ¬ ("make" : Str) ∈ (["fetch", "hand"] : List Str); decide)
  · have hb := of_decide_eq_false hb
    cases r with
    | fetch a b => exact absurd (show ("fetch" : Str) ∈ (["fetch", "hand"] : List Str) by decide) hb
    | hand a b => exact absurd (show ("hand" : Str) ∈ (["fetch", "hand"] : List Str) by decide) hb
    | rais a b => exact ev_tup ead_nil (Nat.zero_le _)
    | meet a b c => exact ev_tup ead_nil (Nat.zero_le _)
    | make a => exact ev_tup ead_nil (Nat.zero_le _)
end
section
variable {P : Program} {w : World} {K : PySem.W.Frag} {mg : Str → Option Value} {base : Heap} {S Po : Addr} (T : Tx K mg S Po)
include T
theorem ok_law_brings : Fn P w K mg base 1 "_law_brings" ["_law_rules_here", "_law_people", "_law_rights"] (sp_law_brings K) := by
  refine fn_mk (N := ["_law_rules_here", "_law_people", "_law_rights", "_law_found", "_law_number_here", "_law_rule", "_law_actor", "_law_word", "_law_other", "_law_pair", "_law_owner", "_law_gets", "_law_first", "_law_second", "_law_over", "_law_asked"]) T.f_law_brings (fun F => F.bindsN fun _ _ _ _ _ _ us hl => match us, hl with | [_, _, _], _ => rfl) sc_law_brings (fun vs H Q E h => ?_) fun f cdv A outer s H vs Q E hr h => ?_
  · obtain ⟨n, G, sm, ⟨v1, v2, v3, rfl, _⟩, _⟩ := h
    rfl
  · obtain ⟨i, G, sm, ⟨v1, v2, v3, rfl, h1, h2, h3, ok⟩, q⟩ := h
    have hu := hu_of hr
    have hu65 : A.units + 3 + 65 < cLine := by have := hr.un; show A.units + 3 + 65 < cLine; have h2 : (A.deeper (envOfC "_law_brings" (defScope s_law_brings) s.heap.objs.size f cdv)).units = A.units + 3 := rfl; omega
    refine ⟨_, PSs.nox (pss_cons (ps_set (i := 3) sc_law_brings.nd rfl (Or.inl rfl) (pe_lst pa_nil))
    (pss_cons (ps_for PassesOwn.never rfl (pi_enum (by rfl) T.b_enumerate (pa_cons (pv 0) pa_nil)) (pg_tup rfl (pgs_cons (pg_name (i := 4) sc_law_brings.nd rfl (Or.inl rfl)) (pgs_cons (pg_name (i := 5) sc_law_brings.nd rfl (Or.inl rfl)) pgs_nil)))
    (pss_one (ps_for PassesOwn.never rfl (pi_list (pv 2)) (pg_tup rfl (pgs_cons (pg_name (i := 6) sc_law_brings.nd rfl (Or.inl rfl)) (pgs_cons (pg_name (i := 7) sc_law_brings.nd rfl (Or.inl rfl)) (pgs_cons (pg_name (i := 8) sc_law_brings.nd rfl (Or.inl rfl)) pgs_nil))))
    (pss_one (ps_if (PW.pt (pw_and (pt_cmpR op_in_seq (pv 6) (pv 1) rfl) (pw_and (pt_cmpR op_ne (pe_ix ix_tup (pv 5) pe_int (fun _ _ => rfl)) pe_str (nomark _)) (pw_and1 (pt_cmpR op_eq (pv 7) (pe_ix ix_tup (pv 5) pe_int (fun _ _ => rfl)) (nomark _))))))
    (pss_cons (ps_if (pt_cmpR op_eq (pe_ix ix_tup (pv 5) pe_int (fun _ _ => rfl)) pe_str (nomark _))
    (pss_one (ps_expr (pe_bm PySem.F.plainAttrs_list PySem.F.slot_list_append PySem.F.type_list_append mt_append (pv 3) (pa_cons (pe_tup (pa_cons (pe_tup (pa_cons (pv 4) (pa_cons (pv 6) (pa_cons (pv 8) pa_nil)))) (pa_cons (pe_lst (pa_cons (pe_tup (pa_cons (pv 6) (pa_cons (pv 7) (pa_cons (pv 8) pa_nil)))) pa_nil)) (pa_cons (pe_tup (pa_cons (pv 6) (pa_cons (pe_ix ix_tup (pv 5) pe_int (fun _ _ => rfl)) (pa_cons (pv 8) pa_nil)))) pa_nil)))) pa_nil)))) pss_nil)
    (pss_cons (ps_if (PW.pt (pw_and (pt_cmpR op_eq (pe_ix ix_tup (pv 5) pe_int (fun _ _ => rfl)) pe_str (nomark _)) (pw_and1 (pt_cmpR (op_inD hu65) (pe_tup (pa_cons (pv 6) (pa_cons (pe_ix ix_tup (pv 5) pe_int (fun _ _ => rfl)) (pa_cons (pv 8) pa_nil)))) (pv 2) rfl))))
    (pss_one (ps_expr (pe_bm PySem.F.plainAttrs_list PySem.F.slot_list_append PySem.F.type_list_append mt_append (pv 3) (pa_cons (pe_tup (pa_cons (pe_tup (pa_cons (pv 4) (pa_cons (pv 6) (pa_cons (pv 8) pa_nil)))) (pa_cons (pe_lst (pa_cons (pe_tup (pa_cons (pv 6) (pa_cons (pv 7) (pa_cons (pv 8) pa_nil)))) (pa_cons (pe_tup (pa_cons (pv 6) (pa_cons (pe_ix ix_tup (pv 5) pe_int (fun _ _ => rfl)) (pa_cons (pv 8) pa_nil)))) pa_nil))) (pa_cons (pe_tup (pa_cons (pv 6) (pa_cons (pe_ix ix_tup (pv 5) pe_int (fun _ _ => rfl)) (pa_cons (pv 8) pa_nil)))) pa_nil)))) pa_nil)))) pss_nil)
    (pss_one (ps_for PassesOwn.never rfl (pi_tup (pe_ifExp (pt_cmpR op_in_seq (pe_ix ix_tup (pv 5) pe_int (fun _ _ => rfl)) (pe_tup (pa_cons pe_str (pa_cons pe_str pa_nil))) rfl) (pe_ix ix_tup (pv 5) pe_int (fun _ _ => rfl)) (pe_tup pa_nil))) (pg_name (i := 9) sc_law_brings.nd rfl (Or.inl rfl))
    (pss_cons (ps_asg (pe_ifExp (pt_cmpR op_eq (pe_ix ix_tup (pv 5) pe_int (fun _ _ => rfl)) pe_str (nomark _)) (pe_tup (pa_cons (pv 8) (pa_cons (pv 6) pa_nil))) (pe_tup (pa_cons (pv 6) (pa_cons (pv 8) pa_nil)))) (pg_tup rfl (pgs_cons (pg_name (i := 10) sc_law_brings.nd rfl (Or.inl rfl)) (pgs_cons (pg_name (i := 11) sc_law_brings.nd rfl (Or.inl rfl)) pgs_nil))))
    (pss_one (ps_for PassesOwn.never rfl (pi_list (pv 2)) (pg_tup rfl (pgs_cons (pg_name (i := 12) sc_law_brings.nd rfl (Or.inl rfl)) (pgs_cons (pg_name (i := 13) sc_law_brings.nd rfl (Or.inl rfl)) (pgs_cons (pg_name (i := 14) sc_law_brings.nd rfl (Or.inl rfl)) pgs_nil))))
    (pss_one (ps_if (PW.pt (pw_and (pt_cmpR op_eq (pv 12) (pv 10) (nomark _)) (pw_and1 (pt_cmpR op_eq (pv 13) (pe_ix ix_tup (pv 9) pe_int (fun _ _ => rfl)) (nomark _)))))
    (pss_cons (ps_set (i := 15) sc_law_brings.nd rfl (Or.inl rfl) (pe_lst (pa_cons (pe_tup (pa_cons (pv 6) (pa_cons (pv 7) (pa_cons (pv 8) pa_nil)))) (pa_cons (pe_tup (pa_cons (pv 12) (pa_cons (pv 13) (pa_cons (pv 14) pa_nil)))) pa_nil))))
    (pss_one (ps_expr (pe_bm PySem.F.plainAttrs_list PySem.F.slot_list_append PySem.F.type_list_append mt_append (pv 3) (pa_cons (pe_tup (pa_cons (pe_tup (pa_cons (pv 4) (pa_cons (pv 6) (pa_cons (pv 8) (pa_cons (pv 14) (pa_cons (pv 9) pa_nil)))))) (pa_cons (pv 15) (pa_cons (pe_tup (pa_cons (pv 11) (pa_cons (pe_ix ix_tup (pv 9) pe_int (fun _ _ => rfl)) (pa_cons (pv 14) pa_nil)))) pa_nil)))) pa_nil))))) pss_nil))))))))) pss_nil)))))
    (pss_one (ps_ret (pv 3))))), ?_⟩
    have lr := ok.lr
    have six := ok.six
    refine seq_setM (em_lst (K := K) ead_nil (by decide)) sm fun l o G1 H1 g1 h0 hg e eo => ?_
    obtain ⟨xs0, eo, hx0⟩ := eo
    subst eo
    cases hx0
    have ls1 : LSt K G H G1 H1 l [] 0 := ⟨g1, hg, [], e, .nil, Nat.zero_le _⟩
    have sL : sizeLine = 16777216 := sizeLine_eq
    refine seq_for (src_enum (bs := i.rs) (enc := ruleD) (ev_var rfl (Dp.up g1.gg _ _ h1))) g1.sub fun G2 H2 g2 => ⟨fun a σ' G' H' => LSt K G H G' H' l (((i.rs.zipIdx.take a).flatMap fun rn => i.rts.flatMap (lRow i.rts i.ppl rn)).map trD) (a * 320800) ∧ ∃ x4 x5 x6 x7 x8 x9 x10 x11 x12 x13 x14 x15, σ' = [some v1, some v2, some v3, some (.ref l), x4, x5, x6, x7, x8, x9, x10, x11, x12, x13, x14, x15],
      ⟨((ls1.up g2).le (Nat.zero_le _)).is rfl, _, _, _, _, _, _, _, _, _, _, _, _, rfl⟩, ?_, ?_⟩
    · rintro a ⟨r, rn⟩ σ' G' H' hb s1 s2 ⟨ls, x4, x5, x6, x7, x8, x9, x10, x11, x12, x13, x14, x15, rfl⟩ y G3 H3 g3 iy
      obtain ⟨w4, w5, p4, p5, tg⟩ := tgt_2 (σ := [some v1, some v2, some v3, some (.ref l), x4, x5, x6, x7, x8, x9, x10, x11, x12, x13, x14, x15]) (g1 := gName 4) (g2 := gName 5) iy (fun v1 _ => tgt_name) (fun v1 v2 _ _ => tgt_name)
      refine tg H3 g3.sub _ ?_
      have e4 := dp_int p4
      subst e4
      have ls3 := ls.up g3
      have ha6 : a < 6 := by
        have := (List.getElem?_eq_some_iff.mp hb).1
        rw [List.length_zipIdx] at this
        omega
      have hrm : r ∈ i.rs := by
        obtain ⟨q1, q2⟩ := List.getElem?_eq_some_iff.mp hb
        have z := List.mem_zipIdx_iff_getElem?.mp (List.getElem_mem q1)
        rw [q2] at z
        exact List.mem_of_getElem? z
      have okr := ok.ok r hrm
      have s23 : Same G2 G3 := s1.trans g3.gg
      generalize hpre : ((i.rs.zipIdx.take a).flatMap fun rn => i.rts.flatMap (lRow i.rts i.ppl rn)) = pre at ls3
      refine for_src (σ := [some v1, some v2, some v3, some (.ref l), some (.int rn), some w5, x6, x7, x8, x9, x10, x11, x12, x13, x14, x15]) (src_list (bs := i.rts) (enc := rD) (ev_var rfl (Dp.up ls3.gr.gg _ _ h3))) g3.sub fun G4 H4 g4 => ⟨fun b σ' G' H' => LSt K G H G' H' l ((pre ++ (i.rts.take b).flatMap (lRow i.rts i.ppl (r, rn))).map trD) (bdN a b) ∧ ∃ x6 x7 x8 x9 x10 x11 x12 x13 x14 x15, σ' = [some v1, some v2, some v3, some (.ref l), some (.int rn), some w5, x6, x7, x8, x9, x10, x11, x12, x13, x14, x15],
        ⟨((ls3.up g4).le (by rw [bdN_eq]; exact Nat.le_add_right _ _)).is (by rw [List.take_zero, List.flatMap_nil, List.append_nil]), _, _, _, _, _, _, _, _, _, _, rfl⟩, ?_, ?_⟩
      · rintro b t σ' G' H' hbt t1 t2 ⟨ls, x6, x7, x8, x9, x10, x11, x12, x13, x14, x15, rfl⟩ z G5 H5 g5 iz
        obtain ⟨w6, w7, w8, p6, p7, p8, tg⟩ := tgt_3 (σ := [some v1, some v2, some v3, some (.ref l), some (.int rn), some w5, x6, x7, x8, x9, x10, x11, x12, x13, x14, x15]) (g1 := gName 6) (g2 := gName 7) (g3 := gName 8) iz (fun v1 _ => tgt_name) (fun v1 v2 _ _ => tgt_name) (fun v1 v2 v3 _ _ _ => tgt_name)
        refine tg H5 g5.sub _ ?_
        have e6 := dp_str p6
        have e7 := dp_str p7
        have e8 := dp_str p8
        subst e6 e7 e8
        have ls5 := ls.up g5
        have hb4 : b < 400 := by
          have := (List.getElem?_eq_some_iff.mp hbt).1
          omega
        have r5 : Dp K G5 w5 (ruleD r) := Dp.up ((g4.gg.trans t1).trans g5.gg) _ _ p5
        have s45 : Same G4 G5 := t1.trans g5.gg
        generalize hpre2 : pre ++ (i.rts.take b).flatMap (lRow i.rts i.ppl (r, rn)) = pre2 at ls5
        have fin : ∀ (G' H' : Hp) (σ' : L2.St), Same G5 G' → LSt K G H G' H' l ((pre2 ++ lRow i.rts i.ppl (r, rn) t).map trD) (bdN a b + 802) → (∃ x6 x7 x8 x9 x10 x11 x12 x13 x14 x15, σ' = [some v1, some v2, some v3, some (.ref l), some (.int rn), some w5, x6, x7, x8, x9, x10, x11, x12, x13, x14, x15]) →
            ∃ G'', Same G4 G'' ∧ Same G'' H' ∧ LSt K G H G'' H' l ((pre ++ (i.rts.take (b + 1)).flatMap (lRow i.rts i.ppl (r, rn))).map trD) (bdN a (b + 1)) ∧ ∃ x6 x7 x8 x9 x10 x11 x12 x13 x14 x15, σ' = [some v1, some v2, some v3, some (.ref l), some (.int rn), some w5, x6, x7, x8, x9, x10, x11, x12, x13, x14, x15] := fun G' H' σ' sg lg hs =>
          ⟨G', s45.trans sg, lg.gr.sub, (lg.le (by rw [bdN_eq, bdN_eq]; omega)).is (by rw [take_flat hbt, ← List.append_assoc, hpre2]), hs⟩
        have s05 := ls5.gr.gg
        refine run_if (b := lHas i.ppl r t) (eb_and (eb_test (ev_inS (ev_var (P := IsV (.str t.1)) rfl rfl) (ev_var rfl (Dp.up s05 _ _ h2)))) fun _ => eb_and (eb_test (ev_neS (ev_kind (ev_var rfl r5)) (ev_c rfl))) fun hk => eb_test (ev_eqS (ev_var (P := IsV (.str t.2.1)) rfl rfl) (ev_word (ev_var rfl r5) fun z => by rw [decide_eq_true z] at hk; cases hk))) g5.sub (fun hw G6 H6 g6 => ?_) (fun hw G6 H6 g6 => ?_)
        · have erow : lRow i.rts i.ppl (r, rn) t = lOne r rn t i.rts := if_pos hw
          rw [erow] at fin
          have bnl : bdN a b ≤ 1923998 := by rw [bdN_eq]; omega
          generalize hbn : bdN a b = bn at ls5 fin bnl
          have ls6 := ls5.up g6
          have r6 := Dp.up g6.gg _ _ r5
          have cmt := ok.cm t (List.mem_of_getElem? hbt)
          let σ0 : L2.St := [some v1, some v2, some v3, some (.ref l), some (.int rn), some w5, some (.str t.1), some (.str t.2.1), some (.str t.2.2), x9, x10, x11, x12, x13, x14, x15]
          have dee : ∀ G', EvP (tTup (tCons (tVar 4) (tCons (tVar 6) (tCons (tVar 8) tNil)))) σ0 G' (DD K (deedD (.three rn t.1 t.2.2))) := fun G' =>
            ev_tup (ead_cons (int_dd (ev_var rfl rfl)) (ead_cons (str_dd (ev_var rfl rfl)) (ead_cons (str_dd (ev_var rfl rfl)) ead_nil))) (by show 3 ≤ 1000; decide)
          have itm : ∀ G', EvP (tTup (tCons (tVar 6) (tCons (tVar 7) (tCons (tVar 8) tNil)))) σ0 G' (DD K (rD t)) := fun G' =>
            ev_r3 (str_dd (ev_var rfl rfl)) (str_dd (ev_var rfl rfl)) (str_dd (ev_var rfl rfl))
          refine seq_ifApp (d := d1Of rn t r) (b := decide (r.kind = ("raise" : Str))) (i := 3) (eb_test (ev_eqS (ev_kind (ev_var rfl r6)) (ev_c rfl))) ls6 h0 rfl (by omega) (fun hk G' sg => ?_) fun G7 H7 s67 ls7 => ?_
          · cases r with
            | rais a' b' => exact ev_tri (x := (.three rn t.1 t.2.2, [t], (t.1, b', t.2.2))) (dee G') (ev_l1 (itm G')) (ev_r3 (str_dd (ev_var rfl rfl)) (ev_ixT (ds := [.str "raise", .str a', .str b']) (ev_var rfl (Dp.up sg _ _ r6)) (ev_c rfl) rfl) (str_dd (ev_var rfl rfl)))
            | fetch a' b' => exact kind_ne hk (by show ¬ ("fetch" : Str) = "raise"; decide)
            | hand a' b' => exact kind_ne hk (by show ¬ ("hand" : Str) = "raise"; decide)
            | meet a' b' c' => exact kind_ne hk (by show ¬ ("meet" : Str) = "raise"; decide)
            | make a' => exact kind_ne hk (by show ¬ ("make" : Str) = "raise"; decide)
          rw [l1_is] at ls7
          have r7 := Dp.up s67 _ _ r6
          have h37 := Dp.up ls7.gr.gg _ _ h3
          refine seq_ifApp (d := d2Of rn t r) (b := b2Of i.rts t r) (i := 3) (eb_is (eb_and (a := decide (r.kind = ("meet" : Str))) (b := b2Of i.rts t r) (eb_test (ev_eqS (ev_kind (ev_var rfl r7)) (ev_c rfl))) fun hk => ?_) ?_) ls7 h0 rfl (by omega) (fun hk G' sg => ?_) fun G8 H8 s78 ls8 => ?_
          · cases r with
            | meet a' b' c' =>
              have okm : isW a' = true ∧ isW b' = true ∧ isW c' = true := okr
              refine eb_test (ev_inR (x := (t.1, b', t.2.2)) (ev_r3 (str_dd (ev_var rfl rfl)) (ev_ixT (ds := [.str "meet", .str a', .str b', .str c']) (ev_var rfl r7) (ev_c rfl) rfl) (str_dd (ev_var rfl rfl))) (ev_var rfl h37) ⟨cmt.1, okT_isW okm.2.1, cmt.2.2⟩ ok.cm)
            | fetch a' b' => exact kind_ne hk (by show ¬ ("fetch" : Str) = "meet"; decide)
            | hand a' b' => exact kind_ne hk (by show ¬ ("hand" : Str) = "meet"; decide)
            | rais a' b' => exact kind_ne hk (by show ¬ ("raise" : Str) = "meet"; decide)
            | make a' => exact kind_ne hk (by show ¬ ("make" : Str) = "meet"; decide)
          · cases r with
            | meet a' b' c' => rw [decide_eq_true (show (Rule.meet a' b' c').kind = ("meet" : Str) from rfl), Bool.true_and]
            | fetch a' b' => exact Bool.and_false _
            | hand a' b' => exact Bool.and_false _
            | rais a' b' => exact Bool.and_false _
            | make a' => exact Bool.and_false _
          · cases r with
            | meet a' b' c' => exact ev_tri (x := (.three rn t.1 t.2.2, [t, (t.1, b', t.2.2)], (t.1, c', t.2.2))) (dee G') (ev_l2 (itm G') (ev_r3 (str_dd (ev_var rfl rfl)) (ev_ixT (ds := [.str "meet", .str a', .str b', .str c']) (ev_var rfl (Dp.up sg _ _ r7)) (ev_c rfl) rfl) (str_dd (ev_var rfl rfl)))) (ev_r3 (str_dd (ev_var rfl rfl)) (ev_ixT (ds := [.str "meet", .str a', .str b', .str c']) (ev_var rfl (Dp.up sg _ _ r7)) (ev_c rfl) rfl) (str_dd (ev_var rfl rfl)))
            | fetch a' b' => exact absurd (show false = true from hk) (by decide)
            | hand a' b' => exact absurd (show false = true from hk) (by decide)
            | rais a' b' => exact absurd (show false = true from hk) (by decide)
            | make a' => exact absurd (show false = true from hk) (by decide)
          rw [l2_is] at ls8
          have r8 := Dp.up s78 _ _ r7
          have s58 : Same G5 G8 := (g6.gg.trans s67).trans s78
          have tw := ok.two r hrm
          generalize hp3 : pre2 ++ l1 r rn t ++ l2 r rn t i.rts = pre3 at ls8
          refine for_src (src_tup (bs := prsOf r) (enc := pD) (ev_prs (ev_var (i := 5) rfl r8))) ls8.gr.sub fun G9 H9 g9 => ⟨fun c σ' G' H' => LSt K G H G' H' l ((pre3 ++ ((prsOf r).take c).flatMap (lPair rn t i.rts r.isF)).map trD) (bn + 2 + c * 400) ∧ ∃ x9 x10 x11 x12 x13 x14 x15, σ' = [some v1, some v2, some v3, some (.ref l), some (.int rn), some w5, some (.str t.1), some (.str t.2.1), some (.str t.2.2), x9, x10, x11, x12, x13, x14, x15],
            ⟨((ls8.up g9).le (by omega)).is (by rw [List.take_zero, List.flatMap_nil, List.append_nil]), _, _, _, _, _, _, _, rfl⟩, ?_, ?_⟩
          · rintro c pr σ' G' H' hbp u1 u2 ⟨ls, x9, x10, x11, x12, x13, x14, x15, rfl⟩ z2 G10 H10 g10 iz2
            have ls10 := ls.up g10
            have hc2 : c < 2 := by
              have := (List.getElem?_eq_some_iff.mp hbp).1
              omega
            have r10 := Dp.up ((g9.gg.trans u1).trans g10.gg) _ _ r8
            show tSeq _ _ _ [some v1, some v2, some v3, some (.ref l), some (.int rn), some w5, some (.str t.1), some (.str t.2.1), some (.str t.2.2), some z2, x10, x11, x12, x13, x14, x15] H10
            refine seq_asg2 (K := K) (i := 10) (j := 11) (d1 := .str (if r.isF = true then t.2.2 else t.1)) (d2 := .str (if r.isF = true then t.1 else t.2.2)) (ev_if (b := r.isF) (eb_test (ev_eqS (ev_kind (ev_var rfl r10)) (ev_c rfl))) mon_dd (fun hf => ?_) (fun hf => ?_)) ls10.gr.sub fun y1 y2 G11 H11 g11 q1 q2 => ?_
            · rw [if_pos hf, if_pos hf]
              exact ev_tup (ead_cons (str_dd (ev_var rfl rfl)) (ead_cons (str_dd (ev_var rfl rfl)) ead_nil)) (by show 2 ≤ 1000; decide)
            · rw [if_neg (by rw [hf]; simp), if_neg (by rw [hf]; simp)]
              exact ev_tup (ead_cons (str_dd (ev_var rfl rfl)) (ead_cons (str_dd (ev_var rfl rfl)) ead_nil)) (by show 2 ≤ 1000; decide)
            have e1 := dp_str q1
            have e2 := dp_str q2
            subst e1 e2
            have ls11 := ls10.up g11
            have s10 : Same G9 G11 := (u1.trans g10.gg).trans g11.gg
            have iz11 := Dp.up g11.gg _ _ iz2
            generalize hp4 : pre3 ++ ((prsOf r).take c).flatMap (lPair rn t i.rts r.isF) = pre4 at ls11
            generalize hbm : bn + 2 + c * 400 = bm at ls11
            have bml : bm ≤ 1924400 := by omega
            refine for_src (σ := [some v1, some v2, some v3, some (.ref l), some (.int rn), some w5, some (.str t.1), some (.str t.2.1), some (.str t.2.2), some z2, some (.str (if r.isF = true then t.2.2 else t.1)), some (.str (if r.isF = true then t.1 else t.2.2)), x12, x13, x14, x15]) (src_list (bs := i.rts) (enc := rD) (ev_var rfl (Dp.up ls11.gr.gg _ _ h3))) g11.sub fun G12 H12 g12 => ⟨fun k σ' G' H' => LSt K G H G' H' l ((pre4 ++ ((i.rts.take k).filter (lHit t r.isF pr)).map (lTri rn t r.isF pr)).map trD) (bm + k) ∧ ∃ x12 x13 x14 x15, σ' = [some v1, some v2, some v3, some (.ref l), some (.int rn), some w5, some (.str t.1), some (.str t.2.1), some (.str t.2.2), some z2, some (.str (if r.isF = true then t.2.2 else t.1)), some (.str (if r.isF = true then t.1 else t.2.2)), x12, x13, x14, x15],
              ⟨((ls11.up g12).le (by omega)).is (by rw [List.take_zero, List.filter_nil, List.map_nil, List.append_nil]), _, _, _, _, rfl⟩, ?_, ?_⟩
            · rintro k x σ' G' H' hbx o1 o2 ⟨ls, x12, x13, x14, x15, rfl⟩ z3 G13 H13 g13 iz3
              obtain ⟨w12, w13, w14, p12, p13, p14, tg⟩ := tgt_3 (σ := [some v1, some v2, some v3, some (.ref l), some (.int rn), some w5, some (.str t.1), some (.str t.2.1), some (.str t.2.2), some z2, some (.str (if r.isF = true then t.2.2 else t.1)), some (.str (if r.isF = true then t.1 else t.2.2)), x12, x13, x14, x15]) (g1 := gName 12) (g2 := gName 13) (g3 := gName 14) iz3 (fun v1 _ => tgt_name) (fun v1 v2 _ _ => tgt_name) (fun v1 v2 v3 _ _ _ => tgt_name)
              refine tg H13 g13.sub _ ?_
              have e12 := dp_str p12
              have e13 := dp_str p13
              have e14 := dp_str p14
              subst e12 e13 e14
              have ls13 := ls.up g13
              have hk4 : k < 400 := by
                have := (List.getElem?_eq_some_iff.mp hbx).1
                omega
              have iz13 : Dp K G13 z2 (.tuple [.str pr.1, .str pr.2]) := Dp.up ((g12.gg.trans o1).trans g13.gg) _ _ iz11
              have s12 : Same G12 G13 := o1.trans g13.gg
              refine run_if (b := lHit t r.isF pr x) (eb_and (eb_test (ev_eqS (ev_var (P := IsV (.str x.1)) rfl rfl) (ev_var (P := IsV (.str (if r.isF = true then t.2.2 else t.1))) rfl rfl))) fun _ => eb_test (ev_eqS (ev_var (P := IsV (.str x.2.1)) rfl rfl) (dd_str (ev_ixT (ev_var rfl iz13) (ev_c rfl) rfl)))) g13.sub (fun hh G14 H14 g14 => ?_) (fun hh G14 H14 g14 => ?_)
              · have ls14 := ls13.up g14
                refine seq_set (P := DD K (.list ([t, x].map rD))) (ev_l2 (ev_r3 (str_dd (ev_var rfl rfl)) (str_dd (ev_var rfl rfl)) (str_dd (ev_var rfl rfl))) (ev_r3 (str_dd (ev_var rfl rfl)) (str_dd (ev_var rfl rfl)) (str_dd (ev_var rfl rfl)))) ls14.gr.sub fun y15 G15 H15 g15 q15 => ?_
                have ls15 := ls14.up g15
                have iz15 := Dp.up (g14.gg.trans g15.gg) _ _ iz13
                refine ls_app (i := 3) (d := trD (lTri rn t r.isF pr x)) ls15 h0 rfl (by omega) (ev_tri (x := lTri rn t r.isF pr x) (ev_tup (ds := [.int rn, .str t.1, .str t.2.2, .str x.2.2, pD pr]) (ead_cons (int_dd (ev_var rfl rfl)) (ead_cons (str_dd (ev_var rfl rfl)) (ead_cons (str_dd (ev_var rfl rfl)) (ead_cons (str_dd (ev_var rfl rfl)) (ead_cons (ev_var rfl iz15) ead_nil))))) (by show 5 ≤ 1000; decide)) (ev_var rfl q15) (ev_r3 (str_dd (ev_var rfl rfl)) (ev_ixT (ev_var rfl iz15) (ev_c rfl) rfl) (str_dd (ev_var rfl rfl)))) fun G16 H16 s16 ls16 => ?_
                refine ⟨G16, ((s12.trans g14.gg).trans g15.gg).trans s16, ls16.gr.sub, ls16.is ?_, _, _, _, _, rfl⟩
                rw [take_filter_yes hbx hh]
                simp only [List.map_append, List.map_cons, List.map_nil, List.append_assoc]
              · refine ⟨G14, s12.trans g14.gg, g14.sub, ((ls13.up g14).le (Nat.le_succ _)).is ?_, _, _, _, _, rfl⟩
                rw [take_filter_no hbx hh]
            · rintro σ' G' H' o1 o2 ⟨ls, x12, x13, x14, x15, rfl⟩
              rw [List.take_length] at ls
              refine ⟨G', s10.trans (g12.gg.trans o1), o2, (ls.le (by omega)).is ?_, _, _, _, _, _, _, _, rfl⟩
              rw [take_flat hbp, ← List.append_assoc, hp4]
              rfl
          · rintro σ' G' H' u1 u2 ⟨ls, x9, x10, x11, x12, x13, x14, x15, rfl⟩
            rw [List.take_length] at ls
            refine fin G' H' _ (s58.trans (g9.gg.trans u1)) ((ls.le (by omega)).is ?_) ⟨_, _, _, _, _, _, _, _, _, _, rfl⟩
            unfold lOne
            rw [← hp3]
            simp only [List.append_assoc]
        · refine fin G6 H6 _ g6.gg (((ls5.up g6).le (Nat.le_add_right _ _)).is ?_) ⟨_, _, _, _, _, _, _, _, _, _, rfl⟩
          rw [show lRow i.rts i.ppl (r, rn) t = [] from if_neg (by rw [hw]; simp), List.append_nil]
      · rintro σ' G' H' t1 t2 ⟨ls, x6, x7, x8, x9, x10, x11, x12, x13, x14, x15, rfl⟩
        rw [List.take_length] at ls
        exact ⟨G', s23.trans (g4.gg.trans t1), t2, (ls.le (by rw [bdN_eq]; omega)).is (by rw [take_flat hb, hpre]), _, _, _, _, _, _, _, _, _, _, _, _, rfl⟩
    · rintro σ' G' H' s1 s2 ⟨ls, x4, x5, x6, x7, x8, x9, x10, x11, x12, x13, x14, x15, rfl⟩
      rw [List.take_length] at ls
      obtain ⟨xs, k1, k2, k3⟩ := ls.ex
      exact ⟨_, rfl, q (.ref l) (upd G' l (.lst xs)) H' (ls.gr.keepIt h0 ls.no k1) (.lst upd_same (DpAll.up (same_new ls.no) _ _ k2))⟩
end
end Hk

set_option Elab.async false
set_option linter.all false
set_option maxRecDepth 100000
set_option maxHeartbeats 2000000
/-! _law_rounds. -/
namespace Hk
open PySem PySem.Spec PyProof.Rows L2
theorem sc_law_rounds : FnScope ["_law_rules_here", "_law_people", "_law_rights", "_law_found", "_law_made_here", "_law_number_here", "_law_right", "_law_late", "_law_deed", "_law_asked", "_law_got", "_law_name", "_law_word"] ["_law_rules_here", "_law_people", "_law_rights"] (defScope s_law_rounds) := ⟨rfl, rfl, rfl, by decide +kernel, rfl, by decide +kernel, by decide +kernel⟩
def r0D (r : Rt) : PyData := .tuple [rD r, .int 0]
theorem pairs_at {K : PySem.W.Frag} {G : Hp} : ∀ {l : List Rt} {xs : List V}, DpAll K G xs (l.map r0D) → ∃ ps : List Addr, xs = ps.map V.ref ∧ Paired (fun p (kv : List Key × V) => ∃ q, G p = some (.tup [.ref q, kv.2]) ∧ G q = some (.tup (kv.1.map kV))) ps (mR (l.map fun r => (r, V.int 0)))
  | [], _, h => by cases h; exact ⟨[], rfl, .nil⟩
  | r :: l, _, h => by
    cases h with
    | cons h1 h2 =>
      obtain ⟨ps, e, hp⟩ := pairs_at h2
      obtain ⟨a, xs, rfl, ha, hx⟩ := dp_tup' (show Dp K G _ (.tuple [rD r, .int 0]) from h1)
      cases hx with
      | cons k1 hx => cases hx with
        | cons k2 hx =>
          cases hx
          obtain ⟨q, rfl, hq⟩ := right_at k1
          cases k2
          exact ⟨a :: ps, by rw [e]; rfl, .cons ⟨q, ha, hq⟩ hp⟩
theorem merge_mR : ∀ {l : List Rt} {acc : List (Rt × V)}, mergeT (mR acc) (mR (l.map fun r => (r, V.int 0))) = mR (putAll (fun r => r) (fun _ => V.int 0) l acc)
  | [], _ => rfl
  | r :: l, acc => by
    show mergeT (putK (mR acc) (kR r) (V.int 0)) (mR (l.map fun r => (r, V.int 0))) = _
    rw [put_mR, merge_mR]
    rfl
section
variable {K : PySem.W.Frag} {σ : L2.St} {G H : Hp} {ta tb te tk tv : TE} {l : List (Rt × V)} {d : Addr} {u : TS} {D : Ends} {ds es : List PyData} {r : Rt} {v : V}
theorem em_dictPT {bs : List Rt} (h : EvP te σ G (DD K (.list (bs.map r0D)))) (hl : bs.length ≤ 1000000) : EvM (tCB rDictPT (tCons te tNil)) σ G (fun o _ => o = DTo (putAll (fun r => r) (fun _ => V.int 0) bs [])) := fun H s Q q =>
  h H s _ fun v G1 H1 g1 hd => by
    obtain ⟨a, xs, rfl, ha, hx⟩ := dp_lst' hd
    obtain ⟨ps, rfl, hp⟩ := pairs_at hx
    refine ⟨a, ps, mR (bs.map fun r => (r, V.int 0)), rfl, g1.sub _ _ ha, by rw [len_mR, List.length_map]; exact hl, Paired.mapP hp fun p kv ⟨q, h1, h2⟩ => ⟨q, g1.sub _ _ h1, g1.sub _ _ h2⟩, fun p hn => q p _ G1 _ (g1.mnew hn) (g1.free0 hn) (g1.freeG hn) upd_same ?_⟩
    have z := merge_mR (l := bs) (acc := [])
    rw [show mR [] = [] from rfl] at z
    rw [z]
theorem em_cat (h1 : EvP ta σ G (DD K (.list ds))) (h2 : EvP tb σ G (DD K (.list es))) (hl : ds.length + es.length ≤ sizeLine) : EvM (tOp rCat ta tb) σ G (fun o G' => ∃ xs, o = .lst xs ∧ DpAll K G' xs (ds ++ es)) := fun H s Q q =>
  h1 H s _ fun v1 G1 H1 g1 p1 => h2.up mon_dd g1.gg H1 g1.sub _ fun v2 G2 H2 g2 p2 => by
    obtain ⟨a, xs, rfl, ha, hx⟩ := dp_lst' (Dp.up g2.gg _ _ p1)
    obtain ⟨b, ys, rfl, hb, hy⟩ := dp_lst' p2
    have g := g1.trans g2
    exact ⟨a, b, xs, ys, rfl, rfl, g2.sub _ _ ha, g2.sub _ _ hb, by rw [DpAll.len hx, DpAll.len hy]; exact hl, fun p hp => q p _ G2 _ (g.mnew hp) (g.free0 hp) (g.freeG hp) upd_same ⟨_, rfl, DpAll.append hx hy⟩⟩
theorem ev_dget2 (hd : EvP ta σ G (DctV l)) (hk : EvP tk σ G (DD K (rD r))) (hv : EvP tv σ G (IsV v)) : EvP (tDGet2 ta tk tv) σ G (IsV ((valV l r).getD v)) := fun H s Q q =>
  hd H s _ fun x G1 H1 g1 p1 => by
    obtain ⟨d, e1, h1⟩ := p1
    refine ⟨d, e1, .inr ⟨mR l, .inl (g1.sub _ _ h1)⟩, hk.up mon_dd g1.gg H1 g1.sub _ fun y G2 H2 g2 p2 => hv.up mon_v (g1.gg.trans g2.gg) H2 g2.sub _ fun z G3 H3 g3 ez => ?_⟩
    obtain ⟨qa, e2, h2⟩ := right_at (Dp.up g3.gg _ _ p2)
    refine ⟨valV l r, ?_, ?_⟩
    · rw [e2]
      exact dget_of (g3.sub _ _ ((g2.gg.trans g3.gg) _ _ h1)) (g3.sub _ _ h2)
    · have q' := q ((valV l r).getD v) G3 H3 ((g1.trans g2).trans g3) rfl
      rw [show z = v from ez]
      exact q'
theorem ev_is' {a b : V} (h : EvP te σ G (IsV a)) (e : a = b) : EvP te σ G (IsV b) := e ▸ h
/-- d[r] = v, d ours and lent for v -/
theorem run_dputL {i : Nat} {G0 H0 : Hp} (g0 : Gr G0 H0 G H) (hk : EvP tk σ G (DD K (rD r))) (hv : EvP tv σ (upd G d (DTo l)) (IsV v)) (e : σ[i]? = some (some (.ref d))) (hd : H d = some (DTo l)) (hg : G d = none) (h0 : H0 d = none) (hl : l.length ≤ 1000000)
    (k : ∀ G2 H2, Gr G0 H0 G2 H2 → G2 d = none → Same G G2 → H2 d = some (DTo (putK l r v)) → D.nx σ H2) : sDPut (tVar i) tk tv D σ H :=
  EvP.lend (P' := IsV v) hv g0.sub hd hg (fun _ _ _ e => e) fun z G1 H1 g1 hg1 hd1 ez => ⟨.ref d, e, (hk.up mon_dd g1.gg) H1 g1.sub _ fun y G2 H2 g2 p2 => by
    obtain ⟨qa, e2, h2⟩ := right_at p2
    have g := g1.trans g2
    have hg2 : G2 d = none := g2.old d _ hg1 hd1 fun _ z => nomatch z
    refine ⟨d, upd H2 d (DTo (putK l r v)), rfl, ?_, k G2 _ ((g0.trans g).mut h0 hg2) hg2 g.gg upd_same⟩
    rw [e2, show z = v from ez]
    show DPut H2 d (.ref qa) v (upd H2 d (.dT (mR (putK l r v))))
    rw [← put_mR]
    exact DPut.t (g2.hh _ _ hd1) (g2.sub _ _ h2) (by rw [len_mR, sizeLine_eq]; omega)⟩
/-- (i, j, k) = (a new thing, a value, c) -/
theorem seq_asg3M {i j k : Nat} {c : V} {R : HO → Prop} {P : VP} (nt : ∀ o, R o → ∀ ys, o ≠ HO.tup ys) (h : EvM ta σ G (fun o _ => R o)) (hb : ∀ G', Same G G' → EvP tb σ G' P) (m : Mon P) (s : Same G H)
    (kk : ∀ p o v G2 H2, Gr G H G2 H2 → H p = none → G2 p = none → H2 p = some o → R o → P v G2 → u D (((σ.set i (some (.ref p))).set j (some v)).set k (some c)) H2) :
    tSeq (tAsg (tTup (tCons ta (tCons tb (tCons (tC c) tNil)))) (gTup K 3 (gCons (gName i) (gCons (gName j) (gCons (gName k) gNil))))) u D σ H :=
  h H s _ fun p o G1 H1 g1 h0 hg e r => hb G1 g1.gg H1 g1.sub _ fun v G2 H2 g2 pv => ⟨by show 3 ≤ sizeLine; decide, fun t ht => by
    have e2 := g2.hh _ _ e
    have g := g1.trans g2
    have hg2 := g2.old _ _ hg e (nt o r)
    have gn := g.trans (Gr.new (o := .tup [.ref p, v, c]) g.sub ht)
    have hpt : p ≠ t := fun z => by rw [z, ht] at e2; cases e2
    refine ⟨t, _, rfl, SqT.of upd_same, rfl, ⟨.ref p, _, rfl, ⟨v, _, rfl, ⟨c, _, rfl, rfl, kk p o v _ _ gn h0 ?_ ?_ r (m _ _ _ (same_new (g.freeG ht)) pv)⟩⟩⟩⟩
    · rw [upd_ne hpt]; exact hg2
    · rw [upd_ne hpt]; exact e2⟩
end
theorem RI.nextG {y : Sys} {n : Nat} {l l' : List (Rt × V)} (h : RI y n l) {lt : List Rt} (nd : (keys l').Nodup) (mem : ∀ r, r ∈ keys l' ↔ r ∈ keys l ∨ r ∈ lt) (val : ∀ r v, valV l' r = some v → valV l r = some v ∨ (r ∉ keys l ∧ v = .int ((n + 1 : Nat) : Int)))
    (hs : ∀ r, r ∈ lt → y.Lv (n + 1) r) (hc : ∀ r, y.Lv (n + 1) r → ¬ y.Lv n r → r ∈ lt) : RI y (n + 1) l' := by
  refine ⟨nd, fun r => ?_, fun r v e => ?_⟩
  · rw [mem, h.mem]
    constructor
    · rintro (z | z)
      · exact .inl z
      · exact hs r z
    · intro z
      by_cases e : y.Lv n r
      · exact .inl e
      · exact .inr (hc r z e)
  · rcases val r v e with z | ⟨z1, z2⟩
    · exact h.val r v z
    · have hk : r ∈ keys l' := by
        have := valV_in e
        exact this
      have hl : y.Lv (n + 1) r := by
        rcases (mem r).mp hk with z | z
        · exact absurd z z1
        · exact hs r z
      exact ⟨n + 1, z2, hl, fun m hm hm2 => z1 ((h.mem r).mpr (Sys.lv_le (by omega) hm2))⟩
def sp_law_rounds (K : PySem.W.Frag) : Sp := SpM (fun (i : BegIn) vs G => ∃ v1 v2 v3, vs = [v1, v2, v3] ∧ Dp K G v1 (.list (i.rs.map ruleD)) ∧ Dp K G v2 (.list (i.ppl.map sD)) ∧ Dp K G v3 (.list (i.st.rts.map rD)) ∧ CloOk i) (fun i o _ => ∃ l, o = DTo l ∧ RdD (sysOf i) l)
end Hk

set_option Elab.async false
set_option linter.all false
set_option maxRecDepth 100000
set_option maxHeartbeats 2000000
/-! _law_rounds: the walk. -/
namespace Hk
open PySem PySem.Spec PyProof.Rows L2
def mdR (i : BegIn) : List Rt := match madeOf i.rs with
  | some ws => madeR ws i.ppl
  | none => []
theorem mem_mdR {i : BegIn} {r : Rt} : r ∈ mdR i ↔ (sysOf i).M r := by
  unfold mdR
  cases e : madeOf i.rs with
  | none => simp [sysOf, e]
  | some ws => simp [sysOf, e]
theorem len_mdR {i : BegIn} (ok : CloOk i) : (mdR i).length ≤ 108 := by
  unfold mdR
  cases e : madeOf i.rs with
  | none => exact Nat.zero_le _
  | some ws =>
    have h1 := ok.beg.ws ws e
    have h2 := ok.beg.lp
    show (madeR ws i.ppl).length ≤ 108
    rw [len_madeR]
    exact Nat.mul_le_mul h2 h1
theorem seq_ifR {σ : L2.St} {G H : Hp} {tt : TT} {t u : TS} {D : Ends} {R : L2.St → Hp → Prop} {b : Bool} (h : EvB tt σ G b) (s : Same G H) (h1 : b = true → ∀ G2 H2, Gr G H G2 H2 → ∀ D' : Ends, (∀ σ' H', R σ' H' → D'.nx σ' H') → t D' σ H2) (h2 : b = false → ∀ G2 H2, Gr G H G2 H2 → R σ H2)
    (k : ∀ σ' H', R σ' H' → u D σ' H') : tSeq (tIfS tt t tNext) u D σ H :=
  h H s _ fun G2 H2 g => by
    cases b with
    | true => exact h1 rfl G2 H2 g { D with nx := u D } k
    | false => exact k _ _ (h2 rfl G2 H2 g)
theorem ev_addS {K : PySem.W.Frag} {σ : L2.St} {G : Hp} {ta tb : TE} {a b : Str} {r : R2} (ha : EvP ta σ G (IsV (.str a))) (hb : EvP tb σ G (IsV (.str b))) (hr : ∀ H (Q : VK), Q (.str (a ++ b)) H → r (.str a) (.str b) H Q) : EvP (tOp r ta tb) σ G (IsV (.str (a ++ b))) :=
  ev_op mon_v mon_v ha hb fun x y G' s ex ey => rv_val (fun H _ Q q => by rw [ex, ey]; exact hr H Q q) rfl
section
variable {P : Program} {w : World} {K : PySem.W.Frag} {mg : Str → Option Value} {base : Heap} {S Po : Addr} (T : Tx K mg S Po)
include T
theorem ok_law_rounds : Fn P w K mg base 2 "_law_rounds" ["_law_rules_here", "_law_people", "_law_rights"] (sp_law_rounds K) := by
  obtain ⟨f_law_made, fd_law_made, G_law_made, m_law_made, k_law_made, b_law_made⟩ := (ok_law_made (P := P) (w := w) (base := base) T)
  obtain ⟨f_law_brings, fd_law_brings, G_law_brings, m_law_brings, k_law_brings, b_law_brings⟩ := (ok_law_brings (P := P) (w := w) (base := base) T)
  refine fn_mk (N := ["_law_rules_here", "_law_people", "_law_rights", "_law_found", "_law_made_here", "_law_number_here", "_law_right", "_law_late", "_law_deed", "_law_asked", "_law_got", "_law_name", "_law_word"]) T.f_law_rounds (fun F => F.bindsN fun _ _ _ _ _ _ us hl => match us, hl with | [_, _, _], _ => rfl) sc_law_rounds (fun vs H Q E h => ?_) fun f cdv A outer s H vs Q E hr h => ?_
  · obtain ⟨n, G, sm, ⟨v1, v2, v3, rfl, _⟩, _⟩ := h
    rfl
  · obtain ⟨i, G, sm, ⟨v1, v2, v3, rfl, h1, h2, h3, ok⟩, q⟩ := h
    have hu := hu_of hr
    have hr0 := hr.mono (Nat.zero_le _)
    have hu65 : A.units + 3 + 65 < cLine := by have := hr.un; show A.units + 3 + 65 < cLine; have h2 : (A.deeper (envOfC "_law_rounds" (defScope s_law_rounds) s.heap.objs.size f cdv)).units = A.units + 3 := rfl; omega
    refine ⟨_, PSs.nox (pss_cons (ps_asg (pe_tup (pa_cons (pe_callTy (call_dictPT rfl hr0) (by rfl) T.b_dict (by decide +kernel) (pa_cons (pe_lc (own := [("_law_right", 6)]) rfl sc_law_rounds.nd (pi_list (pv 2)) (blkOk_by (own := [("_law_right", 6)]) (N := ["_law_rules_here", "_law_people", "_law_rights", "_law_found", "_law_made_here", "_law_number_here", "_law_right", "_law_late", "_law_deed", "_law_asked", "_law_got", "_law_name", "_law_word"]) (sc := defScope s_law_rounds) (by decide +kernel)) (fun _ _ _ _ _ => (pg_name (i := 6) sc_law_rounds.nd rfl (Or.inl rfl))) (fun _ _ _ _ _ => pts_nil) (fun _ _ _ _ _ => (pe_tup (pa_cons (pv 6) (pa_cons pe_int pa_nil))))) pa_nil)) (pa_cons (pe_call G_law_made (hr.mono (by decide)) (by rfl) m_law_made k_law_made b_law_made .nil pass0 (pa_cons (pv 0) pa_nil)) (pa_cons pe_int pa_nil)))) (pg_tup rfl (pgs_cons (pg_name (i := 3) sc_law_rounds.nd rfl (Or.inr rfl)) (pgs_cons (pg_name (i := 4) sc_law_rounds.nd rfl (Or.inl rfl)) (pgs_cons (pg_name (i := 5) sc_law_rounds.nd rfl (Or.inl rfl)) pgs_nil)))))
    (pss_one (ps_while PassesOwn.never (pt_val pe_bl)
    (pss_cons (ps_set (i := 5) sc_law_rounds.nd rfl (Or.inl rfl) (pe_op op_add (pv 5) pe_int))
    (pss_cons (ps_setLc (i := 7) (own := [("_law_deed", 8), ("_law_asked", 9), ("_law_got", 10)]) rfl sc_law_rounds.nd rfl rfl (sw_true rfl rfl rfl (by decide +kernel)) (pi_list (pe_call G_law_brings (hr.mono (by decide)) (by rfl) m_law_brings k_law_brings b_law_brings .nil pass0 (pa_cons (pv 0) (pa_cons (pv 1) (pa_cons (pe_callTy (call_list_dT rfl) (by rfl) T.b_list (by decide +kernel) (pa_cons (pv 3) pa_nil)) pa_nil))))) (blkOk_by (own := [("_law_deed", 8), ("_law_asked", 9), ("_law_got", 10)]) (N := ["_law_rules_here", "_law_people", "_law_rights", "_law_found", "_law_made_here", "_law_number_here", "_law_right", "_law_late", "_law_deed", "_law_asked", "_law_got", "_law_name", "_law_word"]) (sc := defScope s_law_rounds) (by decide +kernel)) (fun _ _ _ _ _ => (show PG _ _ (gTup K 3 _) from pg_tup rfl (pgs_cons (pg_name (i := 8) sc_law_rounds.nd rfl (Or.inl rfl)) (pgs_cons (pg_name (i := 9) sc_law_rounds.nd rfl (Or.inl rfl)) (pgs_cons (pg_name (i := 10) sc_law_rounds.nd rfl (Or.inl rfl)) pgs_nil))))) (fun _ _ _ _ _ => (pts_one (pt_cmp (pc_dnotin hu (pv 10) (pv 3))))) (fun _ _ _ _ _ => (pv 10)))
    (pss_cons (ps_if (PW.pt (pw_and (pt_cmpR op_eq (pv 5) pe_int (nomark _)) (pw_and1 (pt_cmpR op_notN (pv 4) pe_non (nomark _)))))
    (pss_one (ps_for PassesOwn.never rfl (pi_list (pv 1)) (pg_name (i := 11) sc_law_rounds.nd rfl (Or.inr rfl))
    (pss_one (ps_set (i := 7) sc_law_rounds.nd rfl (Or.inl rfl) (pe_op op_cat (pv 7) (pe_lc (own := [("_law_word", 12)]) rfl sc_law_rounds.nd (pi_tup (pv 4)) (blkOk_by (own := [("_law_word", 12)]) (N := ["_law_rules_here", "_law_people", "_law_rights", "_law_found", "_law_made_here", "_law_number_here", "_law_right", "_law_late", "_law_deed", "_law_asked", "_law_got", "_law_name", "_law_word"]) (sc := defScope s_law_rounds) (by decide +kernel)) (fun _ _ _ _ _ => (pg_name (i := 12) sc_law_rounds.nd rfl (Or.inl rfl))) (fun _ _ _ _ _ => pts_nil) (fun _ _ _ _ _ => (pe_tup (pa_cons (pv 11) (pa_cons (pv 12) (pa_cons (pe_op op_add_str (pv 11) pe_str) pa_nil))))))))))) pss_nil)
    (pss_cons (ps_if (pt_cmpR (op_eqD hr.units) (pv 7) (pe_lst pa_nil) (nomark _))
    (pss_one (ps_ret (pv 3))) pss_nil)
    (pss_one (ps_for PassesOwn.never rfl (pi_list (pv 7)) (pg_name (i := 6) sc_law_rounds.nd rfl (Or.inl rfl))
    (pss_one (ps_dput hu (pv 3) (pv 6) (pe_dget2 hu (pv 3) (pv 6) (pv 5) ⟨rfl, rfl, rfl, rfl⟩) rfl))))))))))), ?_⟩
    have lr : i.st.rts.length ≤ 1000 := ok.beg.lr
    have sL : sizeLine = 16777216 := sizeLine_eq
    refine seq_asg3M (K := K) (i := 3) (j := 4) (k := 5) (R := fun o => o = DTo (putAll (fun r => r) (fun _ => V.int 0) i.st.rts [])) (P := DD K (optD (madeOf i.rs))) (fun o e ys => by rw [e]; exact nt_dT)
      (em_dictPT (ev_lc1 (bs := i.st.rts) r0D (src_list (enc := rD) (ev_var rfl h3)) (by omega) fun b hb v G' s ib => ⟨_, tgt_name, rfl, ev_tup (ds := [rD b, .int 0]) (ead_cons (ev_var rfl ib) (ead_cons (int_dd (ev_c rfl)) ead_nil)) (by show 2 ≤ 1000; decide)⟩) (by omega))
      (fun G' sg => ev_call (post := fun rs => DD K (optD (madeOf rs))) i.rs (ea1 (ev_var rfl (Dp.up sg _ _ h1)) fun v G'' _ e => ⟨v, rfl, e, ok.beg.pol⟩)) mon_dd sm fun d o mv G1 H1 g1 h0 hg e eo hmv => ?_
    subst eo
    obtain ⟨n0, m0⟩ := putAll_keys (key := fun (r : Rt) => r) (val := fun _ => V.int 0) (l := i.st.rts) (acc := []) .nil
    have r0 : RI (sysOf i) 0 (putAll (fun r => r) (fun _ => V.int 0) i.st.rts []) := ⟨n0, fun r => by rw [m0, List.map_id']; simp [Sys.Lv, sysOf], fun r v ev => by
      rw [val_putAll] at ev
      split at ev
      · rename_i hr
        cases ev
        exact ⟨0, rfl, hr, fun m hm => absurd hm (Nat.not_lt_zero m)⟩
      · cases ev⟩
    generalize hl0 : putAll (fun (r : Rt) => r) (fun _ => V.int 0) i.st.rts [] = l0 at e r0
    let W : Nat → L2.St → Hp → Prop := fun m σ' H' => ∃ G' n l a b c p q x y, Gr G H G' H' ∧ G' d = none ∧ H' d = some (DTo l) ∧ Same G1 G' ∧ RI (sysOf i) n l ∧ σ' = [some v1, some v2, some v3, some (.ref d), some mv, some (.int (n : Nat)), a, b, c, p, q, x, y] ∧ m = 2 * (500 - l.length) + (if n = 0 then 1 else 0)
    show tWhile _ _ _ [some v1, some v2, some v3, some (.ref d), some mv, some (.int ((0 : Nat) : Int)), none, none, none, none, none, none, none] H1
    refine ⟨W, ⟨_, G1, 0, l0, _, _, _, _, _, _, _, g1, hg, e, Same.refl _, r0, rfl, rfl⟩, ?_⟩
    rintro m σ' H' ⟨G', n, l, x6, x7, x8, x9, x10, x11, x12, gp, hgd, hd, s3, ri, rfl, rfl⟩
    have bt : EvB (tTest (tC (.bl true))) [some v1, some v2, some v3, some (.ref d), some mv, some (.int (n : Nat)), x6, x7, x8, x9, x10, x11, x12] G' true := eb_test (ev_c rfl)
    refine bt H' gp.sub _ fun G4 H4 g4 => ?_
    rw [if_pos rfl]
    refine ⟨fun σ' H' => ∃ m', m' < 2 * (500 - l.length) + (if n = 0 then 1 else 0) ∧ W m' σ' H', fun _ _ z => z, ?_⟩
    have gp4 := gp.trans g4
    have hgd4 := g4.old _ _ hgd hd fun _ => nt_dT
    have hd4 := g4.hh _ _ hd
    have en : ((n : Nat) : Int) + 1 = ((n + 1 : Nat) : Int) := by omega
    refine seq_set (P := IsV (.int ((n + 1 : Nat) : Int))) (ev_is' (ev_int (g := fun i j => .int (i + j)) (ev_var (i := 5) rfl rfl) (ev_c (v := .int 1) rfl)) (by rw [← en])) gp4.sub fun nv G5 H5 g5 env => ?_
    have env : nv = .int ((n + 1 : Nat) : Int) := env
    subst env
    have gp5 := gp4.trans g5
    have hgd5 := g5.old _ _ hgd4 hd4 fun _ => nt_dT
    have hd5 := g5.hh _ _ hd4
    obtain ⟨ll, dok⟩ := ok.lap ri.nd fun r hr => ⟨n, (ri.mem r).mp hr⟩
    rw [len_keys] at ll
    have lbo : LbOk ⟨i.rs, keys l, i.ppl⟩ := ⟨dok.ok, ok.six, fun r hr => by
      have := ok.two r hr
      cases r with
      | fetch a b => exact this
      | hand a b => exact this
      | _ => exact Nat.zero_le _, dok.lr, dok.cm⟩
    have ll2 := lAll_len lbo
    have lam : ∀ g, (∃ x ∈ lAll i.rs (keys l) i.ppl, x.2.2 = g) ↔ (sysOf i).Br (fun r => r ∈ keys l) g := fun g => lAll_got
    have sl : Same G5 (upd G5 d (DTo l)) := up_lent hgd5
    refine seq_setQ (R := fun v H' => ∃ G', Gr G H G' H' ∧ G' d = none ∧ H' d = some (DTo l) ∧ Same G5 G' ∧ Dp K G' v (.list ((((lAll i.rs (keys l) i.ppl).filter fun x => !decide (x.2.2 ∈ keys l)).map fun x => x.2.2).map rD))) (fun Q k => ?_) fun lv H6 ⟨G6, gp6, hgd6, hd6, s56, hlv⟩ => ?_
    · have br : EvP (tCall (sp_law_brings K) [] E0 (tCons (tVar 0) (tCons (tVar 1) (tCons (tCB (fun xs H Q => ∃ d kvs, xs = [V.ref d] ∧ Rd H d (.dT kvs) ∧ ∀ p bs, H p = none → IsKeys H kvs bs → Q (.ref p) (upd H p (.lst (bs.map V.ref)))) (tCons (tVar 3) tNil)) tNil)))) [some v1, some v2, some v3, some (.ref d), some mv, some (.int ((n + 1 : Nat) : Int)), x6, x7, x8, x9, x10, x11, x12] (upd G5 d (DTo l)) (DD K (.list ((lAll i.rs (keys l) i.ppl).map trD))) := by
        unfold sp_law_brings
        exact ev_call (post := fun (i : DoIn) => DD K (.list ((lAll i.rs i.rts i.ppl).map trD))) ⟨i.rs, keys l, i.ppl⟩ (ea3 mon_dd mon_dd mon_dd (ev_var rfl (Dp.up (gp5.gg.trans sl) _ _ h1)) (ev_var rfl (Dp.up (gp5.gg.trans sl) _ _ h2)) (ev_listD (K := K) (dct_R (dct_lent rfl))) fun a b c G' _ q1 q2 q3 => ⟨a, b, c, rfl, q1, q2, q3, lbo⟩)
      refine lc_at (G := upd G5 d (DTo l)) (H := H5) (bs := lAll i.rs (keys l) i.ppl) (I := fun b => DD K (trD b)) (R := fun b => DD K (rD b.2.2)) (keep := fun b => !decide (b.2.2 ∈ keys l)) ((src_list br).at (lend gp5.sub hd5)) (fun _ => mon_dd) (by rw [sizeLine_eq]; exact Nat.le_trans ll2 (by decide)) (fun b hb v G' s ib => ?_) fun p xs G7 H7 g7 k1 k2 k3 k4 => ?_
      · obtain ⟨w8, w9, w10, p8, p9, p10, tg⟩ := tgt_3 (σ := [some v1, some v2, some v3, some (.ref d), some mv, some (.int ((n + 1 : Nat) : Int)), x6, x7, none, none, none, x11, x12]) (g1 := gName 8) (g2 := gName 9) (g3 := gName 10) ib (fun v1 _ => tgt_name) (fun v1 v2 _ _ => tgt_name) (fun v1 v2 v3 _ _ _ => tgt_name)
        refine ⟨_, tg, rfl, eb_test (ev_is (ev_dni (l := l) (ev_var (i := 10) rfl p10) (ev_var (i := 3) rfl ⟨d, rfl, s _ _ upd_same⟩)) ?_), fun _ => ev_var rfl p10⟩
        rw [val_some]
      · have z := Each.dp (K := K) (enc := fun (b : Tri) => rD b.2.2) k4 fun _ _ z => z
        have hpd : p ≠ d := fun z => by rw [z, hd5] at k1; cases k1
        have gb := g7.back hgd5
        have hgp : del G7 d p = none := by rw [del_ne hpd]; exact k2
        refine k _ _ ⟨upd (del G7 d) p (.lst xs), (gp5.trans gb).keepIt (gp5.free0 k1) hgp k3, by rw [upd_ne hpd.symm]; exact del_same, gb.hh _ _ hd5, gb.gg.trans (same_new hgp), .lst upd_same (DpAll.up (same_new hgp) _ _ ?_)⟩
        rw [List.map_map]
        exact dpa_back (g7.gg _ _ upd_same) z
    have lt0m : ∀ r, r ∈ (((lAll i.rs (keys l) i.ppl).filter fun x => !decide (x.2.2 ∈ keys l)).map fun x => x.2.2) ↔ (sysOf i).Br (fun r => r ∈ keys l) r ∧ ¬ (sysOf i).Lv n r := fun r => by
      rw [List.mem_map, ← lam]
      constructor
      · rintro ⟨x, hx, rfl⟩
        obtain ⟨q1, q2⟩ := List.mem_filter.mp hx
        rw [Bool.not_eq_true', decide_eq_false_iff_not, ri.mem] at q2
        exact ⟨⟨x, q1, rfl⟩, q2⟩
      · rintro ⟨⟨x, q1, rfl⟩, q2⟩
        refine ⟨x, List.mem_filter.mpr ⟨q1, ?_⟩, rfl⟩
        rw [Bool.not_eq_true', decide_eq_false_iff_not, ri.mem]
        exact q2
    have lt0l : (((lAll i.rs (keys l) i.ppl).filter fun x => !decide (x.2.2 ∈ keys l)).map fun x => x.2.2).length ≤ 16000000 := by
      rw [List.length_map]
      exact Nat.le_trans (List.length_filter_le _ _) ll2
    generalize hlt0 : (((lAll i.rs (keys l) i.ppl).filter fun x => !decide (x.2.2 ∈ keys l)).map fun x => x.2.2) = lt0 at hlv lt0m lt0l
    have dmv : Dp K G6 mv (optD (madeOf i.rs)) := Dp.up (((s3.trans g4.gg).trans g5.gg).trans s56) _ _ hmv
    refine seq_ifR (R := fun σ' H' => ∃ G' lv' a b, Gr G H G' H' ∧ G' d = none ∧ H' d = some (DTo l) ∧ Same G6 G' ∧ Dp K G' lv' (.list ((lt0 ++ if n = 0 then mdR i else []).map rD)) ∧ σ' = [some v1, some v2, some v3, some (.ref d), some mv, some (.int ((n + 1 : Nat) : Int)), x6, some lv', x8, x9, x10, a, b])
      (eb_and (eb_test (ev_eqI (ev_var (i := 5) rfl rfl) (ev_c (v := .int 1) rfl))) fun _ => eb_test (ev_notN (x := mv) (ev_var rfl rfl))) gp6.sub (fun hb G7 H7 g7 D' kD => ?_) (fun hb G7 H7 g7 => ?_) fun σ' H' ⟨G7, lv', x11', x12', gp7, hgd7, hd7, s67, hlv', es⟩ => ?_
    · rw [Bool.and_eq_true] at hb
      have hn : n = 0 := by have := of_decide_eq_true hb.1; omega
      have hgd7 := g7.old _ _ hgd6 hd6 fun _ => nt_dT
      have hd7 := g7.hh _ _ hd6
      cases hmo : madeOf i.rs with
      | none =>
        rw [hmo] at dmv
        have em : mv = .non := by cases dmv; rfl
        rw [em] at hb
        exact absurd hb.2 (by decide)
      | some ws =>
        rw [hmo] at dmv
        have emd : mdR i = madeR ws i.ppl := by unfold mdR; rw [hmo]
        have lw := ok.beg.ws ws hmo
        have gp7 := gp6.trans g7
        refine for_src (src_list (bs := i.ppl) (enc := sD) (ev_var rfl (Dp.up gp7.gg _ _ h2))) g7.sub fun G8 H8 g8 => ⟨fun j σ' G' H' => ∃ lv' a b, Gr G H G' H' ∧ G' d = none ∧ H' d = some (DTo l) ∧ Dp K G' lv' (.list ((lt0 ++ madeR ws (i.ppl.take j)).map rD)) ∧ σ' = [some v1, some v2, some v3, some (.ref d), some mv, some (.int ((n + 1 : Nat) : Int)), x6, some lv', x8, x9, x10, a, b],
          ⟨lv, _, _, gp7.trans g8, g8.old _ _ hgd7 hd7 (fun _ => nt_dT), g8.hh _ _ hd7, by rw [List.take_zero]; unfold madeR; rw [List.flatMap_nil, List.append_nil]; exact Dp.up (g7.gg.trans g8.gg) _ _ hlv, rfl⟩, ?_, ?_⟩
        · rintro j p σ' G' H' hbp s1 s2 ⟨lv', a11, a12, gp', hgd', hd', hlv', rfl⟩ y G9 H9 g9 iy
          have ey := dp_str iy
          subst ey
          have hpm := List.mem_of_getElem? hbp
          have hlz := ok.beg.lz p hpm
          have jl := ok.beg.lp
          have gp9 := gp'.trans g9
          have s79 : Same G7 G9 := (g8.gg.trans s1).trans g9.gg
          have wsd : Dp K G9 mv (.tuple (ws.map sD)) := Dp.up ((g7.gg.trans g8.gg).trans (s1.trans g9.gg)) _ _ dmv
          have comp := ev_lc1 (K := K) (te := tTup (tCons (tVar 11) (tCons (tVar 12) (tCons (tOp (fun x y H Q => ∃ a b, x = .str a ∧ y = .str b ∧ a.length + b.length ≤ sizeLine ∧ Q (.str (a ++ b)) H) (tVar 11) (tC (.str "+"))) tNil)))) (σ := [some v1, some v2, some v3, some (.ref d), some mv, some (.int ((n + 1 : Nat) : Int)), x6, some lv', x8, x9, x10, some (.str p), a12]) (vs := [12]) (bs := ws) (fun wd => rD (p, wd, plus p)) (src_tup (enc := sD) (ev_var (i := 4) rfl wsd)) (by omega) fun b hb v G' s ib => ⟨_, tgt_name (j := 12), rfl, ev_r3 (str_dd (ev_var rfl rfl)) (ev_var rfl ib) (str_dd (ev_addS (K := K) (ev_var rfl rfl) (ev_c rfl) fun H Q q => ⟨p, "+", rfl, rfl, (by have : ("+" : Str).length = 1 := rfl; omega), q⟩))⟩
          refine em_cat (K := K) (ev_var (i := 7) rfl (Dp.up g9.gg _ _ hlv')) comp ?_ H9 gp9.sub _ fun pq o G10 H10 g10 k1 k2 k3 ⟨xs, eo, hx⟩ => ?_
          · have k1 := len_madeR ws (i.ppl.take j)
            have k2 : (i.ppl.take j).length ≤ 12 := by rw [List.length_take]; omega
            have k4 : (i.ppl.take j).length * ws.length ≤ 12 * 9 := Nat.mul_le_mul k2 lw
            rw [List.length_map, List.length_append, List.length_map, k1, sL]
            omega
          · subst eo
            have hgd10 := (g9.trans g10).old _ _ hgd' hd' fun _ => nt_dT
            have hd10 := (g9.trans g10).hh _ _ hd'
            have hpd : pq ≠ d := fun z => by rw [z, g9.hh _ _ hd'] at k1; cases k1
            have e1 : madeR ws (i.ppl.take (j + 1)) = madeR ws (i.ppl.take j) ++ mk1 ws p := by
              unfold madeR
              exact take_flat hbp
            refine ⟨upd G10 pq (.lst xs), (s1.trans (g9.gg.trans g10.gg)).trans (same_new k2), ((gp9.trans g10).keepIt (gp9.free0 k1) k2 k3).sub, .ref pq, _, _, (gp9.trans g10).keepIt (gp9.free0 k1) k2 k3, by rw [upd_ne hpd.symm]; exact hgd10, hd10, .lst upd_same (DpAll.up (same_new k2) _ _ ?_), rfl⟩
            rw [e1, ← List.append_assoc, List.map_append]
            have e2 : (mk1 ws p).map rD = ws.map fun wd => rD (p, wd, plus p) := by unfold mk1; rw [List.map_map]; rfl
            rw [e2]
            exact hx
        · rintro σ' G' H' s1 s2 ⟨lv', a11, a12, gp', hgd', hd', hlv', rfl⟩
          rw [List.take_length] at hlv'
          refine kD _ _ ⟨G', lv', _, _, gp', hgd', hd', (g7.gg.trans g8.gg).trans s1, ?_, rfl⟩
          rw [if_pos hn, emd]
          exact hlv'
    · have ez : (if n = 0 then mdR i else []) = [] := by
        by_cases hn : n = 0
        · rw [if_pos hn]
          rw [Bool.and_eq_false_iff] at hb
          rcases hb with hb | hb
          · have := of_decide_eq_false hb; omega
          · unfold mdR
            cases hmo : madeOf i.rs with
            | none => rfl
            | some ws =>
              rw [hmo] at dmv
              obtain ⟨tm, xm, em, _⟩ := dp_tup dmv
              rw [em] at hb
              cases hb
        · rw [if_neg hn]
      refine ⟨G7, lv, _, _, gp6.trans g7, g7.old _ _ hgd6 hd6 (fun _ => nt_dT), g7.hh _ _ hd6, g7.gg, ?_, rfl⟩
      rw [ez, List.append_nil]
      exact Dp.up g7.gg _ _ hlv
    subst es
    have ltm : ∀ r, r ∈ (lt0 ++ if n = 0 then mdR i else []) ↔ ((sysOf i).Br (fun r => r ∈ keys l) r ∧ ¬ (sysOf i).Lv n r) ∨ (n = 0 ∧ (sysOf i).M r) := fun r => by
      rw [List.mem_append, lt0m]
      refine or_congr Iff.rfl ?_
      by_cases hn : n = 0
      · rw [if_pos hn, mem_mdR]; exact ⟨fun z => ⟨hn, z⟩, fun z => z.2⟩
      · rw [if_neg hn]; exact ⟨fun z => by simp at z, fun z => absurd z.1 hn⟩
    have ltl : (lt0 ++ if n = 0 then mdR i else []).length ≤ 16000108 := by
      have := len_mdR ok
      rw [List.length_append]
      split
      · omega
      · simp; omega
    generalize hlt : (lt0 ++ if n = 0 then mdR i else []) = lt at hlv' ltm ltl
    have hs : ∀ r, r ∈ lt → (sysOf i).Lv (n + 1) r := fun r hr => by
      rcases (ltm r).mp hr with z | z
      · exact .inr (.inl (Sys.br_mono (fun r h => (ri.mem r).mp h) z.1))
      · exact .inr (.inr z)
    have hc : ∀ r, (sysOf i).Lv (n + 1) r → ¬ (sysOf i).Lv n r → r ∈ lt := fun r hl hn => by
      refine (ltm r).mpr ?_
      rcases hl with z | z | z
      · exact absurd z hn
      · exact .inl ⟨Sys.br_mono (fun r h => (ri.mem r).mpr h) z, hn⟩
      · exact .inr z
    have cm : SeqAt.shaped (.list (lt.map rD)) = true := (Cm.list (n := 1) fun x hx => by
      obtain ⟨r, hr, e⟩ := List.mem_map.mp hx
      obtain ⟨NS, WS, bd⟩ := ok.bd
      have hu := Sys.com_U bd ⟨n + 1, hs r hr⟩
      rw [← e]
      exact cm_right (bd.okN _ hu.1) (bd.okW _ hu.2.1) (bd.okN _ hu.2.2)).ok (by decide)
    have tst := ev_eqD (K := K) (ev_var (i := 7) (σ := [some v1, some v2, some v3, some (.ref d), some mv, some (.int ((n + 1 : Nat) : Int)), x6, some lv', x8, x9, x10, x11', x12']) rfl hlv') (ev_lst (ds := []) ead_nil (by decide)) cm rfl
    rw [eqv_nil] at tst
    refine seq_ifB (eb_test tst) gp7.sub (fun he G8 H8 g8 => ?_) (fun he G8 H8 g8 => ?_)
    · have hz : lt = [] := by cases lt with
        | nil => rfl
        | cons a b => simp at he
      exact ⟨_, rfl, q d _ G8 H8 (gp7.trans g8) h0 (g8.old _ _ hgd7 hd7 fun _ => nt_dT) (g8.hh _ _ hd7) ⟨l, rfl, ri.done fun r hl => Classical.byContradiction fun hn => by
        have := hc r hl hn
        rw [hz] at this
        cases this⟩⟩
    · have gp8 := gp7.trans g8
      refine for_src (src_list (bs := lt) (enc := rD) (ev_var rfl (Dp.up g8.gg _ _ hlv'))) g8.sub fun G9 H9 g9 => ⟨fun j σ' G' H' => ∃ l' a, Gr G H G' H' ∧ G' d = none ∧ H' d = some (DTo l') ∧ (keys l').Nodup ∧ (∀ r, r ∈ keys l' ↔ r ∈ keys l ∨ r ∈ lt.take j) ∧ (∀ r v, valV l' r = some v → valV l r = some v ∨ (r ∉ keys l ∧ v = .int ((n + 1 : Nat) : Int))) ∧ σ' = [some v1, some v2, some v3, some (.ref d), some mv, some (.int ((n + 1 : Nat) : Int)), a, some lv', x8, x9, x10, x11', x12'],
        ⟨l, _, gp8.trans g9, (g8.trans g9).old _ _ hgd7 hd7 (fun _ => nt_dT), (g8.trans g9).hh _ _ hd7, ri.nd, fun r => by simp, fun r v e => .inl e, rfl⟩, ?_, ?_⟩
      · rintro j r σ' G' H' hbr s1 s2 ⟨l', a, gp', hgd', hd', nd', mem', val', rfl⟩ y G10 H10 g10 iy
        have lcom : ∀ r ∈ keys l', (sysOf i).Com r := fun r hr => by
          rcases (mem' r).mp hr with z | z
          · exact ⟨n, (ri.mem r).mp z⟩
          · exact ⟨n + 1, hs r (List.mem_of_mem_take z)⟩
        have ll' := (ok.lap nd' lcom).1
        rw [len_keys] at ll'
        have hgd10 := g10.old _ _ hgd' hd' fun _ => nt_dT
        have hd10 := g10.hh _ _ hd'
        show sDPut _ _ _ _ [some v1, some v2, some v3, some (.ref d), some mv, some (.int ((n + 1 : Nat) : Int)), some y, some lv', x8, x9, x10, x11', x12'] H10
        refine run_dputL (K := K) (r := r) (i := 3) (gp'.trans g10) (ev_var rfl iy) (ev_dget2 (K := K) (r := r) (v := .int ((n + 1 : Nat) : Int)) (dct_lent rfl) (ev_var rfl (Dp.up (up_lent hgd10) _ _ iy)) (ev_var rfl rfl)) rfl hd10 hgd10 h0 (by omega) fun G11 H11 g11 hgd11 s11 hd11 => ?_
        refine ⟨G11, (s1.trans g10.gg).trans s11, g11.sub, _, _, g11, hgd11, hd11, nodup_put nd', fun x => ?_, fun x v ev => ?_, rfl⟩
        · rw [mem_keys_put, mem', List.take_add_one, hbr]
          simp [or_assoc]
        · rw [valV_put] at ev
          split at ev
          · rename_i hx
            subst hx
            cases ev2 : valV l' x with
            | none =>
              rw [ev2] at ev
              cases ev
              refine .inr ⟨fun z => ?_, rfl⟩
              exact absurd ((mem' x).mpr (.inl z)) (valV_not ev2)
            | some u =>
              rw [ev2] at ev
              cases ev
              exact val' x u ev2
          · exact val' x v ev
      · rintro σ' G' H' s1 s2 ⟨l', a, gp', hgd', hd', nd', mem', val', rfl⟩
        rw [List.take_length] at mem'
        have rn := ri.nextG nd' mem' val' hs hc
        have l4 := (ok.lap rn.nd fun r hr => ⟨n + 1, (rn.mem r).mp hr⟩).1
        rw [len_keys] at l4
        have mono : l.length ≤ l'.length := by
          have z := nodup_sub_len (l := keys l) (u := keys l') ri.nd fun r hr => (mem' r).mpr (.inl hr)
          rwa [len_keys, len_keys] at z
        refine ⟨_, ?_, G', n + 1, l', _, _, _, _, _, _, _, gp', hgd', hd', (((((s3.trans g4.gg).trans g5.gg).trans s56).trans s67).trans g8.gg).trans (g9.gg.trans s1), rn, rfl, rfl⟩
        rw [if_neg (Nat.succ_ne_zero n)]
        by_cases hn : n = 0
        · rw [if_pos hn]; omega
        · rw [if_neg hn]
          obtain ⟨r, hr⟩ : ∃ r, r ∈ lt := by
            cases lt with
            | nil => simp at he
            | cons a b => exact ⟨a, List.mem_cons_self ..⟩
          have hnl : ¬ (sysOf i).Lv n r := by
            rcases (ltm r).mp hr with z | z
            · exact z.2
            · exact absurd z.1 hn
          have z := nodup_sub_len (l := r :: keys l) (u := keys l') (List.nodup_cons.mpr ⟨fun q => hnl ((ri.mem r).mp q), ri.nd⟩) fun x hx => by
            rcases List.mem_cons.mp hx with e | e
            · rw [e]; exact (mem' r).mpr (.inr hr)
            · exact (mem' x).mpr (.inl e)
          rw [List.length_cons, len_keys, len_keys] at z
          omega
end
end Hk

set_option Elab.async false
set_option linter.all false
set_option maxRecDepth 100000
set_option maxHeartbeats 1000000
/-! max(xs, default=d) of whole numbers. -/
namespace Hk
open PySem PySem.Spec PyProof.Rows L2
theorem readsInts {h : Heap} : ∀ {ns : List Int} {us : List Value}, Vals (ns.map V.int) us → ReadsAll h us (ns.map PyData.int) []
  | [], _, .nil => .nil
  | n :: ns, _, .cons ⟨t, e⟩ r => by
    subst e
    exact .cons (as := []) (bs := []) (.int n t) (readsInts r)
theorem alikeInts (ns : List Int) : PySem.W.AlikeAll (ns.map PyData.int) := by
  refine ⟨fun x hx y hy => ?_, fun x hx => ?_⟩
  · obtain ⟨a, _, rfl⟩ := List.mem_map.mp hx
    obtain ⟨b, _, rfl⟩ := List.mem_map.mp hy
    rfl
  · obtain ⟨a, _, rfl⟩ := List.mem_map.mp hx
    exact fun z => nomatch z
theorem depInts : ∀ ns : List Int, PyData.depthAll (ns.map PyData.int) = 0
  | [] => rfl
  | n :: ns => by
    rw [List.map_cons, PyData.depthAll, depInts ns]
    rfl
theorem fold_max : ∀ (ns : List Int) (n : Int), (ns.foldl max n = n ∨ ns.foldl max n ∈ ns) ∧ n ≤ ns.foldl max n ∧ ∀ y ∈ ns, y ≤ ns.foldl max n
  | [], n => ⟨.inl rfl, Int.le_refl _, fun y h => nomatch h⟩
  | k :: ns, n => by
    obtain ⟨h1, h2, h3⟩ := fold_max ns (max n k)
    rw [List.foldl_cons]
    refine ⟨?_, by omega, fun y hy => ?_⟩
    · rcases h1 with z | z
      · rw [z]
        rcases Int.le_total n k with c | c
        · rw [Int.max_eq_right c]; exact .inr (List.mem_cons_self ..)
        · rw [Int.max_eq_left c]; exact .inl rfl
      · exact .inr (List.mem_cons_of_mem _ z)
    · rcases List.mem_cons.mp hy with z | z
      · omega
      · exact h3 y z
def rMaxDf (K : PySem.W.Frag) : List V → List V → Hp → VK → Prop := fun xs zs H Q => ∃ (a : Addr) (ns : List Int) (d : Int), xs = [.ref a] ∧ zs = [.int d] ∧ SqL K H a (ns.map V.int) ∧ ∀ m, (ns = [] → m = d) → (ns ≠ [] → m ∈ ns ∧ ∀ y ∈ ns, y ≤ m) → Q (.int m) H
theorem cr_maxDf {X : Cx} (hc : X.calm = true) (hr : Room 0 X.A) : CallRK X (.builtin "max") ["default"] (rMaxDf X.K) := by
  intro pins s σ H xs zs us ws Q I rx rz h
  obtain ⟨a, ns, d, rfl, rfl, hs, q⟩ := h
  obtain ⟨u, rfl, ru⟩ := rx.one
  cases ru
  obtain ⟨u2, rfl, t, rfl⟩ := rz.one
  obtain ⟨its, rv, hl, _⟩ := I.list hs
  have hu := hr.un
  refine PySem.W.max_list_default (vs := its.toArray) (xs := ns.map PyData.int) (as := []) (I.ok.hd hc) hl.isList (readsInts (by simpa using rv)) (alikeInts ns) (by rw [depInts]; omega) (fun e h' tk hk => ?_) (fun y ys i v h' tk bs e hv hrd hk => ?_)
  · have en : ns = [] := by cases ns with
      | nil => rfl
      | cons a b => cases e
    exact ⟨.int d, H, I.kept hk, ⟨_, rfl⟩, q d (fun _ => rfl) fun z => absurd en z⟩
  · cases ns with
    | nil => cases e
    | cons n ns =>
      cases e
      rw [PySem.W.maxD_ints] at hrd
      cases hrd with
      | int i t =>
        obtain ⟨h1, h2, h3⟩ := fold_max ns n
        refine ⟨.int (ns.foldl max n), H, I.kept hk, ⟨_, rfl⟩, q _ (fun z => nomatch z) fun _ => ⟨?_, fun y hy => ?_⟩⟩
        · rcases h1 with z | z
          · rw [z]; exact List.mem_cons_self ..
          · exact List.mem_cons_of_mem _ z
        · rcases List.mem_cons.mp hy with z | z
          · rw [z]; exact h2
          · exact h3 y z
end Hk

set_option Elab.async false
set_option linter.all false
set_option maxRecDepth 100000
set_option maxHeartbeats 2000000
/-! The plain law: what is drawn is as the promises want it; the rounds are few. -/
namespace Hk
open PySem PySem.Spec PyProof.Rows L2
/-- people, things and rights, as they are drawn or told -/
structure Case (ppl ths : List Str) (rts : List Rt) : Prop where
  nd : (ppl ++ ths).Nodup
  one : 1 ≤ (ppl ++ ths).length
  nm : ∀ z ∈ ppl ++ ths, z ∈ allN
  ri : ∀ r ∈ rts, r.1 ∈ ppl ++ ths ∧ r.2.1 ∈ allW ∧ r.2.2 ∈ ppl ++ ths
  len : rts.length ≤ 6
theorem allN_nd : allN.Nodup := by decide
theorem isW_allN : ∀ z ∈ allN, isW z = true := by decide
theorem len_allN : ∀ z ∈ allN, z.length ≤ 3 := by decide
theorem case_drawn {ppl ths : List Str} {rts : List Rt} (h : Drawn ppl ths rts) : Case ppl ths rts := by
  obtain ⟨k, k1, k5, hs, ht, hr⟩ := h.nm
  have nk : (allN.take k).Nodup := allN_nd.sublist (List.take_sublist _ _)
  have mem : ∀ z, z ∈ ppl ++ ths ↔ z ∈ allN.take k := fun z => by
    rw [List.mem_append, ht, List.mem_filter]
    constructor
    · rintro (a | a)
      · exact hs.subset a
      · exact a.1
    · intro a
      by_cases b : z ∈ ppl
      · exact .inl b
      · exact .inr ⟨a, by simp [b]⟩
  refine ⟨?_, ?_, fun z hz => List.mem_of_mem_take ((mem z).mp hz), fun r hr' => ?_, h.len⟩
  · rw [List.nodup_append]
    refine ⟨nk.sublist hs, ?_, fun a ha b hb e => ?_⟩
    · rw [ht]; exact nk.filter _
    · rw [ht] at hb
      have := (List.mem_filter.mp hb).2
      rw [← e] at this
      simp [ha] at this
  · have : ("ann" : Str) ∈ ppl ++ ths := (mem _).mpr (by
      cases k with
      | zero => omega
      | succ k => exact List.mem_cons_self ..)
    exact List.length_pos_of_mem this
  · obtain ⟨a, b, c⟩ := hr r hr'
    exact ⟨(mem _).mpr a, b, (mem _).mpr c⟩
theorem Case.len5 {ppl ths : List Str} {rts : List Rt} (h : Case ppl ths rts) : (ppl ++ ths).length ≤ 5 := nodup_len h.nd h.nm
theorem Case.st {ppl ths : List Str} {rts : List Rt} (h : Case ppl ths rts) : (StIn.mk ppl ths rts).Ok :=
  ⟨h.nd, h.one, Nat.le_trans h.len5 (by decide), Nat.lt_of_le_of_lt h.len (by decide), fun z hz => isW_allN z (h.nm z hz), fun r hr => ⟨(h.ri r hr).1, (h.ri r hr).2.2, isW_all _ (h.ri r hr).2.1⟩⟩
theorem DrawnR.pol {rs : List Rule} (h : DrawnR rs) : PolOk rs := ⟨Nat.le_trans h.len (by decide), fun r hr => (h.ok r hr).1, h.one⟩
theorem DrawnR.prs {rs : List Rule} (h : DrawnR rs) : ∀ r ∈ rs, r.prs ≤ 2 := fun r hr => by
  have z := (h.ok r hr).2
  cases r with
  | fetch w ps => exact z.2.1
  | hand w ps => exact z.2.1
  | _ => exact Nat.le_succ 1
theorem DrawnR.outs {rs : List Rule} (h : DrawnR rs) : ∀ r ∈ rs, ∀ z ∈ r.outs, z ∈ allW := fun r hr z hz => by
  have w := (h.ok r hr).2
  cases r with
  | fetch a ps =>
    obtain ⟨p, hp, rfl⟩ := List.mem_map.mp hz
    exact (w.2.2 p hp).2
  | hand a ps =>
    obtain ⟨p, hp, rfl⟩ := List.mem_map.mp hz
    exact (w.2.2 p hp).2
  | rais a b => rw [List.mem_singleton.mp hz]; exact w.2
  | meet a b c => rw [List.mem_singleton.mp hz]; exact w.2.2
  | make ws => cases hz
theorem madeOf_mem {rs : List Rule} {ws : List Str} (h : madeOf rs = some ws) : Rule.make ws ∈ rs := by
  induction rs with
  | nil => cases h
  | cons r l ih =>
    cases r with
    | make ws' =>
      have h : some ws' = some ws := h
      cases h
      exact List.mem_cons_self ..
    | fetch a b => exact List.mem_cons_of_mem _ (ih h)
    | hand a b => exact List.mem_cons_of_mem _ (ih h)
    | rais a b => exact List.mem_cons_of_mem _ (ih h)
    | meet a b c => exact List.mem_cons_of_mem _ (ih h)
/-- the names: the parties, and the helpers of the people -/
def nms (ppl ths : List Str) : List Str := ppl ++ ths ++ ppl.map plus
theorem plus_cps (z : Str) : (plus z).cps.toList = z.cps.toList ++ [43] := by
  unfold plus
  show (z.cps ++ ("+" : Str).cps).toList = _
  rw [Array.toList_append]
  rfl
theorem okT_plus {z : Str} (h : okT z) : okT (plus z) := fun c hc => by
  rw [plus_cps] at hc
  rcases List.mem_append.mp hc with a | a
  · exact h c a
  · rw [List.mem_singleton.mp a]; decide
/-- what the closure of these is -/
structure Pair (rs : List Rule) (ppl ths : List Str) (st : StIn) (p : List Str) : Prop where
  dr : DrawnR rs
  nd : (ppl ++ ths).Nodup
  nm : ∀ z ∈ ppl ++ ths, z ∈ allN
  ri : ∀ r ∈ st.rts, r.1 ∈ ppl ++ ths ∧ r.2.1 ∈ allW ∧ r.2.2 ∈ ppl ++ ths
  len : st.rts.length ≤ 7
  pp : ∀ z, z ∈ p ↔ z ∈ ppl
  pl : p.length ≤ 5
theorem Pair.clo {rs : List Rule} {ppl ths p : List Str} {st : StIn} (h : Pair rs ppl ths st p) : CloOk ⟨rs, st, p⟩ ∧ (sysOf ⟨rs, st, p⟩).Bd (nms ppl ths) allW := by
  have l5 : (ppl ++ ths).length ≤ 5 := nodup_len h.nd h.nm
  have lp : ppl.length ≤ 5 := by rw [List.length_append] at l5; omega
  have bd : (sysOf ⟨rs, st, p⟩).Bd (nms ppl ths) allW := by
    refine ⟨?_, fun z hz => ?_, fun z hz => okT_isW (isW_all z hz), fun r hr => ?_, fun r hr => ?_, h.dr.outs⟩
    · have e : (nms ppl ths).length ≤ 10 := by
        unfold nms
        rw [List.length_append, List.length_map]
        omega
      have e2 : allW.length = 4 := rfl
      rw [e2]
      have : (nms ppl ths).length * (4 * (nms ppl ths).length) ≤ 10 * (4 * 10) := Nat.mul_le_mul e (Nat.mul_le_mul_left 4 e)
      omega
    · rcases List.mem_append.mp hz with a | a
      · exact okT_isW (isW_allN z (h.nm z a))
      · obtain ⟨y, hy, rfl⟩ := List.mem_map.mp a
        exact okT_plus (okT_isW (isW_allN y (h.nm y (List.mem_append_left _ hy))))
    · obtain ⟨a, b, c⟩ := h.ri r hr
      exact ⟨List.mem_append_left _ a, b, List.mem_append_left _ c⟩
    · obtain ⟨ws, e, hm⟩ := hr
      obtain ⟨q, hq, h2⟩ := List.mem_flatMap.mp hm
      obtain ⟨w, hw, rfl⟩ := List.mem_map.mp h2
      have hq := (h.pp q).mp hq
      exact ⟨List.mem_append_left _ (List.mem_append_left _ hq), (h.dr.ok _ (madeOf_mem e)).2 w hw, List.mem_append_right _ (List.mem_map_of_mem hq)⟩
  refine ⟨⟨⟨h.dr.pol, Nat.le_trans h.len (by decide), Nat.le_trans h.pl (by decide), fun z hz => ?_, madeOf_len h.dr.pol.ok⟩, h.dr.len, h.dr.prs, h.pl, _, _, bd⟩, bd⟩
  exact Nat.le_trans (len_allN z (h.nm z (List.mem_append_left _ ((h.pp z).mp hz)))) (by decide)
theorem sys_eq {rs : List Rule} {st st' : StIn} {p p' : List Str} (hp : ∀ z, z ∈ p ↔ z ∈ p') (hr : ∀ r, r ∈ st.rts ↔ r ∈ st'.rts) : sysOf ⟨rs, st, p⟩ = sysOf ⟨rs, st', p'⟩ := by
  unfold sysOf
  have e1 : (fun z => z ∈ p) = fun z => z ∈ p' := funext fun z => propext (hp z)
  have e2 : (fun r => r ∈ st.rts) = fun r => r ∈ st'.rts := funext fun r => propext (hr r)
  have e3 : (fun r => ∃ ws, madeOf rs = some ws ∧ r ∈ madeR ws p) = fun r => ∃ ws, madeOf rs = some ws ∧ r ∈ madeR ws p' := funext fun r => propext (by
    refine exists_congr fun ws => and_congr Iff.rfl ?_
    unfold madeR
    rw [List.mem_flatMap, List.mem_flatMap]
    exact exists_congr fun q => and_congr (hp q) Iff.rfl)
  show Sys.mk rs (fun z => z ∈ p) (fun r => r ∈ st.rts) _ = Sys.mk rs (fun z => z ∈ p') (fun r => r ∈ st'.rts) _
  rw [e1, e2, e3]
/-- no + in a party's name; one in a helper's -/
theorem no_plus : ∀ z ∈ allN, 43 ∉ z.cps.toList := by decide
theorem own_iff {rs : List Rule} {ppl ths : List Str} {st : StIn} (h : Pair rs ppl ths st st.ppl) (hn : ∀ z, z ∈ st.ppl ++ st.ths ↔ z ∈ ppl ++ ths) {r : Rt} (hr : (sysOf ⟨rs, st, st.ppl⟩).Com r) : isOwn (st.ppl ++ st.ths) r = lawOwn r := by
  have hu := Sys.com_U h.clo.2 hr
  have key : ∀ z ∈ nms ppl ths, 43 ∉ z.cps.toList → z ∈ ppl ++ ths := fun z hz hp => by
    rcases List.mem_append.mp hz with a | a
    · exact a
    · obtain ⟨y, hy, rfl⟩ := List.mem_map.mp a
      rw [plus_cps] at hp
      exact absurd (List.mem_append_right _ (List.mem_singleton.mpr rfl)) hp
  have e : (r.1 ++ r.2.2).cps.toList = r.1.cps.toList ++ r.2.2.cps.toList := by
    show (r.1.cps ++ r.2.2.cps).toList = _
    rw [Array.toList_append]
  unfold isOwn lawOwn
  rw [e]
  by_cases h1 : 43 ∈ r.1.cps.toList
  · simp [h1]
  · by_cases h2 : 43 ∈ r.2.2.cps.toList
    · simp [h2]
    · have h3 : r.1 ∈ st.ppl ++ st.ths := (hn _).mpr (key _ hu.1 h1)
      rw [decide_eq_false h1, decide_eq_false h2, decide_eq_true h3, decide_eq_false (fun z => (List.mem_append.mp z).elim h1 h2)]
      rfl
theorem nm_len {ppl ths : List Str} (h : ∀ z ∈ ppl ++ ths, z ∈ allN) : ∀ z ∈ nms ppl ths, z.length ≤ 1000 := fun z hz => by
  rcases List.mem_append.mp hz with a | a
  · exact Nat.le_trans (len_allN z (h z a)) (by decide)
  · obtain ⟨y, hy, rfl⟩ := List.mem_map.mp a
    have := len_allN y (h y (List.mem_append_left _ hy))
    show (y ++ ("+" : Str)).cps.size ≤ 1000
    have e : (y ++ ("+" : Str)).cps.size = y.cps.size + 1 := by
      show (y.cps ++ ("+" : Str).cps).size = _
      rw [Array.size_append]; rfl
    have e2 : y.length = y.cps.size := rfl
    omega
/-! ### few rounds -/
theorem fst_all {y : Sys} {m : Nat} {r : Rt} (h : y.Fst m r) {k : Nat} (hk : k < m) : ∃ t, y.Fst (k + 1) t := by
  refine Classical.byContradiction fun no => ?_
  have st : ∀ t, y.Lv (k + 1) t → y.Lv k t := fun t ht => by
    refine Classical.byContradiction fun nk => no ⟨t, ht, fun j hj hl => nk (Sys.lv_le (by omega) hl)⟩
  exact h.2 k hk (Sys.lv_stop st h.1)
theorem fst_len {y : Sys} {NS WS : List Str} (d : y.Bd NS WS) {m : Nat} {r : Rt} (h : y.Fst m r) : m ≤ 400 := by
  have : ∀ j, j ≤ m → ∃ L : List Rt, L.length = j ∧ L.Nodup ∧ ∀ t ∈ L, ∃ k, k ≤ j ∧ y.Fst k t := by
    intro j
    induction j with
    | zero => intro _; exact ⟨[], rfl, .nil, fun t h => nomatch h⟩
    | succ j ih =>
      intro hj
      obtain ⟨L, l1, l2, l3⟩ := ih (by omega)
      obtain ⟨t, ht⟩ := fst_all h (k := j) (by omega)
      refine ⟨t :: L, by rw [List.length_cons, l1], List.nodup_cons.mpr ⟨fun hm => ?_, l2⟩, fun x hx => ?_⟩
      · obtain ⟨k, k1, k2⟩ := l3 t hm
        have := Sys.fst_uniq ht k2
        omega
      · rcases List.mem_cons.mp hx with e | e
        · rw [e]; exact ⟨j + 1, Nat.le_refl _, ht⟩
        · obtain ⟨k, k1, k2⟩ := l3 x e
          exact ⟨k, by omega, k2⟩
  obtain ⟨L, l1, l2, l3⟩ := this m (Nat.le_refl _)
  rw [← l1]
  exact Sys.len_U d l2 fun t ht => Sys.com_U d (let ⟨k, _, h⟩ := l3 t ht; ⟨k, h.1⟩)
theorem lastR_len {y : Sys} {NS WS : List Str} (d : y.Bd NS WS) {m : Nat} (h : LastR y m) : m ≤ 400 := by
  rcases h.at_ with e | ⟨r, e⟩
  · omega
  · exact fst_len d e
/-- without rules nothing comes up -/
theorem lv_none {st : StIn} {p : List Str} {n : Nat} {r : Rt} (h : (sysOf ⟨[], st, p⟩).Lv n r) : (sysOf ⟨[], st, p⟩).Lv 0 r := by
  induction n with
  | zero => exact h
  | succ n ih =>
    rcases h with h | ⟨rl, h1, _⟩ | ⟨_, ws, h1, _⟩
    · exact ih h
    · cases h1
    · cases h1
theorem last_none {st : StIn} {p : List Str} {m : Nat} (h : LastR (sysOf ⟨[], st, p⟩) m) : m = 0 := by
  rcases h.at_ with e | ⟨r, e⟩
  · exact e
  · refine Nat.eq_zero_of_not_pos fun hp => ?_
    exact e.2 0 hp (lv_none e.1)
theorem eqvAll_refl : ∀ {l : List Rt}, PyData.eqvAll (l.map rD) (l.map rD) = true
  | [] => by rw [List.map_nil, PyData.eqvAll]
  | r :: l => by
    rw [List.map_cons, PyData.eqvAll, eqvAll_refl, eqv_rD, decide_eq_true rfl]
    rfl
theorem eqv_rts {l : List Rt} : PyData.eqv (.list (l.map rD)) (.list (l.map rD)) = true := by
  rw [PyData.eqv]
  exact eqvAll_refl
end Hk

set_option Elab.async false
set_option linter.all false
set_option maxRecDepth 100000
set_option maxHeartbeats 2000000
/-! Readings for law: frozen dicts, the draws' list, own instances. -/
namespace Hk
open PySem PySem.Spec PyProof.Rows L2
/-- a dict of rights that is frozen for good -/
def DctF (l : List (Rt × V)) : VP := fun v G => ∃ d od, v = .ref d ∧ G d = some (.frz od (DTo l))
theorem mon_dctF {l : List (Rt × V)} : Mon (DctF l) := fun v _ _ s ⟨d, od, e, h⟩ => ⟨d, od, e, s _ _ h⟩
theorem dctF_R {l : List (Rt × V)} {v : V} {G : Hp} (h : DctF l v G) : DctR l v G := let ⟨d, od, e, h⟩ := h; ⟨d, e, .inr ⟨od, h⟩⟩
section
variable {K : PySem.W.Frag} {σ : L2.St} {G H : Hp} {ta tb te tk tv tl : TE} {l : List (Rt × V)} {r : Rt} {v : V} {d : Addr} {u : TS} {D : Ends}
theorem ev_frzM {Rl : List (Rt × V) → Prop} (h : EvM te σ G (fun o _ => ∃ l, o = DTo l ∧ Rl l)) : EvP (tFrz te) σ G (fun v G' => ∃ l, Rl l ∧ DctF l v G') := fun H s Q q =>
  h H s _ fun p o G2 H2 g h0 hg e ⟨l, eo, hl⟩ => by
    subst eo
    exact ⟨p, DTo l, rfl, e, trivial, fun od => q (.ref p) (upd G2 p (.frz od (DTo l))) _ ((g.mut h0 hg).keepIt h0 hg upd_same) ⟨l, hl, p, od, rfl, upd_same⟩⟩
theorem rd_up {G H : Hp} {d : Addr} {o : HO} (s : Same G H) (h : Rd G d o) : Rd H d o := h.elim (fun z => .inl (s _ _ z)) fun ⟨x, z⟩ => .inr ⟨x, s _ _ z⟩
theorem dget_ofR {H : Hp} {d q : Addr} (h : Rd H d (DTo l)) (hq : H q = some (.tup ((kR r).map kV))) : DGet H d (.ref q) (valV l r) := by
  rw [← val_mR]
  exact .inr ⟨_, _, _, h, rfl, hq, rfl⟩
theorem ev_dgetF (hd : EvP ta σ G (DctF l)) (hk : EvP tk σ G (DD K (rD r))) (e : valV l r = some v) : EvP (tDGet ta tk) σ G (IsV v) := fun H s Q q =>
  hd H s _ fun x G1 H1 g1 p1 => (hk.up mon_dd g1.gg) H1 g1.sub _ fun y G2 H2 g2 p2 => by
    obtain ⟨d, e1, h1⟩ := dctF_R (mon_dctF _ _ _ g2.gg p1)
    obtain ⟨qa, e2, h2⟩ := right_at p2
    refine ⟨d, v, e1, ?_, q v G2 H2 (g1.trans g2) rfl⟩
    rw [e2, ← e]
    exact dget_ofR (rd_up g2.sub h1) (g2.sub _ _ h2)
theorem ev_dinF (hk : EvP tk σ G (DD K (rD r))) (hd : EvP ta σ G (DctF l)) : EvP (tDIn tk ta) σ G (IsV (.bl (decide (r ∈ keys l)))) := fun H s Q q =>
  hk H s _ fun y G1 H1 g1 p1 => (hd.up mon_dctF g1.gg) H1 g1.sub _ fun x G2 H2 g2 p2 => by
    obtain ⟨d, e1, h1⟩ := dctF_R p2
    obtain ⟨qa, e2, h2⟩ := right_at (Dp.up g2.gg _ _ p1)
    refine ⟨d, valV l r, e1, ?_, q _ G2 H2 (g1.trans g2) (by rw [val_some])⟩
    rw [e2]
    exact dget_ofR (rd_up g2.sub h1) (g2.sub _ _ h2)
theorem ev_dget1F (hd : EvP ta σ G (DctF l)) (hk : EvP tk σ G (DD K (rD r))) : EvP (tDGet1 ta tk) σ G (IsV ((valV l r).getD .non)) := fun H s Q q =>
  hd H s _ fun x G1 H1 g1 p1 => by
    obtain ⟨d, e1, h1⟩ := dctF_R p1
    refine ⟨d, e1, .inr ⟨mR l, rd_up g1.sub h1⟩, (hk.up mon_dd g1.gg) H1 g1.sub _ fun y G2 H2 g2 p2 => ?_⟩
    obtain ⟨qa, e2, h2⟩ := right_at p2
    refine ⟨valV l r, ?_, q _ G2 H2 (g1.trans g2) rfl⟩
    rw [e2]
    exact dget_ofR (rd_up g2.sub (rd_up g2.gg h1)) (g2.sub _ _ h2)
theorem src_keysF (h : EvP te σ G (DctF l)) : SrcB (iKeys te) σ G l (fun b => DD K (rD b.1)) := fun H s R k =>
  h H s _ fun v G1 H1 g1 ⟨d, od, e, hd⟩ => ⟨d, od, e, .inr ⟨mR l, g1.sub _ _ hd, k _ G1 H1 g1 (walk_rts hd)⟩⟩
theorem ev_listF (h : EvP te σ G (DctF l)) : EvP te σ G (DctR l) := h.imp fun _ _ _ z => dctF_R z
/-- xs[:n], n no less than they are -/
theorem ev_takeAll {ds : List PyData} {n : Nat} {tn : TE} (h : EvP ta σ G (DD K (.list ds))) (hn : EvP tn σ G (IsV (.int (n : Nat)))) (hl : ds.length ≤ n) : EvP (tSl (rSlL K) ta tNoPart (tPart tn)) σ G (DD K (.list ds)) := fun H s Q q =>
  h H s _ fun v G1 H1 g1 hd => (hn.up mon_v g1.gg) H1 g1.sub _ fun z G2 H2 g2 ez => by
    obtain ⟨a, xs, rfl, h1, h2⟩ := dp_list (Dp.up g2.gg _ _ hd)
    have hx := DpAll.len h2
    refine ⟨(n : Nat), ez, a, xs, rfl, g2.sub.seq h1, fun p hp => q (.ref p) _ _ ((g1.trans g2).trans (Gr.new g2.sub hp)) (.lst upd_same ?_)⟩
    unfold cutV
    rw [HT.sIx_nat, HT.sIx_none, Nat.min_eq_right (by omega), List.drop_zero, Nat.sub_zero, List.take_length]
    exact DpAll.up (same_new (g2.sub.free hp)) _ _ h2
theorem seq_par2 {i j : Nat} {P1 P2 : VP} (h1 : EvP ta σ G P1) (m : Mon P1) (h2 : ∀ G', Same G G' → EvP tb σ G' P2) (s : Same G H) (k : ∀ v w G2 H2, Gr G H G2 H2 → P1 v G2 → P2 w G2 → u D ((σ.set i (some v)).set j (some w)) H2) : tSeq (tPar i j (tCons ta (tCons tb tNil))) u D σ H :=
  h1 H s _ fun v G1 H1 g1 p1 => h2 G1 g1.gg H1 g1.sub _ fun w G2 H2 g2 p2 => ⟨v, w, rfl, k v w G2 H2 (g1.trans g2) (m _ _ _ g2.gg p1) p2⟩
theorem run_par2 {i j : Nat} {P1 P2 : VP} (h1 : EvP ta σ G P1) (m : Mon P1) (h2 : ∀ G', Same G G' → EvP tb σ G' P2) (s : Same G H) (k : ∀ v w G2 H2, Gr G H G2 H2 → P1 v G2 → P2 w G2 → D.nx ((σ.set i (some v)).set j (some w)) H2) : tPar i j (tCons ta (tCons tb tNil)) D σ H :=
  h1 H s _ fun v G1 H1 g1 p1 => h2 G1 g1.gg H1 g1.sub _ fun w G2 H2 g2 p2 => ⟨v, w, rfl, k v w G2 H2 (g1.trans g2) (m _ _ _ g2.gg p1) p2⟩
theorem ev_mkState {S : Addr} {t : TA} {E : XK} (i : StIn) (h : EvA t σ G (fun ws G => ∃ a b c, ws = [a, b, c] ∧ Dp K G a (.list (i.ppl.map sD)) ∧ Dp K G b (.list (i.ths.map sD)) ∧ Dp K G c (.list (i.rts.map rD)) ∧ i.Ok)) : EvP (tMake S (sp_Stateinit K S) [] E t) σ G (StMade K S i) := by
  unfold sp_Stateinit
  exact (ev_make (post := StPost K) (pre := fun (i : StIn) ws G => ∃ a b c, ws = [a, b, c] ∧ Dp K G a (.list (i.ppl.map sD)) ∧ Dp K G b (.list (i.ths.map sD)) ∧ Dp K G c (.list (i.rts.map rD)) ∧ i.Ok) (dvs := []) i mon_stpost (h.imp fun vs G' _ z => by rw [List.append_nil]; exact z)).imp fun v G' _ ⟨fs, hi, rs, n, m, u, hf⟩ => ⟨rs, n, m, u, fs, hi, hf⟩
theorem ev_mkPol {Po : Addr} {t : TA} {E : XK} (rs : List Rule) (h : EvA t σ G (fun ws G => ∃ a, ws = [a] ∧ Dp K G a (.list (rs.map ruleD)) ∧ PolOk rs)) : EvP (tMake Po (sp_Policyinit K Po) [] E t) σ G (PoV K Po rs) := by
  unfold sp_Policyinit
  exact (ev_make (post := PoPost K) (pre := fun (rs : List Rule) ws G => ∃ a, ws = [a] ∧ Dp K G a (.list (rs.map ruleD)) ∧ PolOk rs) (dvs := []) rs (fun fs G G' s ⟨t, e, h⟩ => ⟨t, e, Dp.up s _ _ h⟩) (h.imp fun vs G' _ z => by rw [List.append_nil]; exact z)).imp fun v G' _ ⟨fs, hi, t, ef, hd⟩ => ⟨t, by rw [← ef]; exact hi, hd⟩
end
/-! ### the draws' list -/
structure DS (d : Addr) (sc : V) (G1 H1 G H : Hp) (n : Nat) : Prop where
  gd : GD d G1 H1 G H
  at_ : H d = some (drw sc n)
section
variable {K : PySem.W.Frag} {σ : L2.St} {G1 H1 G H G2 H2 : Hp} {d : Addr} {sc : V} {n n' c m : Nat} {te tc t1 t2 t3 : TE} {u t : TS} {D : Ends} {P : VP}
theorem DS.up (h : DS d sc G1 H1 G H n) (g : Gr G H G2 H2) : DS d sc G1 H1 G2 H2 n := ⟨h.gd.trans (GD.of g h.gd.no h.at_ nt_drw), g.hh _ _ h.at_⟩
theorem DS.dr (h : DS d sc G1 H1 G H n) (g : GD d G H G2 H2) (e : H2 d = some (drw sc n')) : DS d sc G1 H1 G2 H2 n' := ⟨h.gd.trans g, e⟩
theorem DS.sub (h : DS d sc G1 H1 G H n) : Same G H := h.gd.gr.sub
theorem DS.no (h : DS d sc G1 H1 G H n) : G d = none := h.gd.no
theorem DS.gg (h : DS d sc G1 H1 G H n) : Same G1 G := h.gd.gr.gg
theorem DS.fin {G0 H0 : Hp} (g : Gr G0 H0 G1 H1) (h0 : H0 d = none) (hg : G1 d = none) (h : DS d sc G1 H1 G H n) : Gr G0 H0 G H := (g.del2 h0 hg).trans h.gd.gr
theorem seq_setD {i : Nat} (h : EvD d sc te σ G n c P) (ds : DS d sc G1 H1 G H n) (k : ∀ v n' G2 H2, DS d sc G1 H1 G2 H2 n' → Same G G2 → n' ≤ n + c → P v G2 → u D (σ.set i (some v)) H2) : tSeq (tAsg te (gName i)) u D σ H :=
  h H ds.sub ds.no ds.at_ _ fun v n' G2 H2 g hd hn p => k v n' G2 H2 (ds.dr g hd) g.gr.gg hn p
theorem seq_asg3D {i j l : Nat} (h : EvD d sc te σ G n c (DrawnV K)) (ds : DS d sc G1 H1 G H n)
    (k : ∀ v1 v2 v3 ppl ths rts n' G2 H2, DS d sc G1 H1 G2 H2 n' → Same G G2 → n' ≤ n + c → Dp K G2 v1 (.list (ppl.map sD)) → Dp K G2 v2 (.list (ths.map sD)) → Dp K G2 v3 (.list (rts.map rD)) → Drawn ppl ths rts → u D (((σ.set i (some v1)).set j (some v2)).set l (some v3)) H2) :
    tSeq (tAsg te (gTup K 3 (gCons (gName i) (gCons (gName j) (gCons (gName l) gNil))))) u D σ H :=
  h H ds.sub ds.no ds.at_ _ fun v n' G2 H2 g hd hn ⟨ppl, ths, rts, hv, dr⟩ => by
    obtain ⟨v1, v2, v3, p1, p2, p3, tg⟩ := tgt_3 (σ := σ) (g1 := gName i) (g2 := gName j) (g3 := gName l) hv (fun v1 _ => tgt_name) (fun v1 v2 _ _ => tgt_name) (fun v1 v2 v3 _ _ _ => tgt_name)
    exact tg H2 g.gr.sub _ (k v1 v2 v3 ppl ths rts n' G2 H2 (ds.dr g hd) g.gr.gg hn p1 p2 p3 dr)
/-- if draw == 0: suite -/
theorem seq_if0 {R : L2.St → Hp → Prop} (hc : EvD d sc tc σ G n 1 (RgV m)) (ds : DS d sc G1 H1 G H n) (h1 : ∀ n' G2 H2, DS d sc G1 H1 G2 H2 n' → Same G G2 → n' ≤ n + 1 → (∀ D' : Ends, (∀ σ' H', R σ' H' → D'.nx σ' H') → t D' σ H2) ∧ R σ H2)
    (k : ∀ σ' H', R σ' H' → u D σ' H') : tSeq (tIfS (tTest (tOp rEq tc (tC (.int 0)))) t tNext) u D σ H :=
  hc H ds.sub ds.no ds.at_ _ fun v n' G2 H2 g hd hn ⟨x, _, e⟩ => by
    subst e
    obtain ⟨k1, k2⟩ := h1 n' G2 H2 (ds.dr g hd) g.gr.gg hn
    refine ⟨rfl, _, rfl, ?_⟩
    show if decide (V.int (x : Nat) = V.int 0) = true then t { D with nx := u D } σ H2 else u D σ H2
    split
    · exact k1 { D with nx := u D } k
    · exact k _ _ k2
/-- (draw, draw, draw): a right -/
theorem evD_r3 {l1 l2 l3 : List Str} (h1 : EvD d sc t1 σ G n 1 (fun v _ => ∃ z, z ∈ l1 ∧ v = .str z)) (h2 : ∀ G' n', Same G G' → n' ≤ n + 1 → EvD d sc t2 σ G' n' 1 (fun v _ => ∃ z, z ∈ l2 ∧ v = .str z)) (h3 : ∀ G' n', Same G G' → n' ≤ n + 2 → EvD d sc t3 σ G' n' 1 (fun v _ => ∃ z, z ∈ l3 ∧ v = .str z)) :
    EvD d sc (tTup (tCons t1 (tCons t2 (tCons t3 tNil)))) σ G n 3 (fun v G' => ∃ r : Rt, (r.1 ∈ l1 ∧ r.2.1 ∈ l2 ∧ r.2.2 ∈ l3) ∧ Dp K G' v (rD r)) := fun H s hg hd Q q =>
  h1 H s hg hd _ fun v1 n1 G1 H1 g1 hd1 hn1 ⟨z1, m1, e1⟩ => h2 G1 n1 g1.gr.gg hn1 H1 g1.gr.sub g1.no hd1 _ fun v2 n2 G2 H2 g2 hd2 hn2 ⟨z2, m2, e2⟩ =>
    h3 G2 n2 (g1.gr.gg.trans g2.gr.gg) (by omega) H2 g2.gr.sub g2.no hd2 _ fun v3 n3 G3 H3 g3 hd3 hn3 ⟨z3, m3, e3⟩ => ⟨by show 3 ≤ sizeLine; decide, fun p hp => by
      subst e1 e2 e3
      have gn := Gr.new (o := .tup [.str z1, .str z2, .str z3]) g3.gr.sub hp
      refine q (.ref p) n3 _ _ (((g1.trans g2).trans g3).trans (GD.of gn g3.no hd3 nt_drw)) (gn.hh _ _ hd3) (by omega) ⟨(z1, z2, z3), ⟨m1, m2, m3⟩, .tup upd_same (.cons (.str _) (.cons (.str _) (.cons (.str _) .nil)))⟩⟩
/-- [a right that is drawn] -/
theorem evD_l1 {R : Rt → Prop} (h : EvD d sc te σ G n c (fun v G' => ∃ r, R r ∧ Dp K G' v (rD r))) : EvD d sc (tLst (tCons te tNil)) σ G n c (fun v G' => ∃ r a xs, R r ∧ v = .ref a ∧ G' a = some (.lst xs) ∧ DpAll K G' xs ([r].map rD)) := fun H s hg hd Q q =>
  h H s hg hd _ fun v n1 G1 H1 g1 hd1 hn1 ⟨r, hr, hv⟩ => ⟨by show 1 ≤ sizeLine; decide, fun p hp => by
    have gn := Gr.new (o := .lst [v]) g1.gr.sub hp
    exact q (.ref p) n1 _ _ (g1.trans (GD.of gn g1.no hd1 nt_drw)) (gn.hh _ _ hd1) hn1 ⟨r, p, [v], hr, rfl, upd_same, .cons (Dp.up (same_new (g1.gr.sub.free hp)) _ _ hv) .nil⟩⟩
end
end Hk

set_option Elab.async false
set_option linter.all false
set_option maxRecDepth 100000
set_option maxHeartbeats 4000000
/-! law. -/
namespace Hk
open PySem PySem.Spec PyProof.Rows L2
theorem sc_law : FnScope ["_law_script", "_law_draw_here", "_law_rules_here", "_law_people", "_law_things", "_law_rights", "_law_policy", "_law_state_here", "_law_due", "_law_told", "_law_own_here", "_law_right", "_law_last", "_law_number_here", "_law_names", "_law_turn", "_law_more", "_law_late"] ["_law_script"] (defScope s_law) := ⟨rfl, rfl, rfl, by decide +kernel, rfl, by decide +kernel, by decide +kernel⟩
def sp_law (K : PySem.W.Frag) : Sp := SpI (fun (ns : List Int) vs G => ∃ a, vs = [.ref a] ∧ SqL K G a (ns.map V.int) ∧ ns.length ≤ 63) (fun _ => IsV (.bl true))
theorem dp_ints {K : PySem.W.Frag} {G : Hp} : ∀ ns : List Int, DpAll K G (ns.map V.int) (ns.map PyData.int)
  | [] => .nil
  | n :: ns => .cons (.int n) (dp_ints ns)
/-- script[:n] -/
theorem ev_cutS {K : PySem.W.Frag} {σ : L2.St} {G : Hp} {ta tn : TE} {ns : List Int} {n : Nat} (h : EvP ta σ G (fun v G' => ∃ a, v = .ref a ∧ SqL K G' a (ns.map V.int))) (hn : EvP tn σ G (IsV (.int (n : Nat)))) (hl : ns.length ≤ n) : EvP (tSl (rSlL K) ta tNoPart (tPart tn)) σ G (DD K (.list (ns.map PyData.int))) := fun H s Q q =>
  h H s _ fun v G1 H1 g1 ⟨a, e, h1⟩ => (hn.up mon_v g1.gg) H1 g1.sub _ fun z G2 H2 g2 ez => by
    subst e
    refine ⟨(n : Nat), ez, a, ns.map V.int, rfl, (g1.sub.trans g2.hh).seq h1, fun p hp => q (.ref p) _ _ ((g1.trans g2).trans (Gr.new g2.sub hp)) (.lst upd_same ?_)⟩
    unfold cutV
    rw [HT.sIx_nat, HT.sIx_none, Nat.min_eq_right (by rw [List.length_map]; omega), List.drop_zero, Nat.sub_zero, List.take_length]
    exact dp_ints ns
theorem fix_rules : DrawnR [.fetch "t" [("t", "t")]] := by
  refine ⟨by decide, fun r hr => ?_, fun i r e k => ?_⟩
  · rw [List.mem_singleton.mp hr]
    exact ⟨⟨by decide, by decide, by decide, by decide, by decide, List.pairwise_singleton ..⟩, by decide, by decide, by decide⟩
  · cases i with
    | zero => exact (fun z => nomatch z)
    | succ i => simp at e
def fixR : List Rt := [("ann", "t", "bob"), ("bob", "t", "cat"), ("cat", "t", "dan"), ("dan", "t", "eve")]
theorem fix_case : Case ["ann", "bob", "cat"] ["dan", "eve"] fixR := ⟨by decide, by decide, by decide, by decide, by decide⟩
theorem shp {l : List Rt} (h : ∀ r ∈ l, okR r) : SeqAt.shaped (.list (l.map rD)) = true := (Cm.list (n := 1) fun d hd => by
  obtain ⟨y, hy, e⟩ := List.mem_map.mp hd
  rw [← e]
  exact cm_right (h y hy).1 (h y hy).2.1 (h y hy).2.2).ok (by decide)
theorem ev_neSame {K : PySem.W.Frag} {σ : L2.St} {G : Hp} {ta tb : TE} {l : List Rt} (h1 : EvP ta σ G (DD K (.list (l.map rD)))) (h2 : EvP tb σ G (DD K (.list (l.map rD)))) (h : ∀ r ∈ l, okR r) : EvP (tOp (rNeD K) ta tb) σ G (IsV (.bl false)) := by
  have z := ev_neD h1 h2 (shp h) (shp h)
  rwa [eqv_rts] at z
theorem ev_maxDf {K : PySem.W.Frag} {σ : L2.St} {G : Hp} {ta : TE} {zs : List Int} {d : Int} (h : EvP ta σ G (DD K (.list (zs.map PyData.int)))) : EvP (tCKw (rMaxDf K) (tCons ta tNil) (tCons (tC (.int d)) tNil)) σ G (fun v _ => ∃ m : Int, v = .int m ∧ (zs = [] → m = d) ∧ (zs ≠ [] → m ∈ zs ∧ ∀ y ∈ zs, y ≤ m)) := fun H s Q q =>
  h H s _ fun v G1 H1 g1 hd => by
    obtain ⟨a, xs, rfl, h1, h2⟩ := dp_list hd
    rw [DpAll.to_ints h2] at h1
    exact ⟨a, zs, d, rfl, rfl, g1.sub.seq h1, fun m k1 k2 => q _ G1 H1 g1 ⟨m, rfl, k1, k2⟩⟩
theorem ev_lawOwn {K : PySem.W.Frag} {σ : L2.St} {G : Hp} {ta : TE} {E : XK} {l : List Rt} (h : EvP ta σ G (DD K (.list (l.map rD)))) (hl : l.length ≤ 1000) (hz : ∀ r ∈ l, r.1.length ≤ 1000 ∧ r.2.2.length ≤ 1000) : EvP (tCall (sp_law_own K) [] E (tCons ta tNil)) σ G (DD K (.list ((l.filter lawOwn).map rD))) := by
  unfold sp_law_own
  exact ev_call (post := fun (l : List Rt) => DD K (.list ((l.filter lawOwn).map rD))) l (ea1 h fun u G' _ e => ⟨u, rfl, e, hl, hz⟩)
section
variable {K : PySem.W.Frag} {σ : L2.St} {G : Hp} {ta tb tc : TE} {E : XK} {S Po : Addr} {i : RIn}
theorem ev_last {m : Nat} (h1 : EvP ta σ G (PoV K Po i.rs)) (h2 : EvP tb σ G (StV K S i.st)) (ok : i.Ok) (l : LastR i.sys m) : EvP (tCall (sp_last_round K S Po) [] E (tCons ta (tCons tb tNil))) σ G (IsV (.int (m : Nat))) := by
  unfold sp_last_round
  exact (ev_call (pre := RPre K S Po) (post := fun i v _ => ∃ m : Nat, v = .int m ∧ LastR i.sys m) i (ea2 mon_po mon_st h1 h2 fun a b G'' _ q1 q2 => ⟨a, b, rfl, q1, q2, ok⟩)).imp fun u G'' _ ⟨m2, e2, h2⟩ => by rw [e2, l.uniq h2]
theorem ev_allC2 {cs : List Rt} (h1 : EvP ta σ G (PoV K Po i.rs)) (h2 : EvP tb σ G (StV K S i.st)) (ok : i.Ok) (l : OwnL i cs) : EvP (tCall (sp_all_that_come K S Po) [] E (tCons ta (tCons tb tNil))) σ G (DD K (.list (cs.map rD))) := by
  unfold sp_all_that_come
  exact (ev_call (pre := RPre K S Po) (post := fun i v G => ∃ cs, OwnL i cs ∧ Dp K G v (.list (cs.map rD))) i (ea2 mon_po mon_st h1 h2 fun a b G'' _ q1 q2 => ⟨a, b, rfl, q1, q2, ok⟩)).imp fun u G'' _ ⟨c2, o2, h2⟩ => by rw [l.uniq o2]; exact h2
theorem ev_atO {n : Nat} {ks : List Rt} (h1 : EvP ta σ G (PoV K Po i.rs)) (h2 : EvP tb σ G (StV K S i.st)) (h3 : EvP tc σ G (IsV (.int (n : Nat)))) (ok : i.Ok) (l : AtL i n ks) : EvP (tCall (sp_at_once K S Po) [] E (tCons ta (tCons tb (tCons tc tNil)))) σ G (DD K (.list (ks.map rD))) := by
  unfold sp_at_once
  exact (ev_call (post := fun (i : RIn × Nat) v G => ∃ ks, AtL i.1 i.2 ks ∧ Dp K G v (.list (ks.map rD))) (i, n) (ea3 mon_po mon_st mon_v h1 h2 h3 fun a b c G'' _ q1 q2 q3 => ⟨a, b, by rw [show c = _ from q3], q1, q2, ok⟩)).imp fun u G'' _ ⟨c2, o2, h2⟩ => by rw [l.uniq o2]; exact h2
end
theorem Case.st2 {ppl ths : List Str} {rts rts2 : List Rt} (h : Case ppl ths rts) (h2 : ∀ r ∈ rts2, r.1 ∈ ppl ++ ths ∧ r.2.1 ∈ allW ∧ r.2.2 ∈ ppl ++ ths) (hl : rts2.length ≤ 7) : (StIn.mk (sortS ppl) (sortS ths) rts2).Ok := by
  have mm : ∀ z, z ∈ sortS ppl ++ sortS ths ↔ z ∈ ppl ++ ths := fun z => by rw [List.mem_append, List.mem_append, List.mem_mergeSort, List.mem_mergeSort]
  have ll : (sortS ppl ++ sortS ths).length = (ppl ++ ths).length := by rw [List.length_append, List.length_append, List.length_mergeSort, List.length_mergeSort]
  have pm : (sortS ppl ++ sortS ths).Perm (ppl ++ ths) := List.Perm.append (List.mergeSort_perm _ _) (List.mergeSort_perm _ _)
  refine ⟨pm.nodup_iff.mpr h.nd, by show 1 ≤ (sortS ppl ++ sortS ths).length; rw [ll]; exact h.one, by show (sortS ppl ++ sortS ths).length ≤ 12; rw [ll]; exact Nat.le_trans h.len5 (by decide), by show rts2.length < 64; omega, fun z hz => isW_allN z (h.nm z ((mm z).mp hz)), fun r hr => ?_⟩
  obtain ⟨a, b, c⟩ := h2 r hr
  exact ⟨(mm _).mpr a, (mm _).mpr c, isW_all _ b⟩
theorem last0 {st : StIn} {p : List Str} : LastR (sysOf ⟨[], st, p⟩) 0 := ⟨fun n r h => by
  refine Nat.le_of_not_lt fun hp => h.2 0 hp (lv_none h.1), .inl rfl⟩
theorem dr_nil : DrawnR [] := ⟨Nat.zero_le _, fun r h => (nomatch h), fun i r e => by simp at e⟩
theorem run_ifCallS {sp : Sp} {E : L2.St → XK} {ta : TA} {tb : TE} {a b : TS} {D : Ends} {σ : L2.St} {H : Hp} (h : ta σ H fun vs H1 => sp vs H1 (fun x H2 => tb σ H2 fun y H3 => rNe x y H3 fun v H4 => ∃ bb, v = .bl bb ∧ (if bb = true then a D σ H4 else b D σ H4)) (E σ)) : tIfS (tTest (tOp rNe (tCallS sp E ta) tb)) a b D σ H := h
def lvD (b : Rt × V) : PyData := match b.2 with
  | .int k => .int k
  | _ => .none
theorem lv_ints {l : List (Rt × V)} {ns : List Nat} (h : l.map (·.2) = (ns.map fun n : Nat => V.int n)) : l.map lvD = (ns.map fun n : Nat => (n : Int)).map PyData.int := by
  have e : l.map lvD = (l.map (·.2)).map fun v => match v with
    | .int k => PyData.int k
    | _ => .none := by rw [List.map_map]; rfl
  rw [e, h, List.map_map, List.map_map]
  rfl
section
variable {P : Program} {w : World} {K : PySem.W.Frag} {mg : Str → Option Value} {base : Heap} {S Po : Addr} (T : Tx K mg S Po)
include T
theorem ok_law {C f : Addr} {fd : FuncData} (Nv : Nx K mg C) (ax : AddX K S) (F : FunD K "law" "law" (defArgs s_law) (defBody s_law) (defScope s_law) [] [] f fd) : FnOk P w K mg base CX0 11 f fd ["_law_script"] (sp_law K) := by
  obtain ⟨f_law_rules, fd_law_rules, G_law_rules, m_law_rules, k_law_rules, b_law_rules⟩ := (ok_law_rules (P := P) (w := w) (base := base) T)
  obtain ⟨f_law_state, fd_law_state, G_law_state, m_law_state, k_law_state, b_law_state⟩ := (ok_law_state (P := P) (w := w) (base := base) T)
  obtain ⟨f_law_next, fd_law_next, G_law_next, m_law_next, k_law_next, b_law_next⟩ := (ok_law_next (P := P) (w := w) (base := base) T)
  obtain ⟨f_law_pick, fd_law_pick, G_law_pick, m_law_pick, k_law_pick, b_law_pick⟩ := (ok_law_pick (P := P) (w := w) (base := base) T)
  obtain ⟨f_Policy__init__, fd_Policy__init__, G_Policy__init__, k_Policy, b_Policy__init__⟩ := ok_Policyinit (P := P) (w := w) (base := base) T
  obtain ⟨f_State__init__, fd_State__init__, G_State__init__, k_State, b_State__init__⟩ := ok_Stateinit (P := P) (w := w) (base := base) T
  obtain ⟨f_law_rounds, fd_law_rounds, G_law_rounds, m_law_rounds, k_law_rounds, b_law_rounds⟩ := (ok_law_rounds (P := P) (w := w) (base := base) T)
  obtain ⟨f_rounds, fd_rounds, G_rounds, m_rounds, k_rounds, b_rounds⟩ := (ok_rounds (P := P) (w := w) (base := base) T)
  obtain ⟨f_law_own, fd_law_own, G_law_own, m_law_own, k_law_own, b_law_own⟩ := (ok_law_own (P := P) (w := w) (base := base) T)
  obtain ⟨f_all_that_come, fd_all_that_come, G_all_that_come, m_all_that_come, k_all_that_come, b_all_that_come⟩ := (ok_all_that_come (P := P) (w := w) (base := base) T)
  obtain ⟨f_last_round, fd_last_round, G_last_round, m_last_round, k_last_round, b_last_round⟩ := (ok_last_round (P := P) (w := w) (base := base) T)
  obtain ⟨f_at_once, fd_at_once, G_at_once, m_at_once, k_at_once, b_at_once⟩ := (ok_at_once (P := P) (w := w) (base := base) T)
  obtain ⟨f_round_for, fd_round_for, G_round_for, m_round_for, k_round_for, b_round_for⟩ := (ok_round_for (P := P) (w := w) (base := base) T Nv)
  obtain ⟨f_Stateadd, fd_Stateadd, G_Stateadd, M_Stateadd, b_Stateadd⟩ := (ok_Stateadd (P := P) (w := w) (base := base) T)
  refine F.ok (N := ["_law_script", "_law_draw_here", "_law_rules_here", "_law_people", "_law_things", "_law_rights", "_law_policy", "_law_state_here", "_law_due", "_law_told", "_law_own_here", "_law_right", "_law_last", "_law_number_here", "_law_names", "_law_turn", "_law_more", "_law_late"]) sc_law (fun vs H Q E h => ?_) (fun cdv A outer s H vs Q E hr h => ?_)
  · obtain ⟨n, G, sm, ⟨v, rfl, _⟩, _⟩ := h
    rfl
  · obtain ⟨ns, G, sm, ⟨ad, rfl, hv, hn⟩, q⟩ := h
    generalize hvv : V.ref ad = v
    have hu := hu_of hr
    have hr0 := hr.mono (Nat.zero_le _)
    refine ⟨_, PSs.nox (pss_cons (ps_set (i := 1) sc_law.nd rfl (Or.inl rfl) (pe_lst (pa_cons (pe_slice sl_list (pv 0) po_none (po_some pe_int)) (pa_cons pe_int (pa_cons pe_int pa_nil)))))
    (pss_cons (ps_set (i := 2) sc_law.nd rfl (Or.inl rfl) (pe_call G_law_rules (hr.mono (by decide)) (by rfl) m_law_rules k_law_rules b_law_rules .nil pass0 (pa_cons (pv 1) (pa_cons pe_int pa_nil))))
    (pss_cons (ps_asg (pe_call G_law_state (hr.mono (by decide)) (by rfl) m_law_state k_law_state b_law_state .nil pass0 (pa_cons (pv 1) (pa_cons pe_int (pa_cons pe_int pa_nil)))) (pg_tup rfl (pgs_cons (pg_name (i := 3) sc_law.nd rfl (Or.inl rfl)) (pgs_cons (pg_name (i := 4) sc_law.nd rfl (Or.inl rfl)) (pgs_cons (pg_name (i := 5) sc_law.nd rfl (Or.inl rfl)) pgs_nil)))))
    (pss_cons (ps_if (pt_cmpR op_eq (pe_call G_law_next (hr.mono (by decide)) (by rfl) m_law_next k_law_next b_law_next .nil pass0 (pa_cons (pv 1) (pa_cons pe_int pa_nil))) pe_int (nomark _))
    (pss_cons (ps_par (i := 2) (j := 5) rfl sc_law.nd rfl rfl (by decide) rfl rfl (pa_cons (pe_lst (pa_cons (pe_tup (pa_cons pe_str (pa_cons pe_str (pa_cons (pe_tup (pa_cons (pe_tup (pa_cons pe_str (pa_cons pe_str pa_nil))) pa_nil)) pa_nil)))) pa_nil)) (pa_cons (pe_lst (pa_cons (pe_tup (pa_cons pe_str (pa_cons pe_str (pa_cons pe_str pa_nil)))) (pa_cons (pe_tup (pa_cons pe_str (pa_cons pe_str (pa_cons pe_str pa_nil)))) (pa_cons (pe_tup (pa_cons pe_str (pa_cons pe_str (pa_cons pe_str pa_nil)))) (pa_cons (pe_tup (pa_cons pe_str (pa_cons pe_str (pa_cons pe_str pa_nil)))) pa_nil))))) pa_nil)) (by rfl))
    (pss_one (ps_par (i := 3) (j := 4) rfl sc_law.nd rfl rfl (by decide) rfl rfl (pa_cons (pe_lst (pa_cons pe_str (pa_cons pe_str (pa_cons pe_str pa_nil)))) (pa_cons (pe_lst (pa_cons pe_str (pa_cons pe_str pa_nil))) pa_nil)) (by rfl)))) pss_nil)
    (pss_cons (ps_par (i := 6) (j := 7) rfl sc_law.nd rfl rfl (by decide) rfl rfl (pa_cons (pe_make k_Policy G_Policy__init__ (hr.mono (by decide)) (by rfl) T.g_Policy b_Policy__init__ .nil pass0 (pa_cons (pv 2) pa_nil)) (pa_cons (pe_make k_State G_State__init__ (hr.mono (by decide)) (by rfl) T.g_State b_State__init__ .nil pass0 (pa_cons (pv 3) (pa_cons (pv 4) (pa_cons (pv 5) pa_nil)))) pa_nil)) (by rfl))
    (pss_cons (ps_set (i := 8) sc_law.nd rfl (Or.inr rfl) (pe_frz (pe_call G_law_rounds (hr.mono (by decide)) (by rfl) m_law_rounds k_law_rounds b_law_rounds .nil pass0 (pa_cons (pv 2) (pa_cons (pv 3) (pa_cons (pe_fld (pv 7) rfl) pa_nil))))))
    (pss_cons (ps_set (i := 9) sc_law.nd rfl (Or.inr rfl) (pe_frz (pe_call G_rounds (hr.mono (by decide)) (by rfl) m_rounds k_rounds b_rounds .nil pass0 (pa_cons (pv 6) (pa_cons (pv 7) pa_nil)))))
    (pss_cons (ps_set (i := 10) sc_law.nd rfl (Or.inl rfl) (pe_call G_law_own (hr.mono (by decide)) (by rfl) m_law_own k_law_own b_law_own .nil pass0 (pa_cons (pe_callB (call_sortDT (enc := rD) flat_right rfl hr0) (by rfl) T.b_sorted (by decide +kernel) (pa_cons (pv 8) pa_nil)) pa_nil)))
    (pss_cons (ps_if (PW.pt (pw_or (pt_cmpR (op_neD hr.units) (pe_callTy (call_list_dT rfl) (by rfl) T.b_list (by decide +kernel) (pa_cons (pv 9) pa_nil)) (pv 10) (nomark _)) (pw_or (pt_val (pe_callB (cr_any rfl) (by rfl) T.b_any (by decide +kernel) (pa_cons (pe_lc (own := [("_law_right", 11)]) rfl sc_law.nd (pi_list (pv 10)) (blkOk_by (own := [("_law_right", 11)]) (N := ["_law_script", "_law_draw_here", "_law_rules_here", "_law_people", "_law_things", "_law_rights", "_law_policy", "_law_state_here", "_law_due", "_law_told", "_law_own_here", "_law_right", "_law_last", "_law_number_here", "_law_names", "_law_turn", "_law_more", "_law_late"]) (sc := defScope s_law) (by decide +kernel)) (fun _ _ _ _ _ => (pg_name (i := 11) sc_law.nd rfl (Or.inl rfl))) (fun _ _ _ _ _ => pts_nil) (fun _ _ _ _ _ => (pe_cmpR op_ne (pe_dget hu (pv 9) (pv 11) (fun _ _ => rfl)) (pe_dget hu (pv 8) (pv 11) (fun _ _ => rfl)) (nomark _)))) pa_nil))) (pw_or1 (pt_cmpR (op_neD hr.units) (pv 10) (pe_call G_all_that_come (hr.mono (by decide)) (by rfl) m_all_that_come k_all_that_come b_all_that_come .nil pass0 (pa_cons (pv 6) (pa_cons (pv 7) pa_nil))) (nomark _))))))
    (pss_one (ps_ret pe_bl)) pss_nil)
    (pss_cons (ps_set (i := 12) sc_law.nd rfl (Or.inl rfl) (pe_callBK (cr_maxDf rfl hr0) (by rfl) T.b_max (by decide +kernel) (pa_cons (pe_lc (own := [("_law_right", 11)]) rfl sc_law.nd (pi_keys (pv 8)) (blkOk_by (own := [("_law_right", 11)]) (N := ["_law_script", "_law_draw_here", "_law_rules_here", "_law_people", "_law_things", "_law_rights", "_law_policy", "_law_state_here", "_law_due", "_law_told", "_law_own_here", "_law_right", "_law_last", "_law_number_here", "_law_names", "_law_turn", "_law_more", "_law_late"]) (sc := defScope s_law) (by decide +kernel)) (fun _ _ _ _ _ => (pg_name (i := 11) sc_law.nd rfl (Or.inl rfl))) (fun _ _ _ _ _ => pts_nil) (fun _ _ _ _ _ => (pe_dget hu (pv 8) (pv 11) (fun _ _ => rfl)))) pa_nil) (pk_cons pe_int pk_nil)))
    (pss_cons (ps_if (pt_cmpR op_ne (pe_call G_last_round (hr.mono (by decide)) (by rfl) m_last_round k_last_round b_last_round .nil pass0 (pa_cons (pv 6) (pa_cons (pv 7) pa_nil))) (pv 12) (nomark _))
    (pss_one (ps_ret pe_bl)) pss_nil)
    (pss_cons (ps_for PassesOwn.never rfl (pi_range1 rfl T.b_range (pa_cons (pe_op op_add (pv 12) pe_int) pa_nil)) (pg_name (i := 13) sc_law.nd rfl (Or.inr rfl))
    (pss_one (ps_if (pt_cmpR (op_neD hr.units) (pe_call G_at_once (hr.mono (by decide)) (by rfl) m_at_once k_at_once b_at_once .nil pass0 (pa_cons (pv 6) (pa_cons (pv 7) (pa_cons (pv 13) pa_nil)))) (pe_lc (own := [("_law_right", 11)]) rfl sc_law.nd (pi_list (pv 10)) (blkOk_by (own := [("_law_right", 11)]) (N := ["_law_script", "_law_draw_here", "_law_rules_here", "_law_people", "_law_things", "_law_rights", "_law_policy", "_law_state_here", "_law_due", "_law_told", "_law_own_here", "_law_right", "_law_last", "_law_number_here", "_law_names", "_law_turn", "_law_more", "_law_late"]) (sc := defScope s_law) (by decide +kernel)) (fun _ _ _ _ _ => (pg_name (i := 11) sc_law.nd rfl (Or.inl rfl))) (fun _ _ _ _ _ => (pts_one (pt_cmpR op_le (pe_dget hu (pv 8) (pv 11) (fun _ _ => rfl)) (pv 13) (nomark _)))) (fun _ _ _ _ _ => (pv 11))) (nomark _))
    (pss_one (ps_ret pe_bl)) pss_nil)))
    (pss_cons (ps_set (i := 14) sc_law.nd rfl (Or.inl rfl) (pe_op op_cat (pv 3) (pv 4)))
    (pss_cons (ps_for PassesOwn.never rfl (pi_range1 rfl T.b_range (pa_cons pe_int pa_nil)) (pg_name (i := 15) sc_law.nd rfl (Or.inl rfl))
    (pss_cons (ps_set (i := 11) sc_law.nd rfl (Or.inl rfl) (pe_tup (pa_cons (pe_call G_law_pick (hr.mono (by decide)) (by rfl) m_law_pick k_law_pick b_law_pick .nil pass0 (pa_cons (pv 1) (pa_cons (pv 14) pa_nil))) (pa_cons (pe_call G_law_pick (hr.mono (by decide)) (by rfl) m_law_pick k_law_pick b_law_pick .nil pass0 (pa_cons (pv 1) (pa_cons (pe_lst (pa_cons pe_str (pa_cons pe_str (pa_cons pe_str (pa_cons pe_str pa_nil))))) pa_nil))) (pa_cons (pe_call G_law_pick (hr.mono (by decide)) (by rfl) m_law_pick k_law_pick b_law_pick .nil pass0 (pa_cons (pv 1) (pa_cons (pv 14) pa_nil))) pa_nil)))))
    (pss_one (ps_try_only (Wout := fun _ _ _ _ => False) rfl rfl ⟨rfl, by decide, Or.inl Nv.g⟩ takes0
    (fun W pn xe tk _ => (pss_one (ps_if (pt_cmpR op_ne (pe_callS G_round_for (hr.mono (by decide)) (by rfl) m_round_for k_round_for b_round_for (fun σ => passAt tk σ) (pa_cons (pv 6) (pa_cons (pv 7) (pa_cons (pv 11) pa_nil)))) (pe_dget1 hu (pv 8) (pv 11) ⟨rfl, rfl, rfl, rfl⟩) (nomark _))
    (pss_one (ps_ret pe_bl)) pss_nil)))
    (fun a oe cls dd pn _ _ => (pss_one (ps_if (pt_cmp (pc_din hu (pv 11) (pv 8)))
    (pss_one (ps_ret pe_bl)) pss_nil)))))))
    (pss_cons (ps_set (i := 16) sc_law.nd rfl (Or.inl rfl) (pe_op (op_ownAdd G_Stateadd M_Stateadd b_Stateadd (hr.mono (by decide)) ax) (pv 7) (pe_lst (pa_cons (pe_tup (pa_cons (pe_call G_law_pick (hr.mono (by decide)) (by rfl) m_law_pick k_law_pick b_law_pick .nil pass0 (pa_cons (pv 1) (pa_cons (pv 14) pa_nil))) (pa_cons (pe_call G_law_pick (hr.mono (by decide)) (by rfl) m_law_pick k_law_pick b_law_pick .nil pass0 (pa_cons (pv 1) (pa_cons (pe_lst (pa_cons pe_str (pa_cons pe_str pa_nil))) pa_nil))) (pa_cons (pe_call G_law_pick (hr.mono (by decide)) (by rfl) m_law_pick k_law_pick b_law_pick .nil pass0 (pa_cons (pv 1) (pa_cons (pv 14) pa_nil))) pa_nil)))) pa_nil))))
    (pss_cons (ps_set (i := 17) sc_law.nd rfl (Or.inr rfl) (pe_frz (pe_call G_rounds (hr.mono (by decide)) (by rfl) m_rounds k_rounds b_rounds .nil pass0 (pa_cons (pv 6) (pa_cons (pv 16) pa_nil)))))
    (pss_one (ps_ret (pe_and (pe_callB (cr_all rfl) (by rfl) T.b_all (by decide +kernel) (pa_cons (pe_lc (own := [("_law_right", 11)]) rfl sc_law.nd (pi_keys (pv 9)) (blkOk_by (own := [("_law_right", 11)]) (N := ["_law_script", "_law_draw_here", "_law_rules_here", "_law_people", "_law_things", "_law_rights", "_law_policy", "_law_state_here", "_law_due", "_law_told", "_law_own_here", "_law_right", "_law_last", "_law_number_here", "_law_names", "_law_turn", "_law_more", "_law_late"]) (sc := defScope s_law) (by decide +kernel)) (fun _ _ _ _ _ => (pg_name (i := 11) sc_law.nd rfl (Or.inl rfl))) (fun _ _ _ _ _ => pts_nil) (fun _ _ _ _ _ => (pe_and (pe_cmp (pc_din hu (pv 11) (pv 17)) rfl) (pe_one (pe_cmpR op_le (pe_dget hu (pv 17) (pv 11) (fun _ _ => rfl)) (pe_dget hu (pv 9) (pv 11) (fun _ _ => rfl)) (nomark _)))))) pa_nil)) (pe_one (pe_cmpR op_eq (pe_call G_last_round (hr.mono (by decide)) (by rfl) m_last_round k_last_round b_last_round .nil pass0 (pa_cons (pe_make k_Policy G_Policy__init__ (hr.mono (by decide)) (by rfl) T.g_Policy b_Policy__init__ .nil pass0 (pa_cons (pe_lst pa_nil) pa_nil)) (pa_cons (pv 7) pa_nil))) pe_int (nomark _)))))))))))))))))))))), ?_⟩
    refine seq_setM (em_lst (K := K) (ds := [.list (ns.map PyData.int), .int 0, .int 0]) (ead_cons (ev_cutS (n := 63) (ns := ns) (ev_var rfl ⟨ad, hvv.symm, hv⟩) (ev_c (v := .int 63) rfl) hn) (ead_cons (int_dd (ev_c rfl)) (ead_cons (int_dd (ev_c rfl)) ead_nil))) (by show 3 ≤ 1000; decide)) sm fun d o G1 H1 g1 h0 hg e eo => ?_
    obtain ⟨xs, eo, hx⟩ := eo
    subst eo
    obtain ⟨sc, exs, hsc⟩ : ∃ sc, xs = [sc, .int 0, .int 0] ∧ Dp K G1 sc (.list (ns.map PyData.int)) := by
      cases hx with
      | cons p1 hx => cases hx with
        | cons p2 hx => cases hx with
          | cons p3 hx =>
            cases hx
            cases p2
            cases p3
            exact ⟨_, rfl, p1⟩
    subst exs
    have ds0 : DS d sc G1 H1 G1 H1 0 := ⟨GD.refl g1.sub hg, e⟩
    refine seq_setD (evD_call (K := K) (ns := ns) (j := 1) (c := fun _ => 100) () rfl hsc (ea1 (P1 := IsV (.int 6)) (ev_c rfl) fun u G' _ e => by rw [show u = _ from e]) (by decide)) ds0 fun v2 n2 G2 H2 ds2 s12 hn2 hrs => ?_
    obtain ⟨rs, hrs, drs⟩ := hrs
    refine seq_asg3D (evD_call (K := K) (ns := ns) (j := 1) (c := fun _ => 30) () rfl (Dp.up ds2.gg _ _ hsc) (ea2 (P1 := IsV (.int 5)) (P2 := IsV (.int 7)) mon_v mon_v (ev_c rfl) (ev_c rfl) fun u1 u2 G' _ e1 e2 => by rw [show u1 = _ from e1, show u2 = _ from e2]) (by show n2 + 30 ≤ 1000000; omega)) ds2 fun v3 v4 v5 ppl ths rts n3 G3 H3 ds3 s23 hn3 hp3 hp4 hp5 dst => ?_
    have nxt : ∀ {σ' : L2.St} {G' : Hp} {nn : Nat} {tb' : TE} {E' : XK} (b : Nat), σ'[1]? = some (some (.ref d)) → Same G1 G' → 0 < b → nn + 1 ≤ 1000000 → EvP tb' σ' G' (IsV (.int (b : Nat))) → EvD d sc (tCall (sp_law_next K) [] E' (tCons (tVar 1) (tCons tb' tNil))) σ' G' nn 1 (RgV b) := fun b hσ s' hb hnn hbv =>
      evD_call (K := K) (ns := ns) (c := fun _ => 1) b hσ (Dp.up s' _ _ hsc) (ea1 hbv fun u G' _ e => ⟨by rw [show u = _ from e], hb⟩) hnn
    have pick : ∀ {σ' : L2.St} {G' : Hp} {nn : Nat} {tb' : TE} {E' : XK} (l : List Str), σ'[1]? = some (some (.ref d)) → Same G1 G' → l ≠ [] → nn + 1 ≤ 1000000 → EvP tb' σ' G' (DD K (.list (l.map sD))) → EvD d sc (tCall (sp_law_pick K) [] E' (tCons (tVar 1) (tCons tb' tNil))) σ' G' nn 1 (fun v _ => ∃ z, z ∈ l ∧ v = .str z) := fun l hσ s' hl hnn hbv =>
      evD_call (K := K) (ns := ns) (c := fun _ => 1) l hσ (Dp.up s' _ _ hsc) (ea1 hbv fun u G' _ e => ⟨u, rfl, e, hl⟩) hnn
    refine seq_if0 (m := 3) (R := fun σ' H' => ∃ G' n' rs ppl ths rts x2 x3 x4 x5, DS d sc G1 H1 G' H' n' ∧ n' ≤ 131 ∧ DrawnR rs ∧ Case ppl ths rts ∧ Dp K G' x2 (.list (rs.map ruleD)) ∧ Dp K G' x3 (.list (ppl.map sD)) ∧ Dp K G' x4 (.list (ths.map sD)) ∧ Dp K G' x5 (.list (rts.map rD)) ∧
      σ' = [some v, some (.ref d), some x2, some x3, some x4, some x5, none, none, none, none, none, none, none, none, none, none, none, none]) (nxt 3 rfl ds3.gg (by decide) (by omega) (ev_c (v := .int 3) rfl)) ds3 (fun n4 G4 H4 ds4 s34 hn4 => ⟨fun D' kD => ?_, ?_⟩) fun σ' H' ⟨G5, n5, rs, ppl, ths, rts, x2, x3, x4, x5, ds5, hn5, dr, cs, hrs, hppl, hths, hrts, es⟩ => ?_
    · have fr : EvP (tLst (tCons (tTup (tCons (tC (.str "fetch")) (tCons (tC (.str "t")) (tCons (tTup (tCons (tTup (tCons (tC (.str "t")) (tCons (tC (.str "t")) tNil))) tNil)) tNil)))) tNil)) [some v, some (.ref d), some v2, some v3, some v4, some v5, none, none, none, none, none, none, none, none, none, none, none, none] G4 (DD K (.list ([Rule.fetch "t" [("t", "t")]].map ruleD))) :=
        ev_lst (ead_cons (ev_tup (ds := [.str "fetch", .str "t", .tuple ([(("t" : Str), ("t" : Str))].map pD)]) (ead_cons (str_dd (ev_c rfl)) (ead_cons (str_dd (ev_c rfl)) (ead_cons (ev_tup (ead_cons (ev_tup (ead_cons (str_dd (ev_c rfl)) (ead_cons (str_dd (ev_c rfl)) ead_nil)) (by decide)) ead_nil) (by decide)) ead_nil))) (by decide)) ead_nil) (by decide)
      refine seq_par2 (P1 := DD K (.list ([Rule.fetch "t" [("t", "t")]].map ruleD))) (P2 := DD K (.list (fixR.map rD))) fr mon_dd (fun G' _ => ev_lst (ead_cons (ev_r3 (str_dd (ev_c rfl)) (str_dd (ev_c rfl)) (str_dd (ev_c rfl))) (ead_cons (ev_r3 (str_dd (ev_c rfl)) (str_dd (ev_c rfl)) (str_dd (ev_c rfl))) (ead_cons (ev_r3 (str_dd (ev_c rfl)) (str_dd (ev_c rfl)) (str_dd (ev_c rfl))) (ead_cons (ev_r3 (str_dd (ev_c rfl)) (str_dd (ev_c rfl)) (str_dd (ev_c rfl))) ead_nil)))) (by decide)) ds4.sub fun y2 y5 G5 H5 g5 q2 q5 => ?_
      refine run_par2 (P1 := DD K (.list ((["ann", "bob", "cat"] : List Str).map sD))) (P2 := DD K (.list ((["dan", "eve"] : List Str).map sD))) (ev_lst (ead_cons (str_dd (ev_c rfl)) (ead_cons (str_dd (ev_c rfl)) (ead_cons (str_dd (ev_c rfl)) ead_nil))) (by decide)) mon_dd (fun G' _ => ev_lst (ead_cons (str_dd (ev_c rfl)) (ead_cons (str_dd (ev_c rfl)) ead_nil)) (by decide)) g5.sub fun y3 y4 G6 H6 g6 q3 q4 => ?_
      exact kD _ _ ⟨G6, n4, _, _, _, fixR, y2, y3, y4, y5, (ds4.up g5).up g6, by omega, fix_rules, fix_case, Dp.up g6.gg _ _ q2, q3, q4, Dp.up g6.gg _ _ q5, rfl⟩
    · exact ⟨G4, n4, rs, ppl, ths, rts, v2, v3, v4, v5, ds4, by omega, drs, case_drawn dst, Dp.up (s23.trans s34) _ _ hrs, Dp.up s34 _ _ hp3, Dp.up s34 _ _ hp4, Dp.up s34 _ _ hp5, rfl⟩
    subst es
    refine seq_par2 (P1 := PoV K Po rs) (P2 := StMade K S ⟨ppl, ths, rts⟩) (ev_mkPol rs (ea1 (ev_var rfl hrs) fun u G' _ e => ⟨u, rfl, e, dr.pol⟩)) mon_po (fun G' s' => ev_mkState ⟨ppl, ths, rts⟩ (ea3 mon_dd mon_dd mon_dd (ev_var rfl (Dp.up s' _ _ hppl)) (ev_var rfl (Dp.up s' _ _ hths)) (ev_var rfl (Dp.up s' _ _ hrts)) fun a b c G'' _ q1 q2 q3 => ⟨a, b, c, rfl, q1, q2, q3, cs.st⟩)) ds5.sub fun x6 x7 G6 H6 g6 hpo hst => ?_
    obtain ⟨rt', nd', mem', up', hst⟩ := hst
    have ds6 := ds5.up g6
    have smem : ∀ z, z ∈ sortS ppl ↔ z ∈ ppl := fun z => List.mem_mergeSort
    have rl : rt'.length ≤ 6 := Nat.le_trans (nodup_sub_len nd' fun r hr => (mem' r).mp hr) cs.len
    have plen : ppl.length ≤ 5 := by
      have := cs.len5
      rw [List.length_append] at this
      omega
    have pairL : Pair rs ppl ths ⟨sortS ppl, sortS ths, rt'⟩ ppl := ⟨dr, cs.nd, cs.nm, fun r hr => cs.ri r ((mem' r).mp hr), by show rt'.length ≤ 7; omega, fun z => Iff.rfl, plen⟩
    have pairS : Pair rs ppl ths ⟨sortS ppl, sortS ths, rt'⟩ (sortS ppl) := ⟨dr, cs.nd, cs.nm, fun r hr => cs.ri r ((mem' r).mp hr), by show rt'.length ≤ 7; omega, smem, by rw [List.length_mergeSort]; exact plen⟩
    let i : RIn := ⟨rs, ⟨sortS ppl, sortS ths, rt'⟩⟩
    have ns5 : i.ns.length ≤ 5 := by
      have := cs.len5
      rw [List.length_append] at this
      show (sortS ppl ++ sortS ths).length ≤ 5
      rw [List.length_append, List.length_mergeSort, List.length_mergeSort]
      exact this
    have iok : i.Ok := ⟨pairS.clo.1, Nat.le_trans ns5 (by decide)⟩
    have bd : i.sys.Bd (nms ppl ths) allW := pairS.clo.2
    have sye : sysOf ⟨rs, ⟨sortS ppl, sortS ths, rt'⟩, ppl⟩ = i.sys := sys_eq (fun z => (smem z).symm) fun r => Iff.rfl
    have okC : ∀ r, i.sys.Com r → okR r := fun r hr => by
      have hu := Sys.com_U bd hr
      exact ⟨bd.okN _ hu.1, bd.okW _ hu.2.1, bd.okN _ hu.2.2⟩
    have ownE : ∀ r, i.sys.Com r → isOwn i.ns r = lawOwn r := fun r hr => own_iff pairS (fun z => by
      show z ∈ sortS ppl ++ sortS ths ↔ _
      rw [List.mem_append, List.mem_append, List.mem_mergeSort, List.mem_mergeSort]) hr
    have hrs6 := Dp.up g6.gg _ _ hrs
    have hppl6 := Dp.up g6.gg _ _ hppl
    refine seq_set (ev_frzM (em_call (post := fun (i : BegIn) o _ => ∃ l, o = DTo l ∧ RdD (sysOf i) l) (⟨rs, ⟨sortS ppl, sortS ths, rt'⟩, ppl⟩ : BegIn) (ea3 mon_dd mon_dd mon_dd (ev_var rfl hrs6) (ev_var rfl hppl6) (ev_rights T (ev_var rfl hst)) fun a b c G'' _ q1 q2 q3 => ⟨a, b, c, rfl, q1, q2, q3, pairL.clo.1⟩))) ds6.sub fun x8 G7 H7 g7 hdue => ?_
    obtain ⟨ld, rdd, hdue⟩ := hdue
    rw [sye] at rdd
    have ds7 := ds6.up g7
    have hpo7 := mon_po _ _ _ g7.gg hpo
    have hst7 := mon_st _ _ _ g7.gg hst
    refine seq_set (ev_frzM (em_call (post := fun (i : RIn) o _ => ∃ l, o = DTo l ∧ OwnR i l) i (ea2 mon_po mon_st (ev_var rfl hpo7) (ev_var rfl hst7) fun a b G'' _ q1 q2 => ⟨a, b, rfl, q1, q2, iok⟩))) ds7.sub fun x9 G8 H8 g8 htold => ?_
    obtain ⟨lt, orl, htold⟩ := htold
    have ds8 := ds7.up g8
    have hdue8 := mon_dctF _ _ _ g8.gg hdue
    have ldl := (iok.clo.lap rdd.nd fun r hr => (rdd.mem r).mp hr).1
    have keyL : ∀ r ∈ sortR (keys ld), i.sys.Com r := fun r hr => (rdd.mem r).mp (List.mem_mergeSort.mp hr)
    have sdl : (sortR (keys ld)).length ≤ 400 := by rw [List.length_mergeSort]; exact ldl
    refine seq_set (P := DD K (.list (((sortR (keys ld)).filter lawOwn).map rD))) (ev_lawOwn (ev_sortD (K := K) (ev_listF (ev_var rfl hdue8)) (by rw [← len_keys]; omega)) (by omega) fun r hr => by
      have hu := Sys.com_U bd (keyL r hr)
      exact ⟨nm_len cs.nm _ hu.1, nm_len cs.nm _ hu.2.2⟩) ds8.sub fun x10 G9 H9 g9 hown => ?_
    have ol : OwnL i ((sortR (keys ld)).filter lawOwn) := ⟨((List.mergeSort_perm _ _).nodup_iff.mpr rdd.nd).filter _, (up_sort (k := rD) _).filter _, fun r => by
      rw [List.mem_filter, List.mem_mergeSort, rdd.mem]
      constructor
      · rintro ⟨a, b⟩
        exact ⟨a, by rw [ownE r a]; exact b⟩
      · rintro ⟨a, b⟩
        exact ⟨a, by rw [← ownE r a]; exact b⟩⟩
    have ownl : ((sortR (keys ld)).filter lawOwn).length ≤ 400 := Nat.le_trans (List.length_filter_le _ _) sdl
    generalize hcs : (sortR (keys ld)).filter lawOwn = ow at hown ol ownl
    have ds9 := ds8.up g9
    have hdue9 := mon_dctF _ _ _ g9.gg hdue8
    have htold9 := mon_dctF _ _ _ g9.gg htold
    have hpo9 := mon_po _ _ _ (g8.gg.trans g9.gg) hpo7
    have hst9 := mon_st _ _ _ (g8.gg.trans g9.gg) hst7
    have ekt : keys lt = ow := orl.own.uniq ol
    have okO : ∀ r ∈ ow, okR r := fun r hr => okC r ((ol.mem r).mp hr).1
    have lvl : ∀ r ∈ ow, ∃ k : Nat, valV lt r = some (.int k) ∧ valV ld r = some (.int k) ∧ i.sys.Fst k r := fun r hr => by
      cases e1 : valV lt r with
      | none => exact absurd (show r ∈ keys lt by rw [ekt]; exact hr) (valV_not e1)
      | some v1 =>
        obtain ⟨k, rfl, hk⟩ := orl.val r v1 e1
        cases e2 : valV ld r with
        | none => exact absurd ((rdd.mem r).mpr ⟨k, hk.1⟩) (valV_not e2)
        | some v2 =>
          obtain ⟨k2, rfl, hk2⟩ := rdd.val r v2 e2
          rw [Sys.fst_uniq hk2 hk]
          exact ⟨k, rfl, rfl, hk⟩
    have lst9 := ev_listD (K := K) (ev_listF (ev_var (i := 9) (σ := [some v, some (.ref d), some x2, some x3, some x4, some x5, some x6, some x7, some x8, some x9, some x10, none, none, none, none, none, none, none]) rfl htold9))
    rw [show lt.map (·.1) = ow from ekt] at lst9
    refine seq_guard (eb_orF (eb_test (ev_neSame lst9 (ev_var rfl hown) okO)) (eb_orF (eb_B (ev_anyF (ev_lc1 (bs := ow) (fun _ => PyData.bool false) (src_list (enc := rD) (ev_var rfl hown)) (by rw [sizeLine_eq]; omega) fun b hb u G' s' ib => ?_))) (eb_test (ev_neSame (ev_var rfl hown) (ev_allC2 (ev_var rfl hpo9) (ev_var rfl hst9) iok ol) okO)))) ds9.sub fun G10 H10 g10 => ?_
    · obtain ⟨k, k1, k2, _⟩ := lvl b hb
      refine ⟨_, tgt_name, rfl, bl_dd (ev_is (ev_neI (i := k) (j := k) (ev_dgetF (ev_var rfl (mon_dctF _ _ _ s' htold9)) (ev_var rfl ib) k1) (ev_dgetF (ev_var rfl (mon_dctF _ _ _ s' hdue9)) (ev_var rfl ib) k2)) ?_)⟩
      rw [decide_eq_true rfl]
      rfl
    have ds10 := ds9.up g10
    have hdue10 := mon_dctF _ _ _ g10.gg hdue9
    have hown10 := Dp.up g10.gg _ _ hown
    have hpo10 := mon_po _ _ _ g10.gg hpo9
    have hst10 := mon_st _ _ _ g10.gg hst9
    obtain ⟨nn, en1, en2, en3⟩ := vals_nat (y := i.sys) (l := ld) fun p hp => rdd.val p.1 p.2 (mem_val rdd.nd hp)
    rw [len_keys] at ldl
    have dues := ev_lc1 (K := K) (te := tDGet (tVar 8) (tVar 11)) (g := gName 11) (vs := [11]) (σ := [some v, some (.ref d), some x2, some x3, some x4, some x5, some x6, some x7, some x8, some x9, some x10, none, none, none, none, none, none, none]) (bs := ld) lvD (src_keysF (K := K) (ev_var (i := 8) rfl hdue10)) (by rw [sizeLine_eq]; omega) fun b hb u G' s' ib => ⟨_, tgt_name, rfl, by
      have ev : valV ld b.1 = some b.2 := mem_val rdd.nd hb
      obtain ⟨k, k1, k2⟩ := rdd.val b.1 b.2 ev
      have z := ev_dgetF (K := K) (σ := [some v, some (.ref d), some x2, some x3, some x4, some x5, some x6, some x7, some x8, some x9, some x10, some u, none, none, none, none, none, none]) (ev_var (i := 8) rfl (mon_dctF _ _ _ s' hdue10)) (ev_var (i := 11) rfl ib) ev
      rw [k1] at z
      have e : lvD b = .int k := by unfold lvD; rw [k1]
      rw [e]
      exact int_dd z⟩
    rw [lv_ints en1] at dues
    refine seq_set (P := fun v _ => ∃ m : Nat, v = .int m ∧ LastR i.sys m) ((ev_maxDf (d := 0) dues).imp fun u G' _ ⟨m, e, m0, m1⟩ => ?_) ds10.sub fun x12 G11 H11 g11 hx12 => ?_
    · cases nn with
      | nil =>
        refine ⟨0, by rw [show u = _ from e, m0 rfl]; rfl, ⟨fun n r hr => ?_, .inl rfl⟩⟩
        obtain ⟨p, hp, ep⟩ := List.mem_map.mp ((rdd.mem r).mpr ⟨n, hr.1⟩)
        obtain ⟨n', h1, _⟩ := en3 p hp
        cases h1
      | cons n0 nn =>
        obtain ⟨k1, k2⟩ := m1 (fun z => nomatch z)
        obtain ⟨n', h1, rfl⟩ := List.mem_map.mp k1
        refine ⟨n', e, ⟨fun n r hr => ?_, .inr (en2 n' h1)⟩⟩
        obtain ⟨p, hp, ep⟩ := List.mem_map.mp ((rdd.mem r).mpr ⟨n, hr.1⟩)
        obtain ⟨n2, h3, h4⟩ := en3 p hp
        rw [ep] at h4
        rw [Sys.fst_uniq hr h4]
        have := k2 _ (List.mem_map_of_mem (f := fun n : Nat => (n : Int)) h3)
        omega
    obtain ⟨m, rfl, lm⟩ := hx12
    have ml := lastR_len bd lm
    have ds11 := ds10.up g11
    have hpo11 := mon_po _ _ _ g11.gg hpo10
    have hst11 := mon_st _ _ _ g11.gg hst10
    refine seq_guard (eb_test (ev_is (ev_neI (i := (m : Nat)) (j := (m : Nat)) (ev_last (ev_var rfl hpo11) (ev_var rfl hst11) iok lm) (ev_var rfl rfl)) (by rw [decide_eq_true rfl]; rfl))) ds11.sub fun G12 H12 g12 => ?_
    have ds12 := ds11.up g12
    have s10_12 : Same G10 G12 := g11.gg.trans g12.gg
    have hdue12 := mon_dctF _ _ _ s10_12 hdue10
    have hown12 := Dp.up s10_12 _ _ hown10
    have hpo12 := mon_po _ _ _ s10_12 hpo10
    have hst12 := mon_st _ _ _ s10_12 hst10
    have atL : ∀ n : Nat, AtL i n (ow.filter fun r => ((valV ld r).map (upTo n)).getD false) := fun n => ⟨ol.nd.filter _, ol.up.filter _, fun r => by
      rw [List.mem_filter, ol.mem]
      constructor
      · rintro ⟨⟨a, b⟩, c⟩
        obtain ⟨k, _, k2, k3⟩ := lvl r ((ol.mem r).mpr ⟨a, b⟩)
        rw [k2] at c
        have c : decide ((k : Int) ≤ (n : Int)) = true := c
        have c := of_decide_eq_true c
        exact ⟨Sys.lv_le (by omega) k3.1, b⟩
      · rintro ⟨a, b⟩
        obtain ⟨k, _, k2, k3⟩ := lvl r ((ol.mem r).mpr ⟨⟨n, a⟩, b⟩)
        refine ⟨⟨⟨n, a⟩, b⟩, ?_⟩
        rw [k2]
        have := Sys.fst_le k3 a
        exact decide_eq_true (by omega)⟩
    refine seq_for (src_range (n := m + 2) (ev_is' (ev_int (g := fun i j => .int (i + j)) (ev_var (i := 12) rfl rfl) (ev_c (v := .int 2) rfl)) (by rw [Int.natCast_add]; rfl)) (by omega)) ds12.sub fun G13 H13 g13 => ⟨fun _ σ' G' H' => DS d sc G1 H1 G' H' n5 ∧ ∃ a, σ' = [some v, some (.ref d), some x2, some x3, some x4, some x5, some x6, some x7, some x8, some x9, some x10, none, some (.int (m : Nat)), a, none, none, none, none], ⟨ds12.up g13, _, rfl⟩, ?_, ?_⟩
    · rintro j n σ' G' H' hj s1 s2 ⟨dsj, a, rfl⟩ y G14 H14 g14 iy
      have iy : y = .int (n : Nat) := iy
      subst iy
      have ds14 := dsj.up g14
      have s1214 : Same G12 G14 := (g13.gg.trans s1).trans g14.gg
      have hpo14 := mon_po _ _ _ s1214 hpo12
      have hst14 := mon_st _ _ _ s1214 hst12
      have hown14 := Dp.up s1214 _ _ hown12
      have hdue14 := mon_dctF _ _ _ s1214 hdue12
      refine run_guard (σ := [some v, some (.ref d), some x2, some x3, some x4, some x5, some x6, some x7, some x8, some x9, some x10, none, some (.int (m : Nat)), some (.int (n : Nat)), none, none, none, none]) (eb_test (ev_neSame (ev_atO (ev_var rfl hpo14) (ev_var rfl hst14) (ev_var (P := IsV (.int (n : Nat))) rfl rfl) iok (atL n))
        (ev_lc (bs := ow) (keep := fun r => ((valV ld r).map (upTo n)).getD false) rD (src_list (enc := rD) (ev_var rfl hown14)) (by rw [sizeLine_eq]; omega) fun b hb u G' s' ib => ?_) fun r hr => okO r (List.mem_filter.mp hr).1)) ds14.sub fun G15 H15 g15 => ⟨G15, (s1.trans g14.gg).trans g15.gg, g15.sub, ds14.up g15, _, rfl⟩
      obtain ⟨k, _, k2, _⟩ := lvl b hb
      refine ⟨_, tgt_name, rfl, eb_test (ev_is (ev_int (g := fun i j => .bl (decide (i ≤ j))) (ev_dgetF (ev_var rfl (mon_dctF _ _ _ s' hdue14)) (ev_var rfl ib) k2) (ev_var rfl rfl)) ?_), fun _ => ev_var rfl ib⟩
      rw [k2]
      rfl
    · rintro σ' G' H' s1 s2 ⟨dsj, a13, rfl⟩
      have s12' : Same G12 G' := g13.gg.trans s1
      have s6' : Same G6 G' := ((((g7.gg.trans g8.gg).trans g9.gg).trans g10.gg).trans s10_12).trans s12'
      refine seq_set (P := DD K (.list ((ppl ++ ths).map sD))) ((stayL (em_cat (K := K) (ev_var (i := 3) rfl (Dp.up s6' _ _ hppl6)) (ev_var (i := 4) rfl (Dp.up (g6.gg.trans s6') _ _ hths)) ?_)).imp fun u G'' _ e => by rw [List.map_append]; exact e) dsj.sub fun x14 G16 H16 g16 hnm => ?_
      · have := cs.len5
        rw [List.length_append] at this
        rw [List.length_map, List.length_map, sizeLine_eq]
        omega
      have ds16 := dsj.up g16
      have s16 : Same G12 G16 := s12'.trans g16.gg
      have hst16 := mon_st _ _ _ s16 hst12
      have hpo16 := mon_po _ _ _ s16 hpo12
      have hdue16 := mon_dctF _ _ _ s16 hdue12
      have htold16 := mon_dctF _ _ _ ((g10.gg.trans s10_12).trans s16) htold9
      have nne : ppl ++ ths ≠ [] := fun z => by
        have := cs.one
        rw [z] at this
        exact absurd this (by decide)
      have wne : allW ≠ [] := by decide
      have ask : ∀ r : Rt, (r.1 ∈ ppl ++ ths ∧ r.2.1 ∈ allW ∧ r.2.2 ∈ ppl ++ ths) → AskIn.Ok ⟨i.rs, i.st, r⟩ := fun r hr => by
        have mm : ∀ z, z ∈ sortS ppl ++ sortS ths ↔ z ∈ ppl ++ ths := fun z => by rw [List.mem_append, List.mem_append, List.mem_mergeSort, List.mem_mergeSort]
        exact ⟨Nat.le_trans ns5 (by decide), (mm _).mpr hr.1, (mm _).mpr hr.2.2, isW_all _ hr.2.1, fun z hz => isW_allN z (cs.nm z ((mm z).mp hz))⟩
      have aW : ∀ {σ' : L2.St} {G' : Hp}, EvP (tLst (tCons (tC (.str "g")) (tCons (tC (.str "r")) (tCons (tC (.str "t")) (tCons (tC (.str "w")) tNil))))) σ' G' (DD K (.list (allW.map sD))) := fun {σ' G'} =>
        ev_lst (ead_cons (str_dd (ev_c rfl)) (ead_cons (str_dd (ev_c rfl)) (ead_cons (str_dd (ev_c rfl)) (ead_cons (str_dd (ev_c rfl)) ead_nil)))) (by decide)
      refine seq_for (src_range (n := 4) (ev_c rfl) (by decide)) ds16.sub fun G17 H17 g17 => ⟨fun j σ' G' H' => ∃ n', DS d sc G1 H1 G' H' n' ∧ n' ≤ n5 + j * 3 ∧ ∃ a b, σ' = [some v, some (.ref d), some x2, some x3, some x4, some x5, some x6, some x7, some x8, some x9, some x10, a, some (.int (m : Nat)), a13, some x14, b, none, none], ⟨n5, ds16.up g17, by omega, _, _, rfl⟩, ?_, ?_⟩
      · rintro j jn σ' G' H' hj s1 s2 ⟨n', dsj, hn', a11, a15, rfl⟩ y G18 H18 g18 iy
        have hj4 : j < 4 := by
          have := (List.getElem?_eq_some_iff.mp hj).1
          rwa [List.length_range] at this
        have ds18 := dsj.up g18
        have s1618 : Same G16 G18 := (g17.gg.trans s1).trans g18.gg
        have hnm18 := Dp.up s1618 _ _ hnm
        refine seq_setD (i := 11) (σ := [some v, some (.ref d), some x2, some x3, some x4, some x5, some x6, some x7, some x8, some x9, some x10, a11, some (.int (m : Nat)), a13, some x14, some y, none, none]) (evD_r3 (K := K) (pick (ppl ++ ths) rfl ds18.gg nne (by omega) (ev_var rfl hnm18)) (fun G'' n'' s'' hn'' => pick allW rfl (ds18.gg.trans s'') wne (by omega) aW) fun G'' n'' s'' hn'' => pick (ppl ++ ths) rfl (ds18.gg.trans s'') nne (by omega) (ev_var rfl (Dp.up s'' _ _ hnm18))) ds18 fun x11 n19 G19 H19 ds19 s1819 hn19 hr => ?_
        obtain ⟨r, hr, h11⟩ := hr
        have s19 : Same G16 G19 := s1618.trans s1819
        have hdue19 := mon_dctF _ _ _ s19 hdue16
        have done : ∀ (Ge He : Hp), Gr G19 H19 Ge He → ∃ G'', Same G17 G'' ∧ Same G'' He ∧ ∃ n', DS d sc G1 H1 G'' He n' ∧ n' ≤ n5 + (j + 1) * 3 ∧ ∃ a b, [some v, some (.ref d), some x2, some x3, some x4, some x5, some x6, some x7, some x8, some x9, some x10, some x11, some (.int (m : Nat)), a13, some x14, some y, none, none] = [some v, some (.ref d), some x2, some x3, some x4, some x5, some x6, some x7, some x8, some x9, some x10, a, some (.int (m : Nat)), a13, some x14, b, none, none] := fun Ge He ge =>
          ⟨Ge, ((s1.trans g18.gg).trans s1819).trans ge.gg, ge.sub, n19, ds19.up ge, by omega, _, _, rfl⟩
        refine run_ifCallS (ea3 (σ := [some v, some (.ref d), some x2, some x3, some x4, some x5, some x6, some x7, some x8, some x9, some x10, some x11, some (.int (m : Nat)), a13, some x14, some y, none, none]) mon_po mon_st mon_dd (ev_var (i := 6) rfl (mon_po _ _ _ s19 hpo16)) (ev_var (i := 7) rfl (mon_st _ _ _ s19 hst16)) (ev_var (i := 11) rfl h11) (R := fun vs G' => ∃ a b c, vs = [a, b, c] ∧ PoV K Po i.rs a G' ∧ StV K S i.st b G' ∧ Dp K G' c (rD r)) (fun a b c G'' _ q1 q2 q3 => ⟨a, b, c, rfl, q1, q2, q3⟩) H19 ds19.sub _ fun vs Ga Ha ga ⟨ya, yb, yc, evs, q1, q2, q3⟩ => ?_)
        refine ⟨i, r, Ga, ga.sub, ⟨ya, yb, yc, evs, q1, q2, q3, iok, ask r hr⟩, fun k Gb Hb gb hk => ?_, fun hnc Gb Hb gb => ?_⟩
        · have gab := ga.trans gb
          refine ev_dget1F (K := K) (r := r) (σ := [some v, some (.ref d), some x2, some x3, some x4, some x5, some x6, some x7, some x8, some x9, some x10, some x11, some (.int (m : Nat)), a13, some x14, some y, none, none]) (ev_var (i := 8) rfl (mon_dctF _ _ _ gab.gg hdue19)) (ev_var (i := 11) rfl (Dp.up gab.gg _ _ h11)) Hb gb.sub _ fun yd Gc Hc gc ey => ?_
          have ev : valV ld r = some (.int (k : Nat)) := by
            cases e2 : valV ld r with
            | none => exact absurd ((rdd.mem r).mpr ⟨k, hk.1⟩) (valV_not e2)
            | some v2 =>
              obtain ⟨k2, rfl, hk2⟩ := rdd.val r v2 e2
              rw [Sys.fst_uniq hk2 hk]
          have ey : yd = .int (k : Nat) := by rw [show yd = _ from ey, ev]; rfl
          subst ey
          refine ⟨rfl, _, rfl, ?_⟩
          rw [decide_eq_true rfl]
          exact done Gc Hc (gab.trans gc)
        · refine ⟨true, Nv.e, fun _ a ha => ?_, fun z => nomatch z⟩
          have gab := ga.trans gb
          show tIfS (tB (tDIn (tVar 11) (tVar 8))) (tRet (tC (.bl false))) tNext _ _ Hb
          refine run_guard (σ := [some v, some (.ref d), some x2, some x3, some x4, some x5, some x6, some x7, some x8, some x9, some x10, some x11, some (.int (m : Nat)), a13, some x14, some y, none, none]) (eb_B (ev_is (ev_dinF (K := K) (r := r) (ev_var (i := 11) rfl (Dp.up gab.gg _ _ h11)) (ev_var (i := 8) rfl (mon_dctF _ _ _ gab.gg hdue19))) (decide_eq_false fun z => hnc ((rdd.mem r).mp z)))) gb.sub fun Gc Hc gc => ?_
          exact done Gc Hc (gab.trans gc)
      · rintro σ' G' H' s1 s2 ⟨n', dsj, hn', a11, a15, rfl⟩
        have hn' : n' ≤ n5 + 12 := by rw [List.length_range] at hn'; omega
        have s1617 : Same G16 G' := g17.gg.trans s1
        have hnm17 := Dp.up s1617 _ _ hnm
        have ha2 : EvP (tLst (tCons (tC (.str "r")) (tCons (tC (.str "t")) tNil))) [some v, some (.ref d), some x2, some x3, some x4, some x5, some x6, some x7, some x8, some x9, some x10, a11, some (.int (m : Nat)), a13, some x14, a15, none, none] G' (DD K (.list ((["r", "t"] : List Str).map sD))) :=
          ev_lst (ead_cons (str_dd (ev_c rfl)) (ead_cons (str_dd (ev_c rfl)) ead_nil)) (by decide)
        have hst17 := mon_st _ _ _ s1617 hst16
        have drw1 := evD_l1 (K := K) (evD_r3 (K := K) (n := n') (pick (nn := n') (σ' := [some v, some (.ref d), some x2, some x3, some x4, some x5, some x6, some x7, some x8, some x9, some x10, a11, some (.int (m : Nat)), a13, some x14, a15, none, none]) (E' := E0) (tb' := tVar 14) (ppl ++ ths) rfl dsj.gg nne (by omega) (ev_var rfl hnm17)) (fun G'' n'' s'' hn'' => pick (E' := E0) ["r", "t"] rfl (dsj.gg.trans s'') (by decide) (by omega) (ha2.up mon_dd s'')) fun G'' n'' s'' hn'' => pick (E' := E0) (tb' := tVar 14) (ppl ++ ths) rfl (dsj.gg.trans s'') nne (by omega) (ev_var rfl (Dp.up s'' _ _ hnm17)))
        refine ⟨x7, rfl, drw1 H' dsj.sub dsj.no dsj.at_ _ fun yl n18 G18 H18 gd18 hd18 hn18 ⟨r, al, xsl, hr, eyl, hal, hxl⟩ => ?_⟩
        have ds18 := dsj.dr gd18 hd18
        have s1618 : Same G16 G18 := s1617.trans gd18.gr.gg
        have hst18 := mon_st _ _ _ s1618 hst16
        have hrW : r.2.1 ∈ allW := by
          have := hr.2.1
          simp only [List.mem_cons, List.mem_nil_iff, or_false] at this
          rcases this with e | e <;> rw [e] <;> decide
        have rt2 : ∀ q ∈ rt' ++ [r], q.1 ∈ ppl ++ ths ∧ q.2.1 ∈ allW ∧ q.2.2 ∈ ppl ++ ths := fun q hq => by
          rcases List.mem_append.mp hq with z | z
          · exact cs.ri q ((mem' q).mp z)
          · rw [List.mem_singleton.mp z]; exact ⟨hr.1, hrW, hr.2.2⟩
        have rt2l : (rt' ++ [r]).length ≤ 7 := by rw [List.length_append, List.length_singleton]; omega
        obtain ⟨fs7, ⟨a7, dx7, ex7, hi7⟩, hf7⟩ := id hst18
        refine ⟨a7, dx7, fs7, al, xsl, ex7, ds18.sub _ _ hi7, eyl, ds18.sub _ _ hal, ⟨(⟨sortS ppl, sortS ths, rt'⟩, [r]), G18, ds18.sub, ⟨x7, yl, rfl, hst18, by rw [eyl]; exact .lst hal hxl, cs.st2 rt2 rt2l⟩, fun x16 G19 H19 g19 ⟨rs2, nd2, mem2, up2, hst2⟩ => ?_⟩⟩
        have ds19 := ds18.up g19
        have s1619 : Same G16 G19 := s1618.trans g19.gg
        have hpo19 := mon_po _ _ _ s1619 hpo16
        have hst19 := mon_st _ _ _ s1619 hst16
        have htold19 := mon_dctF _ _ _ s1619 htold16
        let i2 : RIn := ⟨rs, ⟨sortS (sortS ppl), sortS (sortS ths), rs2⟩⟩
        have pair2 : Pair rs ppl ths i2.st i2.st.ppl := ⟨dr, cs.nd, cs.nm, fun q hq => rt2 q ((mem2 q).mp hq), Nat.le_trans (nodup_sub_len nd2 fun q hq => (mem2 q).mp hq) rt2l, fun z => by
          show z ∈ sortS (sortS ppl) ↔ z ∈ ppl
          rw [List.mem_mergeSort, List.mem_mergeSort], by show (sortS (sortS ppl)).length ≤ 5; rw [List.length_mergeSort, List.length_mergeSort]; exact plen⟩
        have i2ns : ∀ z, z ∈ i2.ns ↔ z ∈ i.ns := fun z => by
          show z ∈ sortS (sortS ppl) ++ sortS (sortS ths) ↔ z ∈ sortS ppl ++ sortS ths
          simp only [List.mem_append, List.mem_mergeSort]
        have i2ok : i2.Ok := ⟨pair2.clo.1, by
          show (sortS (sortS ppl) ++ sortS (sortS ths)).length ≤ 12
          have : (sortS ppl ++ sortS ths).length ≤ 5 := ns5
          simp only [List.length_append, List.length_mergeSort] at this ⊢
          omega⟩
        have more : ∀ {n : Nat} {q : Rt}, i.sys.Lv n q → i2.sys.Lv n q := fun {n q} h => Sys.lv_more (y := i.sys) (z := i2.sys) rfl (fun z hz => by
          show z ∈ sortS (sortS ppl)
          exact List.mem_mergeSort.mpr hz) (fun q hq => (mem2 q).mpr (List.mem_append_left _ hq)) (fun q ⟨ws, e1, e2⟩ => ⟨ws, e1, by
          obtain ⟨p1, p2, p3⟩ := List.mem_flatMap.mp e2
          exact List.mem_flatMap.mpr ⟨p1, List.mem_mergeSort.mpr p2, p3⟩⟩) h
        refine seq_set (σ := [some v, some (.ref d), some x2, some x3, some x4, some x5, some x6, some x7, some x8, some x9, some x10, a11, some (.int (m : Nat)), a13, some x14, a15, some x16, none]) (ev_frzM (em_call (post := fun (i : RIn) o _ => ∃ l, o = DTo l ∧ OwnR i l) i2 (ea2 mon_po mon_st (ev_var rfl hpo19) (ev_var rfl hst2) fun a b G'' _ q1 q2 => ⟨a, b, rfl, q1, q2, i2ok⟩))) ds19.sub fun x17 G20 H20 g20 hlate => ?_
        obtain ⟨l2, or2, hlate⟩ := hlate
        have ds20 := ds19.up g20
        have htold20 := mon_dctF _ _ _ g20.gg htold19
        have hst20 := mon_st _ _ _ g20.gg hst19
        have ltl : lt.length ≤ 400 := by
          have := len_keys (l := lt)
          rw [ekt] at this
          omega
        have p0 : Pair [] ppl ths i.st i.st.ppl := ⟨dr_nil, cs.nd, cs.nm, pairS.ri, pairS.len, pairS.pp, pairS.pl⟩
        have i0ok : (⟨[], i.st⟩ : RIn).Ok := ⟨p0.clo.1, Nat.le_trans ns5 (by decide)⟩
        refine run_ret (P := IsV (.bl true)) (ev_andT (ev_allT (ev_lc1 (bs := lt) (fun _ => PyData.bool true) (src_keysF (K := K) (ev_var rfl htold20)) (by rw [sizeLine_eq]; omega) fun b hb u G'' s'' ib => ?_)) (ev_is (ev_eqI (i := 0) (j := 0) (ev_last (i := ⟨[], i.st⟩) (m := 0) (ev_mkPol [] (ea1 (ev_lst (K := K) ead_nil (by decide)) fun u G'' _ e => ⟨u, rfl, e, dr_nil.pol⟩)) (ev_var rfl hst20) i0ok last0) (ev_c rfl)) (decide_eq_true rfl))) ds20.sub fun vr G21 H21 g21 ev => ?_
        · have hk : b.1 ∈ keys lt := List.mem_map_of_mem hb
          obtain ⟨k, k1, _, k3⟩ := lvl b.1 (ekt ▸ hk)
          have hlv := more k3.1
          have own2 : isOwn i2.ns b.1 = true := by
            have z := ((ol.mem b.1).mp (by rw [← ekt]; exact hk)).2
            unfold isOwn at z ⊢
            have e : decide (b.1.1 ∈ i2.ns) = decide (b.1.1 ∈ i.ns) := by
              by_cases c : b.1.1 ∈ i.ns
              · rw [decide_eq_true c, decide_eq_true ((i2ns _).mpr c)]
              · rw [decide_eq_false c, decide_eq_false fun y => c ((i2ns _).mp y)]
            rw [e]
            exact z
          have hk2 : b.1 ∈ keys l2 := (or2.own.mem b.1).mpr ⟨⟨k, hlv⟩, own2⟩
          cases e2 : valV l2 b.1 with
          | none => exact absurd hk2 (valV_not e2)
          | some v2 =>
            obtain ⟨kk, rfl, hkk⟩ := or2.val b.1 v2 e2
            have hle := Sys.fst_le hkk hlv
            refine ⟨_, tgt_name, rfl, bl_dd (ev_andT (ev_is (ev_dinF (K := K) (r := b.1) (ev_var rfl ib) (ev_var rfl (mon_dctF _ _ _ s'' hlate))) (decide_eq_true hk2)) (ev_is (ev_int (g := fun i j => .bl (decide (i ≤ j))) (ev_dgetF (ev_var rfl (mon_dctF _ _ _ s'' hlate)) (ev_var rfl ib) e2) (ev_dgetF (ev_var rfl (mon_dctF _ _ _ s'' htold20)) (ev_var rfl ib) k1)) (decide_eq_true (by omega))))⟩
        · exact q vr G21 H21 ((ds20.up g21).fin g1 h0 hg) ev
end
end Hk

set_option Elab.async false
set_option linter.all false
set_option maxRecDepth 100000
set_option maxHeartbeats 0
/-! The head. -/
namespace Hk
open PySem PySem.Spec PyProof.Rows L2
def d_is_whole : He.DefD := ⟨("is_whole", none), "is_whole", "is_whole", defArgs s_is_whole, defBody s_is_whole, defScope s_is_whole, [], []⟩
def d_is_word : He.DefD := ⟨("is_word", none), "is_word", "is_word", defArgs s_is_word, defBody s_is_word, defScope s_is_word, [], []⟩
def d_are_names : He.DefD := ⟨("are_names", none), "are_names", "are_names", defArgs s_are_names, defBody s_are_names, defScope s_are_names, [], []⟩
def d_is_right : He.DefD := ⟨("is_right", none), "is_right", "is_right", defArgs s_is_right, defBody s_is_right, defScope s_is_right, [], []⟩
def d_State__init__ : He.DefD := ⟨("State", some "__init__"), "__init__", "State.__init__", defArgs s_State__init__, defBody s_State__init__, defScope s_State__init__, [.adr (He.dflAt ("State", some "__init__") 0)], []⟩
def d_State__add__ : He.DefD := ⟨("State", some "__add__"), "__add__", "State.__add__", defArgs s_State__add__, defBody s_State__add__, defScope s_State__add__, [], []⟩
def d_Stateparties : He.DefD := ⟨("State", some "parties"), "parties", "State.parties", defArgs s_Stateparties, defBody s_Stateparties, defScope s_Stateparties, [], []⟩
def d_check_state : He.DefD := ⟨("check_state", none), "check_state", "check_state", defArgs s_check_state, defBody s_check_state, defScope s_check_state, [], []⟩
def d_check_small : He.DefD := ⟨("check_small", none), "check_small", "check_small", defArgs s_check_small, defBody s_check_small, defScope s_check_small, [], []⟩
def d_check_right : He.DefD := ⟨("check_right", none), "check_right", "check_right", defArgs s_check_right, defBody s_check_right, defScope s_check_right, [], []⟩
def d_are_pairs : He.DefD := ⟨("are_pairs", none), "are_pairs", "are_pairs", defArgs s_are_pairs, defBody s_are_pairs, defScope s_are_pairs, [], []⟩
def d_are_words : He.DefD := ⟨("are_words", none), "are_words", "are_words", defArgs s_are_words, defBody s_are_words, defScope s_are_words, [], []⟩
def d_is_rule : He.DefD := ⟨("is_rule", none), "is_rule", "is_rule", defArgs s_is_rule, defBody s_is_rule, defScope s_is_rule, [], []⟩
def d_plain_rule : He.DefD := ⟨("plain_rule", none), "plain_rule", "plain_rule", defArgs s_plain_rule, defBody s_plain_rule, defScope s_plain_rule, [], []⟩
def d_Policy__init__ : He.DefD := ⟨("Policy", some "__init__"), "__init__", "Policy.__init__", defArgs s_Policy__init__, defBody s_Policy__init__, defScope s_Policy__init__, [], []⟩
def d_Policy__iter__ : He.DefD := ⟨("Policy", some "__iter__"), "__iter__", "Policy.__iter__", defArgs s_Policy__iter__, defBody s_Policy__iter__, defScope s_Policy__iter__, [], []⟩
def d_Policymade : He.DefD := ⟨("Policy", some "made"), "made", "Policy.made", defArgs s_Policymade, defBody s_Policymade, defScope s_Policymade, [], []⟩
def d_check_policy : He.DefD := ⟨("check_policy", none), "check_policy", "check_policy", defArgs s_check_policy, defBody s_check_policy, defScope s_check_policy, [], []⟩
def d_asked_and_got : He.DefD := ⟨("asked_and_got", none), "asked_and_got", "asked_and_got", defArgs s_asked_and_got, defBody s_asked_and_got, defScope s_asked_and_got, [], []⟩
def d_helper_of : He.DefD := ⟨("helper_of", none), "helper_of", "helper_of", defArgs s_helper_of, defBody s_helper_of, defScope s_helper_of, [], []⟩
def d_beginning : He.DefD := ⟨("beginning", none), "beginning", "beginning", defArgs s_beginning, defBody s_beginning, defScope s_beginning, [], []⟩
def d_deeds_over : He.DefD := ⟨("deeds_over", none), "deeds_over", "deeds_over", defArgs s_deeds_over, defBody s_deeds_over, defScope s_deeds_over, [], []⟩
def d_deeds_by : He.DefD := ⟨("deeds_by", none), "deeds_by", "deeds_by", defArgs s_deeds_by, defBody s_deeds_by, defScope s_deeds_by, [], []⟩
def d_closure : He.DefD := ⟨("closure", none), "closure", "closure", defArgs s_closure, defBody s_closure, defScope s_closure, [], []⟩
def d_is_own : He.DefD := ⟨("is_own", none), "is_own", "is_own", defArgs s_is_own, defBody s_is_own, defScope s_is_own, [], []⟩
def d_check_asked : He.DefD := ⟨("check_asked", none), "check_asked", "check_asked", defArgs s_check_asked, defBody s_check_asked, defScope s_check_asked, [], []⟩
def d_all_that_come : He.DefD := ⟨("all_that_come", none), "all_that_come", "all_that_come", defArgs s_all_that_come, defBody s_all_that_come, defScope s_all_that_come, [], []⟩
def d_rounds_of : He.DefD := ⟨("rounds_of", none), "rounds_of", "rounds_of", defArgs s_rounds_of, defBody s_rounds_of, defScope s_rounds_of, [], []⟩
def d_brought : He.DefD := ⟨("brought", none), "brought", "brought", defArgs s_brought, defBody s_brought, defScope s_brought, [], []⟩
def d_rounds : He.DefD := ⟨("rounds", none), "rounds", "rounds", defArgs s_rounds, defBody s_rounds, defScope s_rounds, [], []⟩
def d_round_for : He.DefD := ⟨("round_for", none), "round_for", "round_for", defArgs s_round_for, defBody s_round_for, defScope s_round_for, [], []⟩
def d_last_round : He.DefD := ⟨("last_round", none), "last_round", "last_round", defArgs s_last_round, defBody s_last_round, defScope s_last_round, [], []⟩
def d_at_once : He.DefD := ⟨("at_once", none), "at_once", "at_once", defArgs s_at_once, defBody s_at_once, defScope s_at_once, [], []⟩
def d_law_cell_at : He.DefD := ⟨("_law_cell_at", none), "_law_cell_at", "_law_cell_at", defArgs s_law_cell_at, defBody s_law_cell_at, defScope s_law_cell_at, [], []⟩
def d_law_draw : He.DefD := ⟨("_law_draw", none), "_law_draw", "_law_draw", defArgs s_law_draw, defBody s_law_draw, defScope s_law_draw, [], []⟩
def d_law_number : He.DefD := ⟨("_law_number", none), "_law_number", "_law_number", defArgs s_law_number, defBody s_law_number, defScope s_law_number, [], []⟩
def d_law_next : He.DefD := ⟨("_law_next", none), "_law_next", "_law_next", defArgs s_law_next, defBody s_law_next, defScope s_law_next, [], []⟩
def d_law_pick : He.DefD := ⟨("_law_pick", none), "_law_pick", "_law_pick", defArgs s_law_pick, defBody s_law_pick, defScope s_law_pick, [], []⟩
def d_law_rules : He.DefD := ⟨("_law_rules", none), "_law_rules", "_law_rules", defArgs s_law_rules, defBody s_law_rules, defScope s_law_rules, [], []⟩
def d_law_state : He.DefD := ⟨("_law_state", none), "_law_state", "_law_state", defArgs s_law_state, defBody s_law_state, defScope s_law_state, [], []⟩
def d_law_brings : He.DefD := ⟨("_law_brings", none), "_law_brings", "_law_brings", defArgs s_law_brings, defBody s_law_brings, defScope s_law_brings, [], []⟩
def d_law_made : He.DefD := ⟨("_law_made", none), "_law_made", "_law_made", defArgs s_law_made, defBody s_law_made, defScope s_law_made, [], []⟩
def d_law_own : He.DefD := ⟨("_law_own", none), "_law_own", "_law_own", defArgs s_law_own, defBody s_law_own, defScope s_law_own, [], []⟩
def d_law_rounds : He.DefD := ⟨("_law_rounds", none), "_law_rounds", "_law_rounds", defArgs s_law_rounds, defBody s_law_rounds, defScope s_law_rounds, [], []⟩
def d_law : He.DefD := ⟨("law", none), "law", "law", defArgs s_law, defBody s_law, defScope s_law, [], []⟩
def fns : List He.DefD := [d_is_whole, d_is_word, d_are_names, d_is_right, d_State__init__, d_State__add__, d_Stateparties, d_check_state, d_check_small, d_check_right, d_are_pairs, d_are_words, d_is_rule, d_plain_rule, d_Policy__init__, d_Policy__iter__, d_Policymade, d_check_policy, d_asked_and_got, d_helper_of, d_beginning, d_deeds_over, d_deeds_by, d_closure, d_is_own, d_check_asked, d_all_that_come, d_rounds_of, d_brought, d_rounds, d_round_for, d_last_round, d_at_once, d_law_cell_at, d_law_draw, d_law_number, d_law_next, d_law_pick, d_law_rules, d_law_state, d_law_brings, d_law_made, d_law_own, d_law_rounds, d_law]
def fa0 : List He.Fa := [.glo "is_whole", .glo "is_word", .glo "are_names", .glo "is_right", .glo "check_state", .glo "check_small", .glo "check_right", .glo "are_pairs", .glo "are_words", .glo "is_rule", .glo "plain_rule", .glo "check_policy", .glo "asked_and_got", .glo "helper_of", .glo "beginning", .glo "deeds_over", .glo "deeds_by", .glo "closure", .glo "is_own", .glo "check_asked", .glo "all_that_come", .glo "rounds_of", .glo "brought", .glo "rounds", .glo "round_for", .glo "last_round", .glo "at_once", .glo "_law_cell_at", .glo "_law_draw", .glo "_law_number"]
def fa1 : List He.Fa := [.glo "_law_next", .glo "_law_pick", .glo "_law_rules", .glo "_law_state", .glo "_law_brings", .glo "_law_made", .glo "_law_own", .glo "_law_rounds", .glo "law", .free "isinstance", .free "int", .free "bool", .free "str", .free "len", .free "all", .free "list", .free "tuple", .free "set", .free "any", .free "sorted", .free "enumerate", .free "iter", .free "max", .free "dict", .free "range", .int "MOST_LETTERS" 8, .int "MOST_ASKED" 12, .int "MOST_RULES" 12, .int "MOST_PAIRS" 9, .str "SMALL" "abcdefghijklmnopqrstuvwxyz"]
def fa2 : List He.Fa := [.str "HELPER" "+", .glo "State", .cls "State", .mkr "State", .glo "Policy", .cls "Policy", .mkr "Policy", .noat "State" "people", .noat "State" "things", .noat "State" "rights", .noat "Policy" "rules", .meth "State" "parties", .meth "State" "__add__", .meth "Policy" "made", .meth "Policy" "__iter__", .glo "NeverComes", .exc "NeverComes", .exm "NeverComes" "NeverComes" true]
def fas : List He.Fa := fa0 ++ fa1 ++ fa2
def lo0 : List PySem.Str := ["_wall", "RightError", "BadState", "BadPolicy", "BadRight", "BadParty", "BadNumber", "NeverComes", "TooLarge", "SMALL", "MOST_LETTERS", "MOST_ASKED", "is_whole", "is_word", "are_names", "is_right", "State", "check_state", "check_small", "check_right", "MOST_RULES", "MOST_PAIRS", "is_number", "are_pairs", "are_words", "is_rule", "plain_rule", "Policy", "words_of", "check_policy"]
def lo1 : List PySem.Str := ["asked_and_got", "HELPER", "helper_of", "beginning", "deeds_over", "deeds_by", "closure", "is_own", "check_asked", "all_that_come", "rounds_of", "brought", "rounds", "round_for", "last_round", "at_once", "_law_cell_at", "_law_draw", "_law_number", "_law_next", "_law_pick", "_law_rules", "_law_state", "_law_brings", "_law_made", "_law_own", "_law_rounds"]
def loose : List PySem.Str := lo0 ++ lo1
/-- what isinstance and + ask of an own class besides -/
def insB (K : PySem.W.Frag) (C : Addr) : Bool := He.eqO (PySem.W.findIn K (.ref C) "__class__") (some (some (.builtin "object.__class__"))) && (decide (PySem.W.specialIn K (.builtin "object.__class__") "__get__" = some (some (.builtin "getset_descriptor.__get__"))) &&
  (decide (PySem.W.takesIn K (.builtin "object.__class__") = some true) && (decide (PySem.W.mroIn K C (.type "object") = some true) && decide (PySem.W.kitOne K (.ref C) (.ref C) = some true))))
def exB (K : PySem.W.Frag) : Bool := insB K (He.ga K "State") && (insB K (He.ga K "Policy") && (PySem.W.selfFirst K (He.ga K "State") && He.eqO (PySem.W.findIn K (.ref (He.ga K "State")) "__radd__") (some none)))
abbrev R : PySem.W.OpenRow := PySem.W.OpenLaw.row PySem.Challenge.rw_handedkeys_k06_whole_rounds
abbrev AlB : Type := He.AlD × Bool
def obB (g : Addr → Option Obj) : AlB := (He.obsD fas fns (He.frG g (He.asD g 5)), exB (He.frG g (He.asD g 5)))
def hk : PySem.W.Hook where
  α := AlB
  obs := fun s => obB s.heap.get?
  val := fun _ => (He.valD fns, true)
  says := fun _ h => ∃ K : PySem.W.Frag, K.In h ∧ He.SaysD fas fns K ∧ exB K = true
  of := fun _ _ e => ⟨_, He.frG_in, congrArg (fun z : AlB => z.1) e, congrArg (fun z : AlB => z.2) e⟩
  keeps := fun _ _ _ ⟨K, hK, c⟩ k => ⟨K, PySem.W.Frag.In.keeps hK k, c⟩
def ob (s : PySem.W.SharedT) : AlB := obB (HandSHeadRun.getT s)
theorem ob_eq (s : PySem.W.SharedT) : ob s = hk.obs s.abs := by
  have e : HandSHeadRun.getT s = s.abs.heap.get? := funext (HandSHeadRun.getT_eq s)
  unfold ob
  rw [e]
  rfl
theorem run (w : World) : HandSHeadRun.RunEq R (PySem.W.view R.prog [64]) hk ob 20000 loose w := by
  intro os
  kernel_rfl
end Hk

set_option Elab.async false
set_option linter.all false
set_option maxRecDepth 100000
set_option maxHeartbeats 4000000
/-! The facts of the top. -/
namespace Hk
open PySem PySem.Spec PyProof.Rows L2
theorem insB_ok {K : PySem.W.Frag} {C : Addr} (c : Cls K C) (h : insB K C = true) : C8.InsC K C := by
  obtain ⟨h1, h⟩ := He.ba h
  obtain ⟨h2, h⟩ := He.ba h
  obtain ⟨h3, h⟩ := He.ba h
  obtain ⟨h4, h5⟩ := He.ba h
  exact ⟨c, He.eqO_ok h1, of_decide_eq_true h2, of_decide_eq_true h3, of_decide_eq_true h4, of_decide_eq_true h5⟩
theorem law_pre {K : PySem.W.Frag} {H : Hp} {a : Addr} {ns : List Int} (hS : SqL K H a (ns.map V.int)) (hl : ns.length ≤ 63) : sp_law K [.ref a] H (fun v _ => v = .bl true) (fun _ _ _ => False) := ⟨ns, H, Same.refl H, ⟨a, rfl, hS, hl⟩, fun v G2 H2 _ p => p⟩
section
variable {K : PySem.W.Frag} {h : Heap} {mg : Str → Option Value} (X : K.In h) (G : h.Ns mainGlobals mg) (c : He.SaysD fas fns K) (e : exB K = true)
include X G c e
theorem tx : Tx K mg (He.ga K "State") (He.ga K "Policy") := by
  obtain ⟨e1, e⟩ := He.ba e
  obtain ⟨e2, e⟩ := He.ba e
  have cS := He.cls_ok (c.fact 62 (f := .cls "State") rfl)
  have cP := He.cls_ok (c.fact 65 (f := .cls "Policy") rfl)
  exact {
    b_isinstance := He.free_ok X G (c.fact 39 (f := .free "isinstance") rfl)
    b_int := He.free_ok X G (c.fact 40 (f := .free "int") rfl)
    b_bool := He.free_ok X G (c.fact 41 (f := .free "bool") rfl)
    b_str := He.free_ok X G (c.fact 42 (f := .free "str") rfl)
    b_len := He.free_ok X G (c.fact 43 (f := .free "len") rfl)
    b_all := He.free_ok X G (c.fact 44 (f := .free "all") rfl)
    b_list := He.free_ok X G (c.fact 45 (f := .free "list") rfl)
    b_tuple := He.free_ok X G (c.fact 46 (f := .free "tuple") rfl)
    b_set := He.free_ok X G (c.fact 47 (f := .free "set") rfl)
    b_any := He.free_ok X G (c.fact 48 (f := .free "any") rfl)
    b_sorted := He.free_ok X G (c.fact 49 (f := .free "sorted") rfl)
    b_enumerate := He.free_ok X G (c.fact 50 (f := .free "enumerate") rfl)
    b_iter := He.free_ok X G (c.fact 51 (f := .free "iter") rfl)
    b_max := He.free_ok X G (c.fact 52 (f := .free "max") rfl)
    b_dict := He.free_ok X G (c.fact 53 (f := .free "dict") rfl)
    b_range := He.free_ok X G (c.fact 54 (f := .free "range") rfl)
    k_MOST_LETTERS := He.int_ok X G (c.fact 55 (f := .int "MOST_LETTERS" 8) rfl)
    k_MOST_ASKED := He.int_ok X G (c.fact 56 (f := .int "MOST_ASKED" 12) rfl)
    k_MOST_RULES := He.int_ok X G (c.fact 57 (f := .int "MOST_RULES" 12) rfl)
    k_MOST_PAIRS := He.int_ok X G (c.fact 58 (f := .int "MOST_PAIRS" 9) rfl)
    k_SMALL := He.str_ok X G (c.fact 59 (f := .str "SMALL" "abcdefghijklmnopqrstuvwxyz") rfl)
    k_HELPER := He.str_ok X G (c.fact 60 (f := .str "HELPER" "+") rfl)
    g_State := He.glo_ok X G (c.fact 61 (f := .glo "State") rfl)
    c_State := cS
    i_State := insB_ok cS e1
    g_Policy := He.glo_ok X G (c.fact 64 (f := .glo "Policy") rfl)
    c_Policy := cP
    i_Policy := insB_ok cP e2
    n_people := He.noat_ok (c.fact 67 (f := .noat "State" "people") rfl)
    n_things := He.noat_ok (c.fact 68 (f := .noat "State" "things") rfl)
    n_rights := He.noat_ok (c.fact 69 (f := .noat "State" "rights") rfl)
    n_rules := He.noat_ok (c.fact 70 (f := .noat "Policy" "rules") rfl)
    mk_State := ⟨_, _, _, He.mkr_ok (c.fact 63 (f := .mkr "State") rfl), (c.def_ 4 (d := d_State__init__) rfl).choose_spec⟩
    mk_Policy := ⟨_, _, He.mkr_ok (c.fact 66 (f := .mkr "Policy") rfl), (c.def_ 14 (d := d_Policy__init__) rfl).choose_spec⟩
    f_is_whole := ⟨_, _, He.glo_ok X G (c.fact 0 (f := .glo "is_whole") rfl), (c.def_ 0 (d := d_is_whole) rfl).choose_spec⟩
    f_is_word := ⟨_, _, He.glo_ok X G (c.fact 1 (f := .glo "is_word") rfl), (c.def_ 1 (d := d_is_word) rfl).choose_spec⟩
    f_are_names := ⟨_, _, He.glo_ok X G (c.fact 2 (f := .glo "are_names") rfl), (c.def_ 2 (d := d_are_names) rfl).choose_spec⟩
    f_is_right := ⟨_, _, He.glo_ok X G (c.fact 3 (f := .glo "is_right") rfl), (c.def_ 3 (d := d_is_right) rfl).choose_spec⟩
    f_State__add__ := ⟨_, _, He.meth_ok (c.fact 72 (f := .meth "State" "__add__") rfl), (c.def_ 5 (d := d_State__add__) rfl).choose_spec⟩
    f_Stateparties := ⟨_, _, He.meth_ok (c.fact 71 (f := .meth "State" "parties") rfl), (c.def_ 6 (d := d_Stateparties) rfl).choose_spec⟩
    f_check_state := ⟨_, _, He.glo_ok X G (c.fact 4 (f := .glo "check_state") rfl), (c.def_ 7 (d := d_check_state) rfl).choose_spec⟩
    f_check_small := ⟨_, _, He.glo_ok X G (c.fact 5 (f := .glo "check_small") rfl), (c.def_ 8 (d := d_check_small) rfl).choose_spec⟩
    f_check_right := ⟨_, _, He.glo_ok X G (c.fact 6 (f := .glo "check_right") rfl), (c.def_ 9 (d := d_check_right) rfl).choose_spec⟩
    f_are_pairs := ⟨_, _, He.glo_ok X G (c.fact 7 (f := .glo "are_pairs") rfl), (c.def_ 10 (d := d_are_pairs) rfl).choose_spec⟩
    f_are_words := ⟨_, _, He.glo_ok X G (c.fact 8 (f := .glo "are_words") rfl), (c.def_ 11 (d := d_are_words) rfl).choose_spec⟩
    f_is_rule := ⟨_, _, He.glo_ok X G (c.fact 9 (f := .glo "is_rule") rfl), (c.def_ 12 (d := d_is_rule) rfl).choose_spec⟩
    f_plain_rule := ⟨_, _, He.glo_ok X G (c.fact 10 (f := .glo "plain_rule") rfl), (c.def_ 13 (d := d_plain_rule) rfl).choose_spec⟩
    f_Policy__iter__ := ⟨_, _, He.meth_ok (c.fact 74 (f := .meth "Policy" "__iter__") rfl), (c.def_ 15 (d := d_Policy__iter__) rfl).choose_spec⟩
    f_Policymade := ⟨_, _, He.meth_ok (c.fact 73 (f := .meth "Policy" "made") rfl), (c.def_ 16 (d := d_Policymade) rfl).choose_spec⟩
    f_check_policy := ⟨_, _, He.glo_ok X G (c.fact 11 (f := .glo "check_policy") rfl), (c.def_ 17 (d := d_check_policy) rfl).choose_spec⟩
    f_asked_and_got := ⟨_, _, He.glo_ok X G (c.fact 12 (f := .glo "asked_and_got") rfl), (c.def_ 18 (d := d_asked_and_got) rfl).choose_spec⟩
    f_helper_of := ⟨_, _, He.glo_ok X G (c.fact 13 (f := .glo "helper_of") rfl), (c.def_ 19 (d := d_helper_of) rfl).choose_spec⟩
    f_beginning := ⟨_, _, He.glo_ok X G (c.fact 14 (f := .glo "beginning") rfl), (c.def_ 20 (d := d_beginning) rfl).choose_spec⟩
    f_deeds_over := ⟨_, _, He.glo_ok X G (c.fact 15 (f := .glo "deeds_over") rfl), (c.def_ 21 (d := d_deeds_over) rfl).choose_spec⟩
    f_deeds_by := ⟨_, _, He.glo_ok X G (c.fact 16 (f := .glo "deeds_by") rfl), (c.def_ 22 (d := d_deeds_by) rfl).choose_spec⟩
    f_closure := ⟨_, _, He.glo_ok X G (c.fact 17 (f := .glo "closure") rfl), (c.def_ 23 (d := d_closure) rfl).choose_spec⟩
    f_is_own := ⟨_, _, He.glo_ok X G (c.fact 18 (f := .glo "is_own") rfl), (c.def_ 24 (d := d_is_own) rfl).choose_spec⟩
    f_check_asked := ⟨_, _, He.glo_ok X G (c.fact 19 (f := .glo "check_asked") rfl), (c.def_ 25 (d := d_check_asked) rfl).choose_spec⟩
    f_all_that_come := ⟨_, _, He.glo_ok X G (c.fact 20 (f := .glo "all_that_come") rfl), (c.def_ 26 (d := d_all_that_come) rfl).choose_spec⟩
    f_rounds_of := ⟨_, _, He.glo_ok X G (c.fact 21 (f := .glo "rounds_of") rfl), (c.def_ 27 (d := d_rounds_of) rfl).choose_spec⟩
    f_brought := ⟨_, _, He.glo_ok X G (c.fact 22 (f := .glo "brought") rfl), (c.def_ 28 (d := d_brought) rfl).choose_spec⟩
    f_rounds := ⟨_, _, He.glo_ok X G (c.fact 23 (f := .glo "rounds") rfl), (c.def_ 29 (d := d_rounds) rfl).choose_spec⟩
    f_round_for := ⟨_, _, He.glo_ok X G (c.fact 24 (f := .glo "round_for") rfl), (c.def_ 30 (d := d_round_for) rfl).choose_spec⟩
    f_last_round := ⟨_, _, He.glo_ok X G (c.fact 25 (f := .glo "last_round") rfl), (c.def_ 31 (d := d_last_round) rfl).choose_spec⟩
    f_at_once := ⟨_, _, He.glo_ok X G (c.fact 26 (f := .glo "at_once") rfl), (c.def_ 32 (d := d_at_once) rfl).choose_spec⟩
    f_law_cell_at := ⟨_, _, He.glo_ok X G (c.fact 27 (f := .glo "_law_cell_at") rfl), (c.def_ 33 (d := d_law_cell_at) rfl).choose_spec⟩
    f_law_draw := ⟨_, _, He.glo_ok X G (c.fact 28 (f := .glo "_law_draw") rfl), (c.def_ 34 (d := d_law_draw) rfl).choose_spec⟩
    f_law_number := ⟨_, _, He.glo_ok X G (c.fact 29 (f := .glo "_law_number") rfl), (c.def_ 35 (d := d_law_number) rfl).choose_spec⟩
    f_law_next := ⟨_, _, He.glo_ok X G (c.fact 30 (f := .glo "_law_next") rfl), (c.def_ 36 (d := d_law_next) rfl).choose_spec⟩
    f_law_pick := ⟨_, _, He.glo_ok X G (c.fact 31 (f := .glo "_law_pick") rfl), (c.def_ 37 (d := d_law_pick) rfl).choose_spec⟩
    f_law_rules := ⟨_, _, He.glo_ok X G (c.fact 32 (f := .glo "_law_rules") rfl), (c.def_ 38 (d := d_law_rules) rfl).choose_spec⟩
    f_law_state := ⟨_, _, He.glo_ok X G (c.fact 33 (f := .glo "_law_state") rfl), (c.def_ 39 (d := d_law_state) rfl).choose_spec⟩
    f_law_brings := ⟨_, _, He.glo_ok X G (c.fact 34 (f := .glo "_law_brings") rfl), (c.def_ 40 (d := d_law_brings) rfl).choose_spec⟩
    f_law_made := ⟨_, _, He.glo_ok X G (c.fact 35 (f := .glo "_law_made") rfl), (c.def_ 41 (d := d_law_made) rfl).choose_spec⟩
    f_law_own := ⟨_, _, He.glo_ok X G (c.fact 36 (f := .glo "_law_own") rfl), (c.def_ 42 (d := d_law_own) rfl).choose_spec⟩
    f_law_rounds := ⟨_, _, He.glo_ok X G (c.fact 37 (f := .glo "_law_rounds") rfl), (c.def_ 43 (d := d_law_rounds) rfl).choose_spec⟩
    f_law := ⟨_, _, He.glo_ok X G (c.fact 38 (f := .glo "law") rfl), (c.def_ 44 (d := d_law) rfl).choose_spec⟩
  }
theorem nx : Nx K mg (He.ga K "NeverComes") := by
  obtain ⟨a1, a2, a3, a4⟩ := He.exc_ok (c.fact 76 (f := .exc "NeverComes") rfl)
  exact ⟨He.glo_ok X G (c.fact 75 (f := .glo "NeverComes") rfl), a1, a2, a3, a4, He.exm_ok (c.fact 77 (f := .exm "NeverComes" "NeverComes" true) rfl)⟩
theorem adx : AddX K (He.ga K "State") := by
  obtain ⟨e1, e⟩ := He.ba e
  obtain ⟨e2, e⟩ := He.ba e
  obtain ⟨e3, e4⟩ := He.ba e
  exact ⟨e3, He.eqO_ok e4⟩
theorem facts {P : Program} {w : World} {f : Addr} (hfa : mg ("law" : Str) = some (.ref f)) : ∃ fd : FuncData, (∀ (s : Shared) (v : Value), BindsTo s fd ⟨[v], []⟩ [("_law_script", v)]) ∧
    ∀ base : Heap, K.In base → base.Ns mainGlobals mg → FnOk P w K mg base CX0 11 f fd ["_law_script"] (sp_law K) := by
  obtain ⟨fd, F⟩ := c.def_ 44 (d := d_law) rfl
  have e2 := hfa.symm.trans (He.glo_ok X G (c.fact 38 (f := .glo "law") rfl))
  cases e2
  have b := FunD.bindsA (ps := ["_law_script"]) F fun _ _ _ _ _ _ us hl => match us, hl with | [_], _ => rfl
  exact ⟨fd, fun s v => b s [v] rfl, fun base _ _ => ok_law (tx X G c e) (nx X G c e) (adx X G c e) F⟩
end
end Hk
open PySem PySem.W PySem.Calls PyProof.Rows
set_option maxRecDepth 100000 in
set_option maxHeartbeats 0 in
theorem PySem.Challenge.cw_handedkeys_k06_whole_rounds_holds : PySem.Challenge.rw_handedkeys_k06_whole_rounds.Holds := by
  w_on; o_law
  refine HandSHeadRun.head_any (r := OpenLaw.row PySem.Challenge.rw_handedkeys_k06_whole_rounds) (q := PySem.W.view Hk.R.prog [64]) (H := Hk.hk) (ob := Hk.ob) (M := 20000) (loose := Hk.loose) (d := HandSHeadRun.topDef Hk.R.prog 64) (kwd := []) Hk.ob_eq
    (by kernel_rfl) (fun s => by kernel_rfl) Hk.run (by kernel_rfl) (by kernel_rfl) (by kernel_rfl) (by rfl) (by first | assumption | decide +kernel) (by decide +kernel) ⟨rfl, rfl, rfl, rfl, rfl, by decide +kernel⟩ ?hw ?hc
  case hw => w_witness2
  case hc =>
    refine L2.walk_ofE (l := PySem.Challenge.rw_handedkeys_k06_whole_rounds) (n := 63) (k := 11) (x := "_law_script") (CX := L2.CX0) rfl (by decide) (by kernel_rfl) ⟨rfl, by decide, by decide⟩ ?F (fun _ _ _ _ z => z)
    intro w mg fa h Y G hmg0
    obtain ⟨K, KX, c, ex⟩ := Y
    have hmg : mg ("law" : PySem.Str) = some (.ref fa) := by
      have e : (HandSHeadRun.topDef Hk.R.prog 64).name = ("law" : PySem.Str) := by kernel_rfl
      rw [← e]
      exact hmg0
    obtain ⟨fd, hb, hF⟩ := Hk.facts (P := (PySem.Challenge.rw_handedkeys_k06_whole_rounds).prog) (w := w) KX G c ex hmg
    exact ⟨K, fd, Hk.sp_law K, KX, hb, fun H a ns hl _ hS => Hk.law_pre hS hl, hF⟩


