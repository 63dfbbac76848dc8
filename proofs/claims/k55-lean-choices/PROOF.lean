import PyProof.Rows.All
import Wide.All
import OpenK.AllK
import Wide.FinOn
import HandS.ForMost
import HandS.TupAny
import HandS.TupMul
import HandS.Zip
import HandS.Style
import HandS.Strs
import HandS.SetFor
import HandS.IsInst
import HandS.Conv
import HandS.Evl
import HandS.EndBits
import KE.SortData
import KE.KDictKeyed
import HandS.Codes
import HandS.SortKw
import HandS.DictComp
import HandS.DictTup
import KE.KDictDisplayH
import PySem.Challenge.RW_standingpowers_k55_whole_lean_choices
set_option Elab.async false
set_option linter.all false
set_option maxRecDepth 100000
set_option maxHeartbeats 4000000
namespace SPw
open PySem PySem.Spec PyProof.Rows L2
/-! ### the text by places -/
def top (i : Nat) : Stmt := PySem.Challenge.pw_standingpowers_k55_whole_lean_choices.main.body.getD i (.Pass ⟨0, 0, 0, 0⟩)
end SPw
namespace SPw
open PySem PySem.Spec PyProof.Rows L2
abbrev Slots := L2.St
/-! ### what is said of a value in a heap, and stays said while the heap grows -/
abbrev VP := V → Hp → Prop
class Mono (P : VP) : Prop where
  go : ∀ {v : V} {H H' : Hp}, Same H H' → P v H → P v H'
def Is (x : V) : VP := fun v _ => v = x
instance (x : V) : Mono (Is x) := ⟨fun _ h => h⟩
theorem same_rd {H H' : Hp} {a : Addr} {u : HO} (e : Same H H') (h : Rd H a u) : Rd H' a u := by
  rcases h with h | ⟨o, h⟩
  · exact .inl (e _ _ h)
  · exact .inr ⟨o, e _ _ h⟩
theorem same_tup {K : PySem.W.Frag} {H H' : Hp} {a : Addr} {xs : List V} (e : Same H H') (h : SqT K H a xs) : SqT K H' a xs :=
  h.elim (fun z => .inl (same_rd e z)) .inr
theorem same_new {H : Hp} {p : Addr} {o : HO} (np : H p = none) : Same H (upd H p o) := fun b u e => by
  rw [upd_ne (ne_of_none e np)]; exact e
/-- an object that the first heap does not know may change -/
theorem same_mut {H H' : Hp} {p : Addr} {o : HO} (e : Same H H') (np : H p = none) : Same H (upd H' p o) := fun b u hb => by
  rw [upd_ne (ne_of_none hb np)]; exact e b u hb
mutual
/-- data whose lists and tuples all are tracked -/
inductive Tp (K : PySem.W.Frag) (H : Hp) : V → PyData → Prop
  | non : Tp K H .non .none
  | bl (b : Bool) : Tp K H (.bl b) (.bool b)
  | int (i : Int) : Tp K H (.int i) (.int i)
  | str (x : Str) : Tp K H (.str x) (.str x)
  | lst {a : Addr} {xs : List V} {ds : List PyData} (e : H a = some (.lst xs)) (h : TpAll K H xs ds) : Tp K H (.ref a) (.list ds)
  | tup {a : Addr} {xs : List V} {ds : List PyData} (e : H a = some (.tup xs)) (h : TpAll K H xs ds) : Tp K H (.ref a) (.tuple ds)
inductive TpAll (K : PySem.W.Frag) (H : Hp) : List V → List PyData → Prop
  | nil : TpAll K H [] []
  | cons {v : V} {vs : List V} {d : PyData} {ds : List PyData} (h : Tp K H v d) (t : TpAll K H vs ds) : TpAll K H (v :: vs) (d :: ds)
end
mutual
theorem Tp.dp {K : PySem.W.Frag} {H : Hp} : ∀ (d : PyData) (v : V), Tp K H v d → Dp K H v d
  | .none, _, h => by cases h; exact .non
  | .bool _, _, h => by cases h; exact .bl _
  | .int _, _, h => by cases h; exact .int _
  | .str _, _, h => by cases h; exact .str _
  | .list ds, _, h => by
    cases h with
    | lst hs ha => exact .lst (SqL.of hs) (TpAll.dp ds _ ha)
  | .tuple ds, _, h => by
    cases h with
    | tup hs ha => exact .tup (SqT.of hs) (TpAll.dp ds _ ha)
  | .dict _, _, h => by cases h
theorem TpAll.dp {K : PySem.W.Frag} {H : Hp} : ∀ (ds : List PyData) (vs : List V), TpAll K H vs ds → DpAll K H vs ds
  | [], _, h => by cases h; exact .nil
  | d :: ds, _, h => by
    cases h with
    | cons h1 h2 => exact .cons (Tp.dp d _ h1) (TpAll.dp ds _ h2)
end
mutual
theorem Tp.same {K : PySem.W.Frag} {H H' : Hp} (e : Same H H') : ∀ (d : PyData) (v : V), Tp K H v d → Tp K H' v d
  | .none, _, h => by cases h; exact .non
  | .bool _, _, h => by cases h; exact .bl _
  | .int _, _, h => by cases h; exact .int _
  | .str _, _, h => by cases h; exact .str _
  | .list ds, _, h => by
    cases h with
    | lst hs ha => exact .lst (e _ _ hs) (TpAll.same e ds _ ha)
  | .tuple ds, _, h => by
    cases h with
    | tup hs ha => exact .tup (e _ _ hs) (TpAll.same e ds _ ha)
  | .dict _, _, h => by cases h
theorem TpAll.same {K : PySem.W.Frag} {H H' : Hp} (e : Same H H') : ∀ (ds : List PyData) (vs : List V), TpAll K H vs ds → TpAll K H' vs ds
  | [], _, h => by cases h; exact .nil
  | d :: ds, _, h => by
    cases h with
    | cons h1 h2 => exact .cons (Tp.same e d _ h1) (TpAll.same e ds _ h2)
end
section
variable {K : PySem.W.Frag} {H H' : Hp}
theorem TpAll.len : ∀ {vs : List V} {ds : List PyData}, TpAll K H vs ds → vs.length = ds.length
  | _, _, .nil => rfl
  | _, _, .cons _ t => congrArg (· + 1) (TpAll.len t)
theorem TpAll.get : ∀ {vs : List V} {ds : List PyData} {i : Nat} {d : PyData}, TpAll K H vs ds → ds[i]? = some d → ∃ v, vs[i]? = some v ∧ Tp K H v d
  | _, _, _, _, .nil, h => by simp at h
  | _, _, 0, _, .cons r _, h => by simp at h; subst h; exact ⟨_, rfl, r⟩
  | _, _, i + 1, d, .cons _ t, h => by
    obtain ⟨v, a, b⟩ := TpAll.get (i := i) (d := d) t (by simpa using h)
    exact ⟨v, by simpa using a, b⟩
theorem TpAll.at : ∀ {vs : List V} {ds : List PyData} {i : Nat} {v : V}, TpAll K H vs ds → vs[i]? = some v → ∃ d, ds[i]? = some d ∧ Tp K H v d
  | _, _, _, _, .nil, h => by simp at h
  | _, _, 0, _, .cons r _, h => by simp at h; subst h; exact ⟨_, rfl, r⟩
  | _, _, i + 1, v, .cons _ t, h => by
    obtain ⟨d, a, b⟩ := TpAll.at (i := i) (v := v) t (by simpa using h)
    exact ⟨d, by simpa using a, b⟩
theorem TpAll.app : ∀ {vs ws : List V} {ds es : List PyData}, TpAll K H vs ds → TpAll K H ws es → TpAll K H (vs ++ ws) (ds ++ es)
  | _, _, _, _, .nil, h => h
  | _, _, _, _, .cons r t, h => .cons r (TpAll.app t h)
theorem TpAll.take : ∀ {vs : List V} {ds : List PyData} (n : Nat), TpAll K H vs ds → TpAll K H (vs.take n) (ds.take n)
  | _, _, 0, _ => .nil
  | _, _, _ + 1, .nil => .nil
  | _, _, n + 1, .cons r t => .cons r (TpAll.take n t)
theorem TpAll.drop : ∀ {vs : List V} {ds : List PyData} (n : Nat), TpAll K H vs ds → TpAll K H (vs.drop n) (ds.drop n)
  | _, _, 0, h => h
  | _, _, _ + 1, .nil => .nil
  | _, _, n + 1, .cons _ t => TpAll.drop n t
theorem TpAll.rev {vs : List V} {ds : List PyData} (h : TpAll K H vs ds) : TpAll K H vs.reverse ds.reverse := by
  induction vs generalizing ds with
  | nil => cases h; exact .nil
  | cons v vs ih =>
    cases h with
    | cons r t =>
      rw [List.reverse_cons, List.reverse_cons]
      exact (ih t).app (.cons r .nil)
end
/-- v is the data d -/
def D (K : PySem.W.Frag) (d : PyData) : VP := fun v H => Tp K H v d
instance (K : PySem.W.Frag) (d : PyData) : Mono (D K d) := ⟨fun e h => Tp.same e _ _ h⟩
section
variable {K : PySem.W.Frag} {H H' : Hp}
theorem dp_int {v : V} {i : Int} (h : Tp K H v (.int i)) : v = .int i := by cases h; rfl
theorem dp_bool {v : V} {b : Bool} (h : Tp K H v (.bool b)) : v = .bl b := by cases h; rfl
theorem dp_str {v : V} {x : Str} (h : Tp K H v (.str x)) : v = .str x := by cases h; rfl
theorem dp_list {v : V} {ds : List PyData} (h : Tp K H v (.list ds)) : ∃ a xs, v = .ref a ∧ SqL K H a xs ∧ TpAll K H xs ds := by
  cases h with
  | lst hs ha => exact ⟨_, _, rfl, SqL.of hs, ha⟩
theorem dp_listT {v : V} {ds : List PyData} (h : Tp K H v (.list ds)) : ∃ a xs, v = .ref a ∧ H a = some (.lst xs) ∧ TpAll K H xs ds := by
  cases h with
  | lst hs ha => exact ⟨_, _, rfl, hs, ha⟩
theorem dp_tup {v : V} {ds : List PyData} (h : Tp K H v (.tuple ds)) : ∃ a xs, v = .ref a ∧ SqT K H a xs ∧ TpAll K H xs ds := by
  cases h with
  | tup hs ha => exact ⟨_, _, rfl, SqT.of hs, ha⟩
theorem dp_tupT {v : V} {ds : List PyData} (h : Tp K H v (.tuple ds)) : ∃ a xs, v = .ref a ∧ H a = some (.tup xs) ∧ TpAll K H xs ds := by
  cases h with
  | tup hs ha => exact ⟨_, _, rfl, hs, ha⟩
theorem dpAll_ints : ∀ ns : List Int, TpAll K H (ns.map V.int) (ns.map PyData.int)
  | [] => .nil
  | n :: r => .cons (.int n) (dpAll_ints r)
theorem dpAll_bls : ∀ ns : List Bool, TpAll K H (ns.map V.bl) (ns.map PyData.bool)
  | [] => .nil
  | n :: r => .cons (.bl n) (dpAll_bls r)
theorem ints_dp : ∀ {vs : List V} {ns : List Int}, TpAll K H vs (ns.map PyData.int) → vs = ns.map V.int
  | _, [], h => by cases h; rfl
  | _, n :: r, h => by
    cases h with
    | cons a b => rw [dp_int a, ints_dp b]; rfl
theorem bls_dp : ∀ {vs : List V} {ns : List Bool}, TpAll K H vs (ns.map PyData.bool) → vs = ns.map V.bl
  | _, [], h => by cases h; rfl
  | _, n :: r, h => by
    cases h with
    | cons a b => rw [dp_bool a, bls_dp b]; rfl
theorem dp_new_list {p : Addr} {xs : List V} {ds : List PyData} (h : H p = some (.lst xs)) (a : TpAll K H xs ds) : Tp K H (.ref p) (.list ds) := .lst h a
theorem dp_new_tup {p : Addr} {xs : List V} {ds : List PyData} (h : H p = some (.tup xs)) (a : TpAll K H xs ds) : Tp K H (.ref p) (.tuple ds) := .tup h a
end

/-! ### what a reading evaluates to -/
def EV (te : TE) (σ : Slots) (H : Hp) (P : VP) : Prop := ∀ H1, Same H H1 → ∀ Q : VK, (∀ v H2, Same H1 H2 → P v H2 → Q v H2) → te σ H1 Q
def EVT (tt : TT) (σ : Slots) (H : Hp) (b : Bool) : Prop := ∀ H1, Same H H1 → ∀ Q : Bool → Hp → Prop, (∀ H2, Same H1 H2 → Q b H2) → tt σ H1 Q
def AllP : List VP → List V → Hp → Prop
  | [], [], _ => True
  | P :: Ps, v :: vs, H => P v H ∧ AllP Ps vs H
  | _, _, _ => False
def EVA (ta : TA) (σ : Slots) (H : Hp) (Ps : List VP) : Prop := ∀ H1, Same H H1 → ∀ Q : List V → Hp → Prop, (∀ vs H2, Same H1 H2 → AllP Ps vs H2 → Q vs H2) → ta σ H1 Q
theorem allP0 {vs : List V} {H : Hp} (h : AllP [] vs H) : vs = [] := by
  cases vs with
  | nil => rfl
  | cons v r => exact h.elim
theorem allPc {P : VP} {Ps : List VP} {vs : List V} {H : Hp} (h : AllP (P :: Ps) vs H) : ∃ v r, vs = v :: r ∧ P v H ∧ AllP Ps r H := by
  cases vs with
  | nil => exact h.elim
  | cons v r => exact ⟨v, r, rfl, h.1, h.2⟩
theorem allP1 {P : VP} {vs : List V} {H : Hp} (h : AllP [P] vs H) : ∃ v, vs = [v] ∧ P v H := by
  obtain ⟨v, r, rfl, a, b⟩ := allPc h
  rw [allP0 b]; exact ⟨v, rfl, a⟩
theorem allP2 {P1 P2 : VP} {vs : List V} {H : Hp} (h : AllP [P1, P2] vs H) : ∃ v1 v2, vs = [v1, v2] ∧ P1 v1 H ∧ P2 v2 H := by
  obtain ⟨v, r, rfl, a, b⟩ := allPc h
  obtain ⟨v2, rfl, b2⟩ := allP1 b
  exact ⟨v, v2, rfl, a, b2⟩
theorem allP3 {P1 P2 P3 : VP} {vs : List V} {H : Hp} (h : AllP [P1, P2, P3] vs H) : ∃ v1 v2 v3, vs = [v1, v2, v3] ∧ P1 v1 H ∧ P2 v2 H ∧ P3 v3 H := by
  obtain ⟨v, r, rfl, a, b⟩ := allPc h
  obtain ⟨v2, v3, rfl, b2, b3⟩ := allP2 b
  exact ⟨v, v2, v3, rfl, a, b2, b3⟩
theorem allP4 {P1 P2 P3 P4 : VP} {vs : List V} {H : Hp} (h : AllP [P1, P2, P3, P4] vs H) : ∃ v1 v2 v3 v4, vs = [v1, v2, v3, v4] ∧ P1 v1 H ∧ P2 v2 H ∧ P3 v3 H ∧ P4 v4 H := by
  obtain ⟨v, r, rfl, a, b⟩ := allPc h
  obtain ⟨v2, v3, v4, rfl, b2, b3, b4⟩ := allP3 b
  exact ⟨v, v2, v3, v4, rfl, a, b2, b3, b4⟩
theorem allP_dp {K : PySem.W.Frag} {H : Hp} : ∀ {ds : List PyData} {vs : List V}, AllP (ds.map (D K)) vs H → TpAll K H vs ds
  | [], vs, h => by rw [allP0 h]; exact .nil
  | d :: ds, vs, h => by
    obtain ⟨v, r, rfl, a, b⟩ := allPc (P := D K d) (Ps := ds.map (D K)) h
    exact .cons a (allP_dp b)

section
variable {K : PySem.W.Frag} {σ : Slots} {H H' : Hp} {ta tb tc te tl : TE} {P R S : VP} {Ps : List VP} {t u : TT} {b c : Bool}
theorem EV.up (h : EV te σ H P) (e : Same H H') : EV te σ H' P := fun H1 e1 Q q => h H1 (e.trans e1) Q q
theorem EVT.up (h : EVT t σ H b) (e : Same H H') : EVT t σ H' b := fun H1 e1 Q q => h H1 (e.trans e1) Q q
theorem EV.imp (h : EV te σ H P) (f : ∀ v H1, Same H H1 → P v H1 → S v H1) : EV te σ H S := fun H1 e Q q => h H1 e Q fun v H2 e2 p => q v H2 e2 (f v H2 (e.trans e2) p)
theorem EV.eqD {d e : PyData} (h : EV te σ H (D K d)) (x : d = e) : EV te σ H (D K e) := x ▸ h
theorem EVT.to (h : EVT t σ H b) (x : b = c) : EVT t σ H c := x ▸ h
theorem EV.go (h : EV te σ H P) {Q : VK} (q : ∀ v H2, Same H H2 → P v H2 → Q v H2) : te σ H Q := h H (Same.refl H) Q q
theorem EVT.go (h : EVT t σ H b) {Q : Bool → Hp → Prop} (q : ∀ H2, Same H H2 → Q b H2) : t σ H Q := h H (Same.refl H) Q q
theorem EVA.go {ta : TA} (h : EVA ta σ H Ps) {Q : List V → Hp → Prop} (q : ∀ vs H2, Same H H2 → AllP Ps vs H2 → Q vs H2) : ta σ H Q := h H (Same.refl H) Q q
theorem ev_var {i : Nat} {v : V} [m : Mono P] (h : σ[i]? = some (some v)) (p : P v H) : EV (tVar i) σ H P := fun H1 e _ q => ⟨v, h, q v H1 (Same.refl _) (m.go e p)⟩
theorem ev_is {v : V} : EV (tC v) σ H (Is v) := fun H1 _ _ q => q v H1 (Same.refl _) rfl
theorem ev_int {i : Int} : EV (tC (.int i)) σ H (D K (.int i)) := fun H1 _ _ q => q _ H1 (Same.refl _) (.int i)
theorem ev_bl {i : Bool} : EV (tC (.bl i)) σ H (D K (.bool i)) := fun H1 _ _ q => q _ H1 (Same.refl _) (.bl i)
theorem ev_str {i : Str} : EV (tC (.str i)) σ H (D K (.str i)) := fun H1 _ _ q => q _ H1 (Same.refl _) (.str i)
theorem ev_c {v : V} {P : VP} (p : ∀ H1, Same H H1 → P v H1) : EV (tC v) σ H P := fun H1 e _ q => q v H1 (Same.refl _) (p H1 e)
/-- a rule by values leads to S -/
def RO (r : R2) (x y : V) (H : Hp) (S : VP) : Prop := ∀ Q : VK, (∀ v H2, Same H H2 → S v H2 → Q v H2) → r x y H Q
theorem ev_op {r : R2} [m : Mono P] (ha : EV ta σ H P) (hb : EV tb σ H R) (hr : ∀ x y H1, Same H H1 → P x H1 → R y H1 → RO r x y H1 S) : EV (tOp r ta tb) σ H S := fun H1 e Q q =>
  ha H1 e _ fun x H2 e2 px => hb H2 (e.trans e2) _ fun y H3 e3 py => hr x y H3 ((e.trans e2).trans e3) (m.go e3 px) py Q fun v H4 e4 s => q v H4 ((e2.trans e3).trans e4) s
theorem ev_un {r : V → Hp → VK → Prop} (ha : EV ta σ H P) (hr : ∀ x H1, Same H H1 → P x H1 → ∀ Q : VK, (∀ v H2, Same H1 H2 → S v H2 → Q v H2) → r x H1 Q) : EV (tUn r ta) σ H S := fun H1 e Q q =>
  ha H1 e _ fun x H2 e2 px => hr x H2 (e.trans e2) px Q fun v H3 e3 s => q v H3 (e2.trans e3) s
theorem ev_neg {i : Int} (ha : EV ta σ H (D K (.int i))) : EV (tUn (rU fun i => .int (-i)) ta) σ H (D K (.int (-i))) :=
  ev_un ha fun x H1 _ p Q q => ⟨i, dp_int p, q _ H1 (Same.refl _) (.int _)⟩
/-- two ints -/
theorem ev_ii {f : Int → Int → Int} {i j : Int} (ha : EV ta σ H (D K (.int i))) (hb : EV tb σ H (D K (.int j))) : EV (tOp (rI0 fun i j => .int (f i j)) ta tb) σ H (D K (.int (f i j))) :=
  ev_op ha hb fun x y H1 _ p q Q k => ⟨i, j, dp_int p, dp_int q, k _ H1 (Same.refl _) (.int _)⟩
theorem ev_iiC {C : Int → Int → Prop} {f : Int → Int → Int} {i j : Int} (ha : EV ta σ H (D K (.int i))) (hb : EV tb σ H (D K (.int j))) (hc : C i j) : EV (tOp (rI C fun i j => .int (f i j)) ta tb) σ H (D K (.int (f i j))) :=
  ev_op ha hb fun x y H1 _ p q Q k => ⟨i, j, dp_int p, dp_int q, hc, k _ H1 (Same.refl _) (.int _)⟩
theorem ev_cmp {f : Int → Int → Bool} {i j : Int} (ha : EV ta σ H (D K (.int i))) (hb : EV tb σ H (D K (.int j))) : EV (tOp (rI0 fun i j => .bl (f i j)) ta tb) σ H (D K (.bool (f i j))) :=
  ev_op ha hb fun x y H1 _ p q Q k => ⟨i, j, dp_int p, dp_int q, k _ H1 (Same.refl _) (.bl _)⟩
theorem ev_eqI {i j : Int} (ha : EV ta σ H (D K (.int i))) (hb : EV tb σ H (D K (.int j))) : EV (tOp rEq ta tb) σ H (D K (.bool (decide (i = j)))) :=
  ev_op ha hb fun x y H1 _ p q Q k => by
    rw [dp_int p, dp_int q]
    refine ⟨rfl, ?_⟩
    rw [show decide (V.int i = V.int j) = decide (i = j) by rw [dec_int, Bool.beq_eq_decide_eq]]
    exact k _ H1 (Same.refl _) (.bl _)
theorem ev_neI {i j : Int} (ha : EV ta σ H (D K (.int i))) (hb : EV tb σ H (D K (.int j))) : EV (tOp rNe ta tb) σ H (D K (.bool (!decide (i = j)))) :=
  ev_op ha hb fun x y H1 _ p q Q k => by
    rw [dp_int p, dp_int q]
    refine ⟨rfl, ?_⟩
    rw [show decide (V.int i = V.int j) = decide (i = j) by rw [dec_int, Bool.beq_eq_decide_eq]]
    exact k _ H1 (Same.refl _) (.bl _)
theorem ev_neB {i j : Bool} (ha : EV ta σ H (D K (.bool i))) (hb : EV tb σ H (D K (.bool j))) : EV (tOp rNe ta tb) σ H (D K (.bool (!decide (i = j)))) :=
  ev_op ha hb fun x y H1 _ p q Q k => by
    rw [dp_bool p, dp_bool q]
    refine ⟨rfl, ?_⟩
    rw [show decide (V.bl i = V.bl j) = decide (i = j) by rw [dec_bl, Bool.beq_eq_decide_eq]]
    exact k _ H1 (Same.refl _) (.bl _)
/-- items -/
theorem ev_ixL {ds : List PyData} {d : PyData} {i : Int} {k : Nat} (ha : EV ta σ H (D K (.list ds))) (hb : EV tb σ H (D K (.int i))) (hi : i = (k : Int)) (hd : ds[k]? = some d) : EV (tOp (rIxL K) ta tb) σ H (D K d) :=
  ev_op ha hb fun x y H1 _ p q Q kk => by
    obtain ⟨a, xs, rfl, hs, hA⟩ := dp_list p
    obtain ⟨v, hv, dv⟩ := hA.get hd
    exact ⟨a, xs, i, v, rfl, dp_int q, hs, (by rw [hi]; exact atI_nat hv), kk _ H1 (Same.refl _) dv⟩
theorem ev_ixT {ds : List PyData} {d : PyData} {i : Int} {k : Nat} (ha : EV ta σ H (D K (.tuple ds))) (hb : EV tb σ H (D K (.int i))) (hi : i = (k : Int)) (hd : ds[k]? = some d) : EV (tOp (rIxT K) ta tb) σ H (D K d) :=
  ev_op ha hb fun x y H1 _ p q Q kk => by
    obtain ⟨a, xs, rfl, hs, hA⟩ := dp_tup p
    obtain ⟨v, hv, dv⟩ := hA.get hd
    exact ⟨a, xs, i, v, rfl, dp_int q, hs, (by rw [hi]; exact atI_nat hv), kk _ H1 (Same.refl _) dv⟩
/-- arguments -/
theorem eva_nil : EVA tNil σ H [] := fun H1 _ _ q => q [] H1 (Same.refl _) True.intro
theorem eva_cons {tr : TA} [m : Mono P] (h : EV te σ H P) (hr : EVA tr σ H Ps) : EVA (tCons te tr) σ H (P :: Ps) := fun H1 e _ q =>
  h H1 e _ fun v H2 e2 p => hr H2 (e.trans e2) _ fun vs H3 e3 ps => q (v :: vs) H3 (e2.trans e3) ⟨m.go e3 p, ps⟩
theorem ev_tup {ta : TA} {ds : List PyData} (h : EVA ta σ H (ds.map (D K))) (hl : ds.length ≤ 1000000) : EV (tTup ta) σ H (D K (.tuple ds)) := fun H1 e _ q =>
  h H1 e _ fun vs H2 e2 ps => by
    have A := allP_dp ps
    refine ⟨Nat.le_trans (by rw [A.len]; exact hl) (show (1000000 : Nat) ≤ sizeLine by decide), fun p np => q _ _ (e2.trans (same_new np)) (dp_new_tup upd_same (A.same (same_new np)))⟩
theorem ev_lst {ta : TA} {ds : List PyData} (h : EVA ta σ H (ds.map (D K))) (hl : ds.length ≤ 1000000) : EV (tLst ta) σ H (D K (.list ds)) := fun H1 e _ q =>
  h H1 e _ fun vs H2 e2 ps => by
    have A := allP_dp ps
    refine ⟨Nat.le_trans (by rw [A.len]; exact hl) (show (1000000 : Nat) ≤ sizeLine by decide), fun p np => q _ _ (e2.trans (same_new np)) (dp_new_list upd_same (A.same (same_new np)))⟩
/-- built-ins by name -/
theorem ev_cb {r : List V → Hp → VK → Prop} {ta : TA} (h : EVA ta σ H Ps) (hr : ∀ vs H1, Same H H1 → AllP Ps vs H1 → ∀ Q : VK, (∀ v H2, Same H1 H2 → S v H2 → Q v H2) → r vs H1 Q) : EV (tCB r ta) σ H S := fun H1 e Q q =>
  h H1 e _ fun vs H2 e2 ps => hr vs H2 (e.trans e2) ps Q fun v H3 e3 s => q v H3 (e2.trans e3) s
def rLen (K : PySem.W.Frag) : List V → Hp → VK → Prop := fun xs H Q => ∃ p ys, xs = [.ref p] ∧ (SqL K H p ys ∨ SqT K H p ys) ∧ Q (.int ys.length) H
theorem cr_len {X : Cx} : CallR X (.builtin "len") (rLen X.K) := call_len_seq
theorem ev_lenL {ds : List PyData} (h : EV te σ H (D K (.list ds))) : EV (tCB (rLen K) (tCons te tNil)) σ H (D K (.int (ds.length : Int))) :=
  ev_cb (eva_cons h eva_nil) fun vs H1 _ ps Q q => by
    obtain ⟨v, rfl, p⟩ := allP1 ps
    obtain ⟨a, xs, rfl, hs, hA⟩ := dp_list p
    refine ⟨a, xs, rfl, .inl hs, q _ H1 (Same.refl _) ?_⟩
    rw [hA.len]; exact .int _
theorem ev_lenT {ds : List PyData} (h : EV te σ H (D K (.tuple ds))) : EV (tCB (rLen K) (tCons te tNil)) σ H (D K (.int (ds.length : Int))) :=
  ev_cb (eva_cons h eva_nil) fun vs H1 _ ps Q q => by
    obtain ⟨v, rfl, p⟩ := allP1 ps
    obtain ⟨a, xs, rfl, hs, hA⟩ := dp_tup p
    refine ⟨a, xs, rfl, .inr hs, q _ H1 (Same.refl _) ?_⟩
    rw [hA.len]; exact .int _
def rInt1 : List V → Hp → VK → Prop := fun xs H Q => (∃ i, xs = [.int i] ∧ Q (.int i) H) ∨ ∃ k, xs = [.bl k] ∧ Q (.int (if k then 1 else 0)) H
theorem cr_int {X : Cx} : CallR X (.type "int") rInt1 := call_int1
theorem ev_intI {i : Int} (h : EV te σ H (D K (.int i))) : EV (tCB rInt1 (tCons te tNil)) σ H (D K (.int i)) :=
  ev_cb (eva_cons h eva_nil) fun vs H1 _ ps Q q => by
    obtain ⟨v, rfl, p⟩ := allP1 ps
    exact .inl ⟨i, by rw [dp_int p], q _ H1 (Same.refl _) (.int _)⟩
theorem ev_intB {i : Bool} (h : EV te σ H (D K (.bool i))) : EV (tCB rInt1 (tCons te tNil)) σ H (D K (.int (if i then 1 else 0))) :=
  ev_cb (eva_cons h eva_nil) fun vs H1 _ ps Q q => by
    obtain ⟨v, rfl, p⟩ := allP1 ps
    exact .inr ⟨i, by rw [dp_bool p], q _ H1 (Same.refl _) (.int _)⟩
theorem ev_sumL {ns : List Int} (h : EV te σ H (D K (.list (ns.map .int)))) : EV (tCB (rSum K) (tCons te tNil)) σ H (D K (.int ns.sum)) :=
  ev_cb (eva_cons h eva_nil) fun vs H1 _ ps Q q => by
    obtain ⟨v, rfl, p⟩ := allP1 ps
    obtain ⟨a, xs, rfl, hs, hA⟩ := dp_list p
    exact ⟨a, ns, rfl, (by rw [← ints_dp hA]; exact hs), q _ H1 (Same.refl _) (.int _)⟩
theorem ev_allL {ns : List Bool} (h : EV te σ H (D K (.list (ns.map .bool)))) : EV (tCB (rAll K) (tCons te tNil)) σ H (D K (.bool (ns.all id))) :=
  ev_cb (eva_cons h eva_nil) fun vs H1 _ ps Q q => by
    obtain ⟨v, rfl, p⟩ := allP1 ps
    obtain ⟨a, xs, rfl, hs, hA⟩ := dp_list p
    exact ⟨a, ns, rfl, (by rw [← bls_dp hA]; exact hs), q _ H1 (Same.refl _) (.bl _)⟩
theorem ev_anyL {ns : List Bool} (h : EV te σ H (D K (.list (ns.map .bool)))) : EV (tCB (rAny K) (tCons te tNil)) σ H (D K (.bool (ns.any id))) :=
  ev_cb (eva_cons h eva_nil) fun vs H1 _ ps Q q => by
    obtain ⟨v, rfl, p⟩ := allP1 ps
    obtain ⟨a, xs, rfl, hs, hA⟩ := dp_list p
    exact ⟨a, ns, rfl, (by rw [← bls_dp hA]; exact hs), q _ H1 (Same.refl _) (.bl _)⟩
def rTupO (K : PySem.W.Frag) : List V → Hp → VK → Prop := fun xs H Q => ∃ p ys, xs = [.ref p] ∧ ((SqL K H p ys ∧ ∀ l, H l = none → Q (.ref l) (upd H l (.tup ys))) ∨ (SqT K H p ys ∧ Q (.ref p) H))
theorem cr_tuple {X : Cx} : CallR X (.type "tuple") (rTupO X.K) := call_tuple_of
theorem ev_tupL {ds : List PyData} (h : EV te σ H (D K (.list ds))) : EV (tCB (rTupO K) (tCons te tNil)) σ H (D K (.tuple ds)) :=
  ev_cb (eva_cons h eva_nil) fun vs H1 _ ps Q q => by
    obtain ⟨v, rfl, p⟩ := allP1 ps
    obtain ⟨a, xs, rfl, hs, hA⟩ := dp_list p
    exact ⟨a, xs, rfl, .inl ⟨hs, fun l nl => q _ _ (same_new nl) (dp_new_tup upd_same (hA.same (same_new nl)))⟩⟩
def rLstO (K : PySem.W.Frag) : List V → Hp → VK → Prop := fun xs H Q => ∃ p ys, xs = [.ref p] ∧ (SqL K H p ys ∨ SqT K H p ys) ∧ ∀ l, H l = none → Q (.ref l) (upd H l (.lst ys))
theorem cr_list {X : Cx} : CallR X (.type "list") (rLstO X.K) := call_list_of
theorem ev_lstL {ds : List PyData} (h : EV te σ H (D K (.list ds))) : EV (tCB (rLstO K) (tCons te tNil)) σ H (D K (.list ds)) :=
  ev_cb (eva_cons h eva_nil) fun vs H1 _ ps Q q => by
    obtain ⟨v, rfl, p⟩ := allP1 ps
    obtain ⟨a, xs, rfl, hs, hA⟩ := dp_list p
    exact ⟨a, xs, rfl, .inl hs, fun l nl => q _ _ (same_new nl) (dp_new_list upd_same (hA.same (same_new nl)))⟩

/-! ### promises -/
/-- the promise: from arguments that meet pre, a value of which S holds; nothing that stood is changed -/
def Prom (pre : List V → Hp → VP → Prop) : Sp := fun vs H Q _ => ∃ S, pre vs H S ∧ ∀ v H', Same H H' → S v H' → Q v H'
theorem ev_call {pre : List V → Hp → VP → Prop} {E : XK} {ta : TA} (h : EVA ta σ H Ps) (hp : ∀ vs H1, Same H H1 → AllP Ps vs H1 → pre vs H1 S) : EV (tCall (Prom pre) [] E ta) σ H S := fun H1 e Q q =>
  h H1 e _ fun vs H2 e2 ps => ⟨S, by rw [List.append_nil]; exact hp vs H2 (e.trans e2) ps, fun v H3 e3 s => q v H3 (e2.trans e3) s⟩

/-! ### tests -/
theorem evt_test (h : EV te σ H (D K (.bool b))) : EVT (tTest te) σ H b := fun H1 e _ q => h H1 e _ fun v H2 e2 p => ⟨b, dp_bool p, q H2 e2⟩
theorem evt_B (h : EV te σ H (D K (.bool b))) : EVT (tB te) σ H b := fun H1 e _ q => h H1 e _ fun v H2 e2 p => ⟨b, dp_bool p, q H2 e2⟩
theorem evt_and (h1 : EVT t σ H b) (h2 : b = true → EVT u σ H c) : EVT (tAnd t u) σ H (b && c) := fun H1 e Q q => h1 H1 e _ fun H2 e2 => by
  cases b with
  | true => exact h2 rfl H2 (e.trans e2) Q fun H3 e3 => q H3 (e2.trans e3)
  | false => exact q H2 e2
theorem evt_or (h1 : EVT t σ H b) (h2 : b = false → EVT u σ H c) : EVT (tOr t u) σ H (b || c) := fun H1 e Q q => h1 H1 e _ fun H2 e2 => by
  cases b with
  | true => exact q H2 e2
  | false => exact h2 rfl H2 (e.trans e2) Q fun H3 e3 => q H3 (e2.trans e3)
theorem evt_not (h1 : EVT t σ H b) : EVT (tNot t) σ H (!b) := fun H1 e _ q => h1 H1 e _ fun H2 e2 => q H2 e2
theorem ev_andV (h1 : EV ta σ H (D K (.bool b))) (h2 : b = true → EV tb σ H (D K (.bool c))) : EV (tAndV ta tb) σ H (D K (.bool (b && c))) := fun H1 e Q q => h1 H1 e _ fun v H2 e2 p => ⟨b, dp_bool p, by
  cases b with
  | true => exact h2 rfl H2 (e.trans e2) Q fun w H3 e3 r => q w H3 (e2.trans e3) r
  | false => exact q _ H2 e2 (.bl _)⟩
theorem ev_orV (h1 : EV ta σ H (D K (.bool b))) (h2 : b = false → EV tb σ H (D K (.bool c))) : EV (tOrV ta tb) σ H (D K (.bool (b || c))) := fun H1 e Q q => h1 H1 e _ fun v H2 e2 p => ⟨b, dp_bool p, by
  cases b with
  | true => exact q _ H2 e2 (.bl _)
  | false => exact h2 rfl H2 (e.trans e2) Q fun w H3 e3 r => q w H3 (e2.trans e3) r⟩
theorem ev_notV (h1 : EV ta σ H (D K (.bool b))) : EV (tNotV ta) σ H (D K (.bool (!b))) := fun H1 e _ q => h1 H1 e _ fun v H2 e2 p => ⟨b, dp_bool p, q _ H2 e2 (.bl _)⟩
/-- a < b < c of ints -/
theorem ev_chain {f g : Int → Int → Bool} {i j k : Int} (ha : EV ta σ H (D K (.int i))) (hb : EV tb σ H (D K (.int j))) (hc : EV tc σ H (D K (.int k))) :
    EV (tChain (rI0 fun i j => .bl (f i j)) (rI0 fun i j => .bl (g i j)) ta tb tc) σ H (D K (.bool (f i j && g j k))) := fun H1 e Q q =>
  ha H1 e _ fun x H2 e2 px => hb H2 (e.trans e2) _ fun y H3 e3 py => ⟨i, j, dp_int px, dp_int py, f i j, rfl, by
    cases hf : f i j with
    | true =>
      refine iteT (hc H3 ((e.trans e2).trans e3) _ fun z H4 e4 pz => ⟨j, k, dp_int py, dp_int pz, q _ H4 ((e2.trans e3).trans e4) ?_⟩)
      rw [hf]; exact .bl _
    | false =>
      refine iteF (q _ H3 (e2.trans e3) ?_)
      rw [hf]; exact .bl _⟩

/-! ### statements: s_ the last one, q_ with something behind -/
variable {E : Ends} {tu tw tz : TS} {g : TG}
theorem s_asg {i : Nat} (h : EV te σ H P) (k : ∀ v H1, Same H H1 → P v H1 → E.nx (σ.set i (some v)) H1) : tAsg te (gName i) E σ H := h.go k
theorem q_asg {i : Nat} (h : EV te σ H P) (k : ∀ v H1, Same H H1 → P v H1 → tz E (σ.set i (some v)) H1) : tSeq (tAsg te (gName i)) tz E σ H := h.go k
theorem s_ret (h : EV te σ H P) (k : ∀ v H1, Same H H1 → P v H1 → E.rt v H1) : tRet te E σ H := h.go k
theorem s_if (h : EVT t σ H b) (h1 : b = true → ∀ H1, Same H H1 → tu E σ H1) (h2 : b = false → ∀ H1, Same H H1 → tw E σ H1) : tIfS t tu tw E σ H := h.go fun H1 e => by
  cases b with
  | true => exact iteT (h1 rfl H1 e)
  | false => exact iteF (h2 rfl H1 e)
theorem q_if (h : EVT t σ H b) (h1 : b = true → ∀ H1, Same H H1 → tu { E with nx := tz E } σ H1) (h2 : b = false → ∀ H1, Same H H1 → tw { E with nx := tz E } σ H1) : tSeq (tIfS t tu tw) tz E σ H :=
  s_if (E := { E with nx := tz E }) h h1 h2
theorem s_drop (h : EV te σ H P) (k : ∀ v H1, Same H H1 → P v H1 → E.nx σ H1) : tDrop te E σ H := h.go k
theorem q_drop (h : EV te σ H P) (k : ∀ v H1, Same H H1 → P v H1 → tz E σ H1) : tSeq (tDrop te) tz E σ H := h.go k
end
end SPw
namespace SPw
open PySem PySem.Spec PyProof.Rows L2
/-! ### data without lists: it stays while lists, dicts and instances change -/
mutual
def nl : PyData → Bool
  | .list _ => false
  | .dict _ => false
  | .tuple xs => nlAll xs
  | _ => true
def nlAll : List PyData → Bool
  | [] => true
  | d :: ds => nl d && nlAll ds
end
theorem nlAll_iff : ∀ {ds : List PyData}, nlAll ds = true ↔ ∀ d ∈ ds, nl d = true
  | [] => by simp [nlAll]
  | d :: ds => by simp [nlAll, nlAll_iff (ds := ds)]
mutual
theorem dp_off {K : PySem.W.Frag} {H : Hp} {p : Addr} {o : HO} (hp : ∀ ys, ¬ Rd H p (.tup ys)) : ∀ (d : PyData) (v : V), nl d = true → Tp K H v d → Tp K (upd H p o) v d
  | .none, _, _, h => by cases h; exact .non
  | .bool _, _, _, h => by cases h; exact .bl _
  | .int _, _, _, h => by cases h; exact .int _
  | .str _, _, _, h => by cases h; exact .str _
  | .list _, _, n, _ => by simp [nl] at n
  | .dict _, _, n, _ => by simp [nl] at n
  | .tuple ds, _, n, h => by
    cases h with
    | @tup a xs _ hs ha =>
      refine .tup ?_ (dpAll_off hp ds _ (by simpa [nl] using n) ha)
      have ne : a ≠ p := fun e => hp xs (e ▸ .inl hs)
      rw [upd_ne ne]; exact hs
theorem dpAll_off {K : PySem.W.Frag} {H : Hp} {p : Addr} {o : HO} (hp : ∀ ys, ¬ Rd H p (.tup ys)) : ∀ (ds : List PyData) (vs : List V), nlAll ds = true → TpAll K H vs ds → TpAll K (upd H p o) vs ds
  | [], _, _, h => by cases h; exact .nil
  | d :: ds, _, n, h => by
    cases h with
    | cons h1 h2 =>
      have n' : nl d = true ∧ nlAll ds = true := by simpa [nlAll] using n
      exact .cons (dp_off hp d _ n'.1 h1) (dpAll_off hp ds _ n'.2 h2)
end
theorem notup_lst {H : Hp} {p : Addr} {xs : List V} (h : H p = some (.lst xs)) : ∀ ys, ¬ Rd H p (.tup ys) := fun ys z => by
  rcases z with z | ⟨o, z⟩ <;> (rw [h] at z; cases z)
theorem notup_dT {H : Hp} {p : Addr} {xs : List (List Key × V)} (h : H p = some (.dT xs)) : ∀ ys, ¬ Rd H p (.tup ys) := fun ys z => by
  rcases z with z | ⟨o, z⟩ <;> (rw [h] at z; cases z)

/-- a tracked list of data -/
def LD (K : PySem.W.Frag) (ds : List PyData) : VP := fun v H => ∃ a ys, v = .ref a ∧ H a = some (.lst ys) ∧ TpAll K H ys ds
instance (K : PySem.W.Frag) (ds : List PyData) : Mono (LD K ds) := ⟨fun e h => by
  obtain ⟨a, ys, rfl, h1, h2⟩ := h
  exact ⟨a, ys, rfl, e _ _ h1, h2.same e⟩⟩
theorem LD.d {K : PySem.W.Frag} {ds : List PyData} {v : V} {H : Hp} (h : LD K ds v H) : D K (.list ds) v H := by
  obtain ⟨a, ys, rfl, h1, h2⟩ := h
  exact dp_new_list h1 h2
theorem EV.ld {K : PySem.W.Frag} {ds : List PyData} {te : TE} {σ : Slots} {H : Hp} (h : EV te σ H (LD K ds)) : EV te σ H (D K (.list ds)) := h.imp fun _ _ _ p => p.d

/-! ### comprehensions -/
section
variable {K : PySem.W.Frag} {σ : Slots} {H H' : Hp} {ta tb tc te tl : TE} {P R S : VP} {tt : TT}
variable {α : Type}
/-- the list of a comprehension behind i turns -/
def Made (K : PySem.W.Frag) (H0 : Hp) (L : Addr) (ds : List PyData) (H' : Hp) : Prop := H0 L = none ∧ Same H0 H' ∧ ∃ ys, H' L = some (.lst ys) ∧ TpAll K H' ys ds
theorem made_turn {H0 : Hp} {L : Addr} {ds : List PyData} {b : Bool} {d : PyData} {σ2 : Slots} (m : Made K H0 L ds H') (hn : nlAll ds = true) (hl : ds.length < 1000000) (ht : EVT tt σ2 H' b) (he : b = true → EV te σ2 H' (D K d)) (nd : nl d = true) :
    tt σ2 H' fun b' H3 => if b' = true then te σ2 H3 fun y H4 => ∃ acc, H4 L = some (.lst acc) ∧ acc.length < sizeLine ∧ Made K H0 L (if b = true then ds ++ [d] else ds) (upd H4 L (.lst (acc ++ [y]))) else Made K H0 L (if b = true then ds ++ [d] else ds) H3 := by
  obtain ⟨m1, m2, ys, m3, m4⟩ := m
  refine ht.go fun H3 e3 => ?_
  cases b with
  | true =>
    refine iteT (((he rfl).up e3).go fun y H4 e4 py => ?_)
    have h4 : H4 L = some (.lst ys) := e4 _ _ (e3 _ _ m3)
    refine ⟨ys, h4, Nat.lt_of_lt_of_le (by rw [m4.len]; exact hl) (show (1000000 : Nat) ≤ sizeLine by decide), m1, same_mut ((m2.trans e3).trans e4) m1, _, upd_same, ?_⟩
    rw [if_pos rfl]
    exact TpAll.app (dpAll_off (notup_lst h4) _ _ hn (m4.same (e3.trans e4))) (.cons (dp_off (notup_lst h4) _ _ nd py) .nil)
  | false =>
    refine iteF ⟨m1, m2.trans e3, ys, e3 _ _ m3, ?_⟩
    rw [if_neg Bool.false_ne_true]
    exact m4.same e3
def gath (p : α → Bool) (e : α → PyData) (xs : List α) : List PyData := (xs.filter p).map e
theorem gath_len (p : α → Bool) (e : α → PyData) (xs : List α) : (gath p e xs).length ≤ xs.length := by
  unfold gath; rw [List.length_map]; exact List.length_filter_le _ _
theorem gath_nl {p : α → Bool} {e : α → PyData} {xs : List α} (h : ∀ a, nl (e a) = true) : nlAll (gath p e xs) = true := by
  rw [nlAll_iff]; unfold gath
  intro d hd
  obtain ⟨a, _, rfl⟩ := List.mem_map.mp hd
  exact h a
theorem gath_snoc (p : α → Bool) (e : α → PyData) (xs : List α) (i : Nat) (a : α) (h : xs[i]? = some a) : gath p e (xs.take (i + 1)) = if p a = true then gath p e (xs.take i) ++ [e a] else gath p e (xs.take i) := by
  unfold gath
  rw [List.take_add_one, h]
  show (List.filter p (xs.take i ++ [a])).map e = _
  rw [List.filter_append, List.map_append]
  cases hp : p a with
  | true => simp [List.filter_cons, hp]
  | false => simp [List.filter_cons, hp]
theorem gath_all (e : α → PyData) (xs : List α) : gath (fun _ => true) e xs = xs.map e := by
  unfold gath; rw [List.filter_eq_self.mpr (fun _ _ => rfl)]
/-- the item's reading: the target's store, the test, the element -/
def Item (K : PySem.W.Frag) (g : TG) (tt : TT) (te : TE) (σ : Slots) (vs : List Nat) (x : V) (H : Hp) (b : Bool) (d : PyData) : Prop :=
  ∀ H1, Same H H1 → ∀ Q : Slots → Hp → Prop, (∀ σ2 H2, Same H1 H2 → wipe σ2 vs = wipe σ vs → EVT tt σ2 H2 b → (b = true → EV te σ2 H2 (D K d)) → Q σ2 H2) → g x (wipe σ vs) H1 Q
theorem item_name {j : Nat} {vs : List Nat} {x : V} {b : Bool} {d : PyData} (hw : wipe ((wipe σ vs).set j (some x)) vs = wipe σ vs)
    (ht : EVT tt ((wipe σ vs).set j (some x)) H b) (he : b = true → EV te ((wipe σ vs).set j (some x)) H (D K d)) : Item K (gName j) tt te σ vs x H b d := fun H1 e Q q =>
  q _ H1 (Same.refl _) hw (ht.up e) fun hb => (he hb).up e
theorem item_two {j k : Nat} {vs : List Nat} {a : Addr} {x y : V} {b : Bool} {d : PyData} (hx : SqT K H a [x, y]) (hw : wipe (((wipe σ vs).set j (some x)).set k (some y)) vs = wipe σ vs)
    (ht : EVT tt (((wipe σ vs).set j (some x)).set k (some y)) H b) (he : b = true → EV te (((wipe σ vs).set j (some x)).set k (some y)) H (D K d)) : Item K (gTup K 2 (gCons (gName j) (gCons (gName k) gNil))) tt te σ vs (.ref a) H b d := fun H1 e Q q =>
  ⟨a, [x, y], rfl, same_tup e hx, rfl, x, [y], rfl, y, [], rfl, rfl, q _ H1 (Same.refl _) hw (ht.up e) fun hb => (he hb).up e⟩
/-- over a list that is data -/
theorem ev_lcLN {xs : List α} {enc : α → PyData} {p : α → Bool} {e : α → PyData} {g : TG} {vs : List Nat} (h : EV tl σ H (D K (.list (xs.map enc)))) (hz : xs.length < 1000000) (hn : ∀ a, nl (e a) = true)
    (hi : ∀ a ∈ xs, ∀ x H1, Same H H1 → Tp K H1 x (enc a) → Item K g tt te σ vs x H1 (p a) (e a)) : EV (tLc (iList K tl) g tt te vs) σ H (LD K (gath p e xs)) := fun H0 e0 Q q =>
  h H0 e0 _ fun v H1 e1 pv => by
    obtain ⟨a, ys, rfl, hs, hA⟩ := dp_list pv
    have hl : ys.length = xs.length := by rw [hA.len, List.length_map]
    refine ⟨a, rfl, ⟨ys, hs⟩, fun L nL => lc_list (xs := ys) (fun i H' => Made K H1 L (gath p e (xs.take i)) H') ⟨nL, same_new nL, [], upd_same, .nil⟩ (fun i H' _ m => m.2.1.seq hs) ?_ ?_⟩
    · intro i x H' hx m
      obtain ⟨d, hd, dx⟩ := hA.at hx
      rw [List.getElem?_map] at hd
      obtain ⟨b, hb, rfl⟩ := Option.map_eq_some_iff.mp hd
      have hil : i < xs.length := (List.getElem?_eq_some_iff.mp hb).1
      refine hi b (List.mem_of_getElem? hb) x H' ((e0.trans e1).trans m.2.1) (dx.same m.2.1) H' (Same.refl _) _ fun σ2 H2 e2 w2 t2 v2 => ⟨w2, ?_⟩
      rw [gath_snoc p e xs i b hb]
      obtain ⟨m1, m2, zs, m3, m4⟩ := m
      exact made_turn ⟨m1, m2.trans e2, zs, e2 _ _ m3, m4.same e2⟩ (gath_nl hn) (Nat.lt_of_le_of_lt (gath_len _ _ _) (by rw [List.length_take]; omega)) t2 v2 (hn b)
    · intro H' m
      rw [hl, List.take_length] at m
      obtain ⟨m1, m2, zs, m3, m4⟩ := m
      exact q _ H' (e1.trans m2) ⟨_, _, rfl, m3, m4⟩
theorem ev_lcL {xs : List α} {enc : α → PyData} {p : α → Bool} {e : α → PyData} {g : TG} {vs : List Nat} (h : EV tl σ H (D K (.list (xs.map enc)))) (hz : xs.length < 1000000) (hn : ∀ a, nl (e a) = true)
    (hi : ∀ a ∈ xs, ∀ x H1, Same H H1 → Tp K H1 x (enc a) → Item K g tt te σ vs x H1 (p a) (e a)) : EV (tLc (iList K tl) g tt te vs) σ H (D K (.list (gath p e xs))) := (ev_lcLN h hz hn hi).ld
/-- over a tuple that is data -/
theorem ev_lcTN {xs : List α} {enc : α → PyData} {p : α → Bool} {e : α → PyData} {g : TG} {vs : List Nat} (h : EV tl σ H (D K (.tuple (xs.map enc)))) (hz : xs.length < 1000000) (hn : ∀ a, nl (e a) = true)
    (hi : ∀ a ∈ xs, ∀ x H1, Same H H1 → Tp K H1 x (enc a) → Item K g tt te σ vs x H1 (p a) (e a)) : EV (tLc (iTup K tl) g tt te vs) σ H (LD K (gath p e xs)) := fun H0 e0 Q q =>
  h H0 e0 _ fun v H1 e1 pv => by
    obtain ⟨a, ys, rfl, hs, hA⟩ := dp_tup pv
    have hl : ys.length = xs.length := by rw [hA.len, List.length_map]
    refine ⟨a, rfl, ⟨ys, hs⟩, fun L nL => lc_tup (xs := ys) (fun i H' => Made K H1 L (gath p e (xs.take i)) H') ⟨nL, same_new nL, [], upd_same, .nil⟩ (fun i H' _ m => same_tup m.2.1 hs) ?_ ?_⟩
    · intro i x H' hx m
      obtain ⟨d, hd, dx⟩ := hA.at hx
      rw [List.getElem?_map] at hd
      obtain ⟨b, hb, rfl⟩ := Option.map_eq_some_iff.mp hd
      have hil : i < xs.length := (List.getElem?_eq_some_iff.mp hb).1
      refine hi b (List.mem_of_getElem? hb) x H' ((e0.trans e1).trans m.2.1) (dx.same m.2.1) H' (Same.refl _) _ fun σ2 H2 e2 w2 t2 v2 => ⟨w2, ?_⟩
      rw [gath_snoc p e xs i b hb]
      obtain ⟨m1, m2, zs, m3, m4⟩ := m
      exact made_turn ⟨m1, m2.trans e2, zs, e2 _ _ m3, m4.same e2⟩ (gath_nl hn) (Nat.lt_of_le_of_lt (gath_len _ _ _) (by rw [List.length_take]; omega)) t2 v2 (hn b)
    · intro H' m
      rw [hl, List.take_length] at m
      obtain ⟨m1, m2, zs, m3, m4⟩ := m
      exact q _ H' (e1.trans m2) ⟨_, _, rfl, m3, m4⟩
theorem ev_lcT {xs : List α} {enc : α → PyData} {p : α → Bool} {e : α → PyData} {g : TG} {vs : List Nat} (h : EV tl σ H (D K (.tuple (xs.map enc)))) (hz : xs.length < 1000000) (hn : ∀ a, nl (e a) = true)
    (hi : ∀ a ∈ xs, ∀ x H1, Same H H1 → Tp K H1 x (enc a) → Item K g tt te σ vs x H1 (p a) (e a)) : EV (tLc (iTup K tl) g tt te vs) σ H (D K (.list (gath p e xs))) := (ev_lcTN h hz hn hi).ld
/-- over range(n) -/
theorem ev_lcRN {ta : TA} {n : Int} {p : Nat → Bool} {e : Nat → PyData} {g : TG} {vs : List Nat} (h : EVA ta σ H [D K (.int n)]) (hz : n < 1000000) (hz0 : -1000000 < n) (hn : ∀ a, nl (e a) = true)
    (hi : ∀ a : Nat, (a : Int) < n → ∀ H1, Same H H1 → Item K g tt te σ vs (.int (a : Int)) H1 (p a) (e a)) : EV (tLc (iRng1 ta) g tt te vs) σ H (LD K (gath p e (List.range n.toNat))) := fun H0 e0 Q q =>
  h H0 e0 _ fun ws H1 e1 pv => by
    obtain ⟨v, rfl, hv⟩ := allP1 pv
    refine ⟨n, by rw [dp_int hv], by omega, by omega, fun L nL => lc_range (lo := 0) (n := n.toNat) (fun i H' => Made K H1 L (gath p e ((List.range n.toNat).take i)) H') ⟨nL, same_new nL, [], upd_same, .nil⟩ ?_ ?_⟩
    · intro i H' hx m
      have hb : (List.range n.toNat)[i]? = some i := by rw [List.getElem?_range hx]
      have e00 : (0 : Int) + (i : Int) = (i : Int) := Int.zero_add _
      rw [e00]
      refine hi i (by omega) H' ((e0.trans e1).trans m.2.1) H' (Same.refl _) _ fun σ2 H2 e2 w2 t2 v2 => ⟨w2, ?_⟩
      rw [gath_snoc p e _ i i hb]
      obtain ⟨m1, m2, zs, m3, m4⟩ := m
      exact made_turn ⟨m1, m2.trans e2, zs, e2 _ _ m3, m4.same e2⟩ (gath_nl hn) (Nat.lt_of_le_of_lt (gath_len _ _ _) (by rw [List.length_take, List.length_range]; omega)) t2 v2 (hn i)
    · intro H' m
      rw [List.take_of_length_le (by rw [List.length_range]; exact Nat.le_refl _)] at m
      obtain ⟨m1, m2, zs, m3, m4⟩ := m
      exact q _ H' (e1.trans m2) ⟨_, _, rfl, m3, m4⟩
theorem ev_lcR {ta : TA} {n : Int} {p : Nat → Bool} {e : Nat → PyData} {g : TG} {vs : List Nat} (h : EVA ta σ H [D K (.int n)]) (hz : n < 1000000) (hz0 : -1000000 < n) (hn : ∀ a, nl (e a) = true)
    (hi : ∀ a : Nat, (a : Int) < n → ∀ H1, Same H H1 → Item K g tt te σ vs (.int (a : Int)) H1 (p a) (e a)) : EV (tLc (iRng1 ta) g tt te vs) σ H (D K (.list (gath p e (List.range n.toNat)))) := (ev_lcRN h hz hz0 hn hi).ld
theorem ev_vi {i : Nat} {n : Int} (h : σ[i]? = some (some (.int n))) : EV (tVar i) σ H (D K (.int n)) := ev_var h (.int _)
theorem evt_yes : EVT tYes σ H true := fun H1 _ _ q => q H1 (Same.refl _)

/-! ### for -/
variable {E : Ends} {tu tz : TS} {g : TG}
theorem s_forR {ta : TA} {n : Int} (h : EVA ta σ H [D K (.int n)]) (hz : -1000000 < n) (hz2 : n < 1000000) (Pv : Nat → Slots → Hp → Prop) (h0 : ∀ H1, Same H H1 → Pv 0 σ H1)
    (hs : ∀ (i : Nat) σ' H', (i : Int) < n → Pv i σ' H' → g (.int (i : Int)) σ' H' fun σ2 H2 => tu { E with nx := Pv (i + 1), ct := Pv (i + 1), bk := E.nx } σ2 H2) (hd : ∀ σ' H', Pv n.toNat σ' H' → E.nx σ' H') : tFor (iRng1 ta) g tu E σ H :=
  h.go fun vs H1 e ps => by
    obtain ⟨v, rfl, hv⟩ := allP1 ps
    refine ⟨n, by rw [dp_int hv], by omega, by omega, for_range (lo := 0) (n := n.toNat) Pv (h0 H1 e) (fun i σ' H' hi p => ?_) hd⟩
    have e00 : (0 : Int) + (i : Int) = (i : Int) := Int.zero_add _
    rw [e00]
    exact hs i σ' H' (by omega) p
theorem q_forR {ta : TA} {n : Int} (h : EVA ta σ H [D K (.int n)]) (hz : -1000000 < n) (hz2 : n < 1000000) (Pv : Nat → Slots → Hp → Prop) (h0 : ∀ H1, Same H H1 → Pv 0 σ H1)
    (hs : ∀ (i : Nat) σ' H', (i : Int) < n → Pv i σ' H' → g (.int (i : Int)) σ' H' fun σ2 H2 => tu { E with nx := Pv (i + 1), ct := Pv (i + 1), bk := tz E } σ2 H2) (hd : ∀ σ' H', Pv n.toNat σ' H' → tz E σ' H') : tSeq (tFor (iRng1 ta) g tu) tz E σ H :=
  s_forR (E := { E with nx := tz E }) h hz hz2 Pv h0 hs hd
end
end SPw
namespace SPw
open PySem PySem.Spec PyProof.Rows L2
/-! ### defs of the text, and what they promise -/
/-- a def of the module, under its name -/
structure DefAt (K : PySem.W.Frag) (mg : Str → Option Value) (x : Str) (st : Stmt) : Prop where
  ex : ∃ f fd, Fun K x x st f fd ∧ mg x = some (.ref f)
structure Cl (P : Program) (w : World) (K : PySem.W.Frag) (mg : Str → Option Value) (base : Heap) (k : Nat) (x : Str) (sp : Sp) : Prop where
  ex : ∃ f fd ps, FnOk P w K mg base CX0 k f fd ps sp ∧ mg x = some (.ref f) ∧ PySem.W.keepIn K (.ref f) = true ∧ Binds K fd ps []
section
variable {X : Cx} {k j : Nat} {x : Str} {sp : Sp} {p pos : Pos} {e : Expr} {es : List Expr} {t : TA}
theorem pe_k (c : Cl X.prog X.w X.K X.mg X.base k x sp) (hr : Room j X.A) (hk : k ≤ j) (hg : Gl X x) (ha : PA X (e :: es) t)
    (hdb : (x == ("__debug__" : Str)) = false := by decide) (he : starEach (e :: es) X.env = (false, eval e X.env) :: starEach es X.env := by rfl) (hpl : (backTo pos (starEach es X.env)).any (·.1) = false := by rfl) :
    PE X (.Call (.Name x p) (e :: es) [] pos) (tCall sp [] E0 t) := by
  obtain ⟨f, fd, ps, F, hm, kp, b⟩ := c.ex
  exact pe_call F (hr.mono hk) hg hm kp b .nil pass0 ha hdb he hpl
end
/-- the built-in names are the built-ins' -/
structure Txt (mg : Str → Option Value) : Prop where
  range : mg "range" = none
  len : mg "len" = none
  int : mg "int" = none
  tuple : mg "tuple" = none
  list : mg "list" = none
  dict : mg "dict" = none
  set : mg "set" = none
  zip : mg "zip" = none
  sum : mg "sum" = none
  all : mg "all" = none
  any : mg "any" = none
  sorted : mg "sorted" = none
  isinst : mg "isinstance" = none
  bool : mg "bool" = none
section
variable {P : Program} {w : World} {K : PySem.W.Frag} {mg : Str → Option Value} {base : Heap}
theorem mkCl {x : Str} {st : Stmt} {N ps : List Str} {k : Nat} {pre : List V → Hp → VP → Prop} (d : DefAt K mg x st)
    (hb : ∀ (kV doc pm : Value) (an : Option Addr) (cdv ct : Value) (us : List Value), us.length = ps.length → bindArgs (PySem.W.fnOf x x (defArgs st) (defBody st) (defScope st) .none kV doc pm an cdv ct) ⟨us, []⟩ = pure (ps.zip us))
    (S : FnScope N ps (defScope st)) (len : ∀ vs H S, pre vs H S → vs.length = ps.length)
    (hbody : ∀ (f : Addr) (cdv : Value) (A : Around) (outer : List Env) (s : Shared) (H : Hp) (vs : List V) (S : VP) (Q : VK) (E : XK), Room k (A.deeper (envOfC x (defScope st) s.heap.objs.size f cdv)) → pre vs H S → (∀ v H', Same H H' → S v H' → Q v H') →
      ∃ t, PSs (cxOf CX0 P w K mg base N x (defScope st) f cdv A outer s H E).nox (defBody st) t ∧ t { nx := fun _ H' => Q .non H', rt := Q } (start N vs) H) : Cl P w K mg base (k + 1) x (Prom pre) := by
  obtain ⟨f, fd, F, hm⟩ := d.ex
  refine ⟨f, fd, ps, F.ok S (fun vs H Q E h => ?_) (fun cdv A outer s H vs Q E hr h => ?_), hm, F.kp, F.binds hb⟩
  · obtain ⟨S', h1, _⟩ := h
    exact len _ _ _ h1
  · obtain ⟨S', h1, h2⟩ := h
    exact hbody f cdv A outer s H vs S' Q E hr h1 h2
end
end SPw
namespace SPw
open PySem PySem.Spec PyProof.Rows L2
/-! raised_number -/
/-- n taken k times, modulo p at each turn -/
def rn (p n : Int) : Nat → Int
  | 0 => 1
  | k + 1 => rn p n k * n % p
theorem rn_lo {p n : Int} (hp : 1 < p) : ∀ k, 0 ≤ rn p n k ∧ rn p n k < p
  | 0 => ⟨by show (0 : Int) ≤ 1; omega, hp⟩
  | k + 1 => ⟨Int.emod_nonneg _ (by omega), Int.emod_lt_of_pos _ (by omega)⟩
def preRaised (K : PySem.W.Frag) (vs : List V) (H : Hp) (S : VP) : Prop := ∃ (p n : Int) (k : Nat), vs = [.int p, .int n, .int k] ∧ 1 < p ∧ p < 10 ∧ k < 1000 ∧ S = D K (.int (rn p n k))
section
variable {P : Program} {w : World} {K : PySem.W.Frag} {mg : Str → Option Value} {base : Heap}
theorem scRaised : FnScope ["prime", "number", "exponent", "found", "_"] ["prime", "number", "exponent"] (defScope (top 11)) := ⟨rfl, rfl, rfl, by decide +kernel, rfl, by decide +kernel, by decide +kernel⟩
theorem cl_raised (T : Txt mg) (d : DefAt K mg "raised_number" (top 11)) : Cl P w K mg base 1 "raised_number" (Prom (preRaised K)) := by
  refine mkCl d (ps := ["prime", "number", "exponent"]) (fun _ _ _ _ _ _ us hl => match us, hl with | [_, _, _], _ => rfl) scRaised ?_ fun f cdv A outer s H vs S Q E hr h q => ?_
  · rintro vs H S ⟨p, n, k, rfl, _⟩; rfl
  · obtain ⟨p, n, k, rfl, hp, hp2, hk, rfl⟩ := h
    refine ⟨_, pss_cons (ps_set (i := 3) scRaised.nd rfl (.inl rfl) pe_int)
      (pss_cons (ps_for PassesOwn.never rfl (pi_range1 rfl T.range (pa_cons (pv 2) pa_nil)) (pg_name (i := 4) scRaised.nd rfl (.inl rfl))
        (pss_one (ps_set (i := 3) scRaised.nd rfl (.inl rfl) (pe_op op_mod (pe_op op_mul (pv 3) (pv 1)) (pv 0)))))
      (pss_one (ps_ret (pv 3)))), ?_⟩
    refine q_asg (P := D K (.int 1)) ev_int fun v H1 s1 hv => ?_
    refine q_forR (K := K) (n := (k : Int)) (eva_cons (ev_vi rfl) eva_nil) (by omega) (by omega)
      (fun i σ' H' => Same H1 H' ∧ ∃ y, σ' = [some (.int p), some (.int n), some (.int k), some (.int (rn p n i)), y]) (fun H2 s2 => ⟨s2, _, by rw [dp_int hv]; rfl⟩) ?_ ?_
    · rintro i σ' H' hi ⟨sm, y, rfl⟩
      refine s_asg (P := D K (.int (rn p n (i + 1)))) (ev_iiC (f := fun i j => i % j) (ev_iiC (f := fun i j => i * j) (ev_vi rfl) (ev_vi rfl) (.inl ?_)) (ev_vi rfl) (by omega)) fun v H2 s2 hv2 => ?_
      · have := rn_lo (n := n) hp i; omega
      · exact ⟨sm.trans s2, _, by rw [dp_int hv2]; rfl⟩
    · rintro σ' H' ⟨sm, y, rfl⟩
      rw [Int.toNat_natCast]
      exact s_ret (P := D K (.int (rn p n k))) (ev_vi rfl) fun v H2 s2 hv2 => q v H2 ((s1.trans sm).trans s2) hv2
end
end SPw
namespace SPw
open PySem PySem.Spec PyProof.Rows L2
/-! more forms: two fors in a comprehension, zip, slices, sums of lists and tuples -/
section
variable {K : PySem.W.Frag} {σ : Slots} {H H' : Hp} {ta tb tc te tl : TE} {P R S : VP} {tt : TT} {α : Type}
/-- [e for x in xs for k in range(n)], xs data, both targets names -/
theorem ev_lc2 {xs : List α} {enc : α → PyData} {n : Nat} {e : α → Nat → PyData} {j1 j2 : Nat} {vs vs1 : List Nat} {tr : TA} (h : EV tl σ H (D K (.list (xs.map enc)))) (hn : n < 1000000) (hz : (xs.flatMap fun a => (List.range n).map (e a)).length < 1000000) (hnl : ∀ a k, nl (e a k) = true)
    (hw : ∀ x, wipe ((wipe σ vs).set j1 (some x)) vs = wipe σ vs) (hw1 : ∀ x y, wipe ((wipe ((wipe σ vs).set j1 (some x)) vs1).set j2 (some y)) vs1 = wipe ((wipe σ vs).set j1 (some x)) vs1)
    (hr : ∀ x H1, Same H H1 → EVA tr ((wipe σ vs).set j1 (some x)) H1 [D K (.int (n : Int))])
    (he : ∀ a ∈ xs, ∀ k : Nat, k < n → ∀ x H1, Same H H1 → Tp K H1 x (enc a) → EV te ((wipe ((wipe σ vs).set j1 (some x)) vs1).set j2 (some (.int (k : Int)))) H1 (D K (e a k))) :
    EV (tLc2 (iList K tl) (gName j1) tYes (iRng1 tr) (gName j2) tYes te vs vs1) σ H (D K (.list (xs.flatMap fun a => (List.range n).map (e a)))) := fun H0 e0 Q q =>
  h H0 e0 _ fun v H1 e1 pv => by
    obtain ⟨a, ys, rfl, hs, hA⟩ := dp_list pv
    have hl : ys.length = xs.length := by rw [hA.len, List.length_map]
    refine ⟨a, rfl, ⟨ys, hs⟩, fun L nL => ?_⟩
    refine ⟨fun i m H' => m = xs.length - i ∧ i ≤ xs.length ∧ Made K H1 L ((xs.take i).flatMap fun a => (List.range n).map (e a)) H', ⟨xs.length, rfl, Nat.zero_le _, nL, same_new nL, [], upd_same, .nil⟩, ?_⟩
    rintro i m H2 ⟨rfl, hi, m1, m2, zs, m3, m4⟩
    by_cases hlt : i < xs.length
    · have hb : xs[i]? = some xs[i] := List.getElem?_eq_getElem hlt
      have hsplit : (xs.take (i + 1)).flatMap (fun a => (List.range n).map (e a)) = (xs.take i).flatMap (fun a => (List.range n).map (e a)) ++ (List.range n).map (e xs[i]) := by
        rw [List.take_add_one, hb, List.flatMap_append]
        simp
      have hpre : ((xs.take i).flatMap fun a => (List.range n).map (e a)).length + n ≤ (xs.flatMap fun a => (List.range n).map (e a)).length := by
        have e9 : xs.flatMap (fun a => (List.range n).map (e a)) = (xs.take (i + 1)).flatMap (fun a => (List.range n).map (e a)) ++ (xs.drop (i + 1)).flatMap (fun a => (List.range n).map (e a)) := by
          rw [← List.flatMap_append, List.take_append_drop]
        rw [e9, hsplit, List.length_append, List.length_append, List.length_map, List.length_range]
        omega
      have hy : ys[i]? = some (ys[i]'(by omega)) := List.getElem?_eq_getElem (by omega)
      refine .inr ⟨⟨ys, _, m2.seq hs, hy⟩, fun H3 => i + 1 ≤ xs.length ∧ Made K H1 L ((xs.take (i + 1)).flatMap fun a => (List.range n).map (e a)) H3, (fun H3 hh => ⟨xs.length - (i + 1), by omega, rfl, hh.1, hh.2⟩), fun x H3 yl => ?_⟩
      obtain ⟨rfl, fx⟩ := yl
      have hx := fx ys (m2.seq hs)
      obtain ⟨d, hd, dx⟩ := hA.at hx
      rw [List.getElem?_map, hb] at hd
      obtain rfl : enc xs[i] = d := Option.some.inj hd
      refine ⟨hw x, ?_⟩
      dsimp only [tYes]
      rw [if_pos rfl]
      refine hr x H3 ((e0.trans e1).trans m2) H3 (Same.refl _) _ fun ws H4 e4 pw => ?_
      obtain ⟨v, rfl, hv⟩ := allP1 pw
      refine ⟨(n : Int), by rw [dp_int hv], by omega, by omega, ?_⟩
      rw [Int.toNat_natCast]
      refine ⟨fun j k H5 => k = n - j ∧ j ≤ n ∧ Made K H1 L (((xs.take i).flatMap fun a => (List.range n).map (e a)) ++ ((List.range n).take j).map (e xs[i])) H5, ⟨n, rfl, Nat.zero_le _, m1, m2.trans e4, zs, e4 _ _ m3, ?_⟩, ?_⟩
      · rw [List.take_zero, List.map_nil, List.append_nil]; exact m4.same e4
      · rintro j k H5 ⟨rfl, hj, m5⟩
        by_cases hjn : j < n
        · have hbj : (List.range n)[j]? = some j := List.getElem?_range hjn
          refine .inr ⟨hjn, fun H6 => j + 1 ≤ n ∧ Made K H1 L (((xs.take i).flatMap fun a => (List.range n).map (e a)) ++ ((List.range n).take (j + 1)).map (e xs[i])) H6, (fun H6 hh => ⟨n - (j + 1), by omega, rfl, hh.1, hh.2⟩), fun y H6 yl => ?_⟩
          obtain ⟨rfl, rfl⟩ := yl
          have e00 : (0 : Int) + (j : Int) = (j : Int) := Int.zero_add _
          rw [e00]
          refine ⟨hw1 x _, ?_⟩
          dsimp only [tYes]
          rw [if_pos rfl]
          have m5' := m5
          obtain ⟨n1, n2, us, n3, n4⟩ := m5'
          have dx6 : Tp K H6 x (enc xs[i]) := dx.same n2
          have cur : (((xs.take i).flatMap fun a => (List.range n).map (e a)) ++ ((List.range n).take j).map (e xs[i])).length < 1000000 := by
            rw [List.length_append, List.length_map, List.length_take, List.length_range]; omega
          have nls : nlAll (((xs.take i).flatMap fun a => (List.range n).map (e a)) ++ ((List.range n).take j).map (e xs[i])) = true := by
            rw [nlAll_iff]
            intro d hd
            rcases List.mem_append.mp hd with hd | hd
            · obtain ⟨a, _, hd⟩ := List.mem_flatMap.mp hd
              obtain ⟨k, _, rfl⟩ := List.mem_map.mp hd
              exact hnl a k
            · obtain ⟨k, _, rfl⟩ := List.mem_map.mp hd
              exact hnl _ k
          have e10 : ((List.range n).take (j + 1)).map (e xs[i]) = ((List.range n).take j).map (e xs[i]) ++ [e xs[i] j] := by
            rw [List.take_add_one, hbj, List.map_append]; rfl
          rw [e10, ← List.append_assoc]
          have hmono := (he xs[i] (List.getElem_mem hlt) j hjn x H6 ((e0.trans e1).trans n2) dx6)
          refine hmono.go fun y H7 e7 py => ?_
          have h7 : H7 L = some (.lst us) := e7 _ _ n3
          refine ⟨us, h7, Nat.lt_of_lt_of_le (by rw [n4.len]; exact cur) (show (1000000 : Nat) ≤ sizeLine by decide), hjn, n1, same_mut (n2.trans e7) n1, _, upd_same, ?_⟩
          exact TpAll.app (dpAll_off (notup_lst h7) _ _ nls (n4.same e7)) (.cons (dp_off (notup_lst h7) _ _ (hnl _ _) py) .nil)
        · have e11 : j = n := by omega
          subst e11
          refine .inl ⟨Nat.le_refl _, hlt, ?_⟩
          rw [hsplit]
          rw [show (List.range j).take j = List.range j from List.take_of_length_le (by rw [List.length_range]; exact Nat.le_refl _)] at m5
          exact m5
    · have e12 : i = xs.length := by omega
      subst e12
      rw [List.take_length] at m4
      exact .inl ⟨⟨ys, m2.seq hs, by omega⟩, q _ H2 (e1.trans m2) (dp_new_list m3 m4)⟩
end
end SPw
namespace SPw
open PySem PySem.Spec PyProof.Rows L2
theorem sizeL : (1000000 : Nat) ≤ sizeLine := by decide
section
variable {X : Cx}
/-- sum(t), t a tuple of ints -/
def rSumTu (K : PySem.W.Frag) : List V → Hp → VK → Prop := fun vs H Q => ∃ (a : Addr) (ns : List Int), vs = [V.ref a] ∧ SqT K H a (ns.map V.int) ∧ Q (.int ns.sum) H
theorem cr_sumTu (hc : X.calm = true) : CallR X (.builtin "sum") (rSumTu X.K) := by
  intro pins s σ H vs us Q I r h
  obtain ⟨a, ns, rfl, hs, q⟩ := h
  obtain ⟨its, rv, hl, _⟩ := I.tuple hs
  rw [Vals.ref1 r]
  obtain ⟨xs, e⟩ := rv.ints.allInts.items
  have hn : numsOf (intItems xs).toList = ns := by rw [← e]; exact rv.ints.numsOf
  rw [nums_intItems] at hn
  obtain ⟨o, ho, hcl, hk⟩ := hl
  rw [e] at hk
  refine PySem.W.ktm_sumG (I.ok.hd hc) ⟨o, ho, hcl, hk⟩ fun h' tk t' hk => ?_
  rw [preSum_eq, List.take_of_length_le (by simp), hn]
  exact ⟨.int _, H, I.kept hk, ⟨_, rfl⟩, q⟩
end
section
variable {K : PySem.W.Frag} {σ : Slots} {H H' : Hp} {ta tb tc te tl : TE} {P R S : VP} {Ps : List VP} {tt : TT} {α β : Type}
theorem ev_sumT {ns : List Int} (h : EV te σ H (D K (.tuple (ns.map .int)))) : EV (tCB (rSumTu K) (tCons te tNil)) σ H (D K (.int ns.sum)) :=
  ev_cb (eva_cons h eva_nil) fun vs H1 _ ps Q q => by
    obtain ⟨v, rfl, p⟩ := allP1 ps
    obtain ⟨a, xs, rfl, hs, hA⟩ := dp_tup p
    exact ⟨a, ns, rfl, (by rw [← ints_dp hA]; exact hs), q _ H1 (Same.refl _) (.int _)⟩
/-- tuples put together -/
theorem ev_catT {ds es : List PyData} (ha : EV ta σ H (D K (.tuple ds))) (hb : EV tb σ H (D K (.tuple es))) (hl : ds.length + es.length ≤ 1000000) : EV (tOp (rCatA K) ta tb) σ H (D K (.tuple (ds ++ es))) :=
  ev_op ha hb fun x y H1 _ p q Q k => by
    obtain ⟨a, xs, rfl, hs, hA⟩ := dp_tupT p
    obtain ⟨b, ys, rfl, ht, hB⟩ := dp_tupT q
    have l1 := hA.len
    have l2 := hB.len
    refine ⟨a, b, xs, ys, rfl, rfl, SqT.of hs, SqT.of ht, Nat.le_trans (by omega) sizeL, fun e => ?_, fun e1 e2 => ?_, fun e1 e2 p np => ?_⟩
    · subst e
      cases hA
      exact k _ H1 (Same.refl _) (.tup ht hB)
    · subst e2
      cases hB
      rw [List.append_nil] at k
      exact k _ H1 (Same.refl _) (.tup hs hA)
    · exact k _ _ (same_new np) (dp_new_tup upd_same ((hA.app hB).same (same_new np)))
/-- tracked lists put together -/
theorem ev_catL {ds es : List PyData} (ha : EV ta σ H (LD K ds)) (hb : EV tb σ H (LD K es)) (hl : ds.length + es.length ≤ 1000000) : EV (tOp rCat ta tb) σ H (LD K (ds ++ es)) :=
  ev_op ha hb fun x y H1 _ p q Q k => by
    obtain ⟨a, xs, rfl, hs, hA⟩ := p
    obtain ⟨b, ys, rfl, ht, hB⟩ := q
    have l1 := hA.len
    have l2 := hB.len
    exact ⟨a, b, xs, ys, rfl, rfl, hs, ht, Nat.le_trans (by omega) sizeL, fun p np => k _ _ (same_new np) ⟨_, _, rfl, upd_same, (hA.app hB).same (same_new np)⟩⟩
theorem ev_lstN {ta : TA} {ds : List PyData} (h : EVA ta σ H (ds.map (D K))) (hl : ds.length ≤ 1000000) : EV (tLst ta) σ H (LD K ds) := fun H1 e _ q =>
  h H1 e _ fun vs H2 e2 ps => by
    have A := allP_dp ps
    refine ⟨Nat.le_trans (by rw [A.len]; exact hl) sizeL, fun p np => q _ _ (e2.trans (same_new np)) ⟨_, _, rfl, upd_same, A.same (same_new np)⟩⟩
theorem ev_lstLN {ds : List PyData} (h : EV te σ H (D K (.list ds))) : EV (tCB (rLstO K) (tCons te tNil)) σ H (LD K ds) :=
  ev_cb (eva_cons h eva_nil) fun vs H1 _ ps Q q => by
    obtain ⟨v, rfl, p⟩ := allP1 ps
    obtain ⟨a, xs, rfl, hs, hA⟩ := dp_list p
    exact ⟨a, xs, rfl, .inl hs, fun l nl => q _ _ (same_new nl) ⟨_, _, rfl, upd_same, hA.same (same_new nl)⟩⟩
theorem ev_revL {ds : List PyData} (h : EV te σ H (D K (.list ds))) : EV (tRevL K te) σ H (D K (.list ds.reverse)) := fun H1 e Q q =>
  h H1 e _ fun v H2 e2 p => by
    obtain ⟨a, xs, rfl, hs, hA⟩ := dp_list p
    exact ⟨a, xs, rfl, hs, fun l nl => q _ _ (e2.trans (same_new nl)) (dp_new_list upd_same (hA.rev.same (same_new nl)))⟩
/-! slices -/
def EVO (t : TO) (σ : Slots) (H : Hp) (o : Option Int) : Prop := ∀ H1, Same H H1 → ∀ Q : Option Int → Hp → Prop, (∀ H2, Same H1 H2 → Q o H2) → t σ H1 Q
theorem evo_none : EVO (fun _ H Q => Q none H) σ H none := fun H1 _ _ q => q H1 (Same.refl _)
theorem evo_some {i : Int} (h : EV te σ H (D K (.int i))) : EVO (tPart te) σ H (some i) := fun H1 e _ q => h H1 e _ fun v H2 e2 p => ⟨i, dp_int p, q H2 e2⟩
def cutD (ds : List PyData) (lo hi : Option Int) : List PyData := (ds.drop (HT.sIx ds.length 0 lo)).take (HT.sIx ds.length ds.length hi - HT.sIx ds.length 0 lo)
theorem cut_dp {vs : List V} {ds : List PyData} {lo hi : Option Int} (h : TpAll K H vs ds) : TpAll K H (cutV vs lo hi) (cutD ds lo hi) := by
  unfold cutV cutD
  rw [h.len]
  exact (h.drop _).take _
theorem ev_slL {ds : List PyData} {t1 t2 : TO} {lo hi : Option Int} (h : EV te σ H (D K (.list ds))) (h1 : EVO t1 σ H lo) (h2 : EVO t2 σ H hi) : EV (tSl (rSlL K) te t1 t2) σ H (LD K (cutD ds lo hi)) := fun H0 e Q q =>
  h H0 e _ fun v H1 e1 p => h1 H1 (e.trans e1) _ fun H2 e2 => h2 H2 ((e.trans e1).trans e2) _ fun H3 e3 => by
    obtain ⟨a, xs, rfl, hs, hA⟩ := dp_list p
    exact ⟨a, xs, rfl, (e2.trans e3).seq hs, fun l nl => q _ _ (((e1.trans e2).trans e3).trans (same_new nl)) ⟨_, _, rfl, upd_same, (cut_dp hA).same ((e2.trans e3).trans (same_new nl))⟩⟩
theorem ev_slT {ds : List PyData} {t1 t2 : TO} {lo hi : Option Int} (h : EV te σ H (D K (.tuple ds))) (h1 : EVO t1 σ H lo) (h2 : EVO t2 σ H hi) : EV (tSl (rSlA K) te t1 t2) σ H (D K (.tuple (cutD ds lo hi))) := fun H0 e Q q =>
  h H0 e _ fun v H1 e1 p => h1 H1 (e.trans e1) _ fun H2 e2 => h2 H2 ((e.trans e1).trans e2) _ fun H3 e3 => by
    obtain ⟨a, xs, rfl, hs, hA⟩ := dp_tupT p
    have hl := hA.len
    refine ⟨a, xs, rfl, same_tup (e2.trans e3) (SqT.of hs), fun w => ?_, fun _ l nl => q _ _ (((e1.trans e2).trans e3).trans (same_new nl)) (dp_new_tup upd_same ((cut_dp hA).same ((e2.trans e3).trans (same_new nl))))⟩
    refine q _ _ ((e1.trans e2).trans e3) ?_
    have hw : cutD ds lo hi = ds := by
      unfold cutD
      rw [← hl, w.1, w.2, hl]
      simp
    rw [hw]
    exact (Tp.tup hs hA).same (e2.trans e3)
theorem cutD_hi (ds : List PyData) (k : Nat) : cutD ds none (some (k : Int)) = ds.take k := by
  unfold cutD
  rw [HT.sIx_none, HT.sIx_nat, List.drop_zero, Nat.sub_zero, List.take_eq_take_iff]
  omega
theorem cutD_lo (ds : List PyData) (k : Nat) : cutD ds (some (k : Int)) none = ds.drop k := by
  unfold cutD
  rw [HT.sIx_none, HT.sIx_nat]
  by_cases h : k ≤ ds.length
  · rw [Nat.min_eq_left h, List.take_of_length_le (by rw [List.length_drop]; exact Nat.le_refl _)]
  · rw [Nat.min_eq_right (by omega), List.drop_of_length_le (Nat.le_refl _), List.drop_of_length_le (by omega)]; simp
theorem cutD_two (ds : List PyData) (i j : Nat) (h1 : i ≤ j) (h2 : j ≤ ds.length) : cutD ds (some (i : Int)) (some (j : Int)) = (ds.drop i).take (j - i) := by
  unfold cutD
  rw [HT.sIx_nat, HT.sIx_nat, Nat.min_eq_left h2, Nat.min_eq_left (show i ≤ ds.length by omega)]
/-! for over data -/
variable {E : Ends} {tu tz : TS} {g : TG}
theorem s_forL {ds : List PyData} (h : EV te σ H (D K (.list ds))) (Pv : Nat → Slots → Hp → Prop) (h0 : ∀ H1, Same H H1 → Pv 0 σ H1)
    (hk : ∀ a xs H1, Same H H1 → SqL K H1 a xs → TpAll K H1 xs ds → (∀ H2, Same H H2 → Pv 0 σ H2) → (∀ i σ' H', i ≤ ds.length → Pv i σ' H' → SqL K H' a xs ∧ TpAll K H' xs ds))
    (hs : ∀ (i : Nat) d x σ' H', ds[i]? = some d → Pv i σ' H' → Tp K H' x d → g x σ' H' fun σ2 H2 => tu { E with nx := Pv (i + 1), ct := Pv (i + 1), bk := E.nx } σ2 H2) (hd : ∀ σ' H', Pv ds.length σ' H' → E.nx σ' H') : tFor (iList K te) g tu E σ H :=
  h.go fun v H1 e p => by
    obtain ⟨a, xs, rfl, hq, hA⟩ := dp_list p
    have hl := hA.len
    have keep := hk a xs H1 e hq hA h0
    refine ⟨a, rfl, ⟨xs, hq⟩, for_list (xs := xs) Pv (h0 H1 e) (fun i σ' H' hi pv => (keep i σ' H' (by omega) pv).1) (fun i x σ' H' hx pv => ?_) (fun σ' H' pv => hd σ' H' (by rw [← hl]; exact pv))⟩
    have hi : i < xs.length := (List.getElem?_eq_some_iff.mp hx).1
    obtain ⟨d, hd', dx⟩ := ((keep i σ' H' (by omega) pv).2).at hx
    exact hs i d x σ' H' hd' pv dx
/-- a loop that leaves all that stood -/
theorem s_forLk {ds : List PyData} (h : EV te σ H (D K (.list ds))) (Pv : Nat → Slots → Hp → Prop)
    (hs : ∀ H0, Same H H0 → ∀ (i : Nat) d x σ' H', ds[i]? = some d → Same H0 H' → Pv i σ' H' → Tp K H' x d → g x σ' H' fun σ2 H2 => tu { E with nx := fun a b => Same H0 b ∧ Pv (i + 1) a b, ct := fun a b => Same H0 b ∧ Pv (i + 1) a b, bk := E.nx } σ2 H2)
    (h0 : ∀ H1, Same H H1 → Pv 0 σ H1) (hd : ∀ σ' H', Same H H' → Pv ds.length σ' H' → E.nx σ' H') : tFor (iList K te) g tu E σ H :=
  h.go fun v H1 e p => by
    obtain ⟨a, xs, rfl, hq, hA⟩ := dp_list p
    have hl := hA.len
    refine ⟨a, rfl, ⟨xs, hq⟩, for_list (xs := xs) (fun i a b => Same H1 b ∧ Pv i a b) ⟨Same.refl _, h0 H1 e⟩ (fun i σ' H' hi pv => pv.1.seq hq) (fun i x σ' H' hx pv => ?_) (fun σ' H' pv => hd σ' H' (e.trans pv.1) (by rw [← hl]; exact pv.2))⟩
    obtain ⟨d, hd', dx⟩ := (hA.same pv.1).at hx
    exact hs H1 e i d x σ' H' hd' pv.1 pv.2 dx
theorem q_forLk {ds : List PyData} (h : EV te σ H (D K (.list ds))) (Pv : Nat → Slots → Hp → Prop)
    (hs : ∀ H0, Same H H0 → ∀ (i : Nat) d x σ' H', ds[i]? = some d → Same H0 H' → Pv i σ' H' → Tp K H' x d → g x σ' H' fun σ2 H2 => tu { E with nx := fun a b => Same H0 b ∧ Pv (i + 1) a b, ct := fun a b => Same H0 b ∧ Pv (i + 1) a b, bk := tz E } σ2 H2)
    (h0 : ∀ H1, Same H H1 → Pv 0 σ H1) (hd : ∀ σ' H', Same H H' → Pv ds.length σ' H' → tz E σ' H') : tSeq (tFor (iList K te) g tu) tz E σ H :=
  s_forLk (E := { E with nx := tz E }) h Pv hs h0 hd
theorem s_forTk {ds : List PyData} (h : EV te σ H (D K (.tuple ds))) (Pv : Nat → Slots → Hp → Prop)
    (hs : ∀ H0, Same H H0 → ∀ (i : Nat) d x σ' H', ds[i]? = some d → Same H0 H' → Pv i σ' H' → Tp K H' x d → g x σ' H' fun σ2 H2 => tu { E with nx := fun a b => Same H0 b ∧ Pv (i + 1) a b, ct := fun a b => Same H0 b ∧ Pv (i + 1) a b, bk := E.nx } σ2 H2)
    (h0 : ∀ H1, Same H H1 → Pv 0 σ H1) (hd : ∀ σ' H', Same H H' → Pv ds.length σ' H' → E.nx σ' H') : tFor (iTup K te) g tu E σ H :=
  h.go fun v H1 e p => by
    obtain ⟨a, xs, rfl, hq, hA⟩ := dp_tup p
    have hl := hA.len
    refine ⟨a, rfl, ⟨xs, hq⟩, for_tup (xs := xs) (fun i a b => Same H1 b ∧ Pv i a b) ⟨Same.refl _, h0 H1 e⟩ (fun i σ' H' hi pv => same_tup pv.1 hq) (fun i x σ' H' hx pv => ?_) (fun σ' H' pv => hd σ' H' (e.trans pv.1) (by rw [← hl]; exact pv.2))⟩
    obtain ⟨d, hd', dx⟩ := (hA.same pv.1).at hx
    exact hs H1 e i d x σ' H' hd' pv.1 pv.2 dx
theorem q_forTk {ds : List PyData} (h : EV te σ H (D K (.tuple ds))) (Pv : Nat → Slots → Hp → Prop)
    (hs : ∀ H0, Same H H0 → ∀ (i : Nat) d x σ' H', ds[i]? = some d → Same H0 H' → Pv i σ' H' → Tp K H' x d → g x σ' H' fun σ2 H2 => tu { E with nx := fun a b => Same H0 b ∧ Pv (i + 1) a b, ct := fun a b => Same H0 b ∧ Pv (i + 1) a b, bk := tz E } σ2 H2)
    (h0 : ∀ H1, Same H H1 → Pv 0 σ H1) (hd : ∀ σ' H', Same H H' → Pv ds.length σ' H' → tz E σ' H') : tSeq (tFor (iTup K te) g tu) tz E σ H :=
  s_forTk (E := { E with nx := tz E }) h Pv hs h0 hd
/-- for (x, y) in zip of two tuples of one length -/
theorem s_forZT {ds es : List PyData} {ti : TA} (h : EVA ti σ H [D K (.tuple ds), D K (.tuple es)]) (hl : ds.length = es.length) (Pv : Nat → Slots → Hp → Prop)
    (hs : ∀ H0, Same H H0 → ∀ (i : Nat) d e x y T σ' H', ds[i]? = some d → es[i]? = some e → Same H0 H' → Tp K H' x d → Tp K H' y e → SqT K H' T [x, y] → (∃ H2, Same H2 H' ∧ Pv i σ' H2) →
      g (.ref T) σ' H' fun σ2 H2 => tu { E with nx := fun a b => Same H0 b ∧ Pv (i + 1) a b, ct := fun a b => Same H0 b ∧ Pv (i + 1) a b, bk := E.nx } σ2 H2)
    (h0 : ∀ H1, Same H H1 → Pv 0 σ H1) (hd : ∀ σ' H', Same H H' → Pv ds.length σ' H' → E.nx σ' H') : tFor (RZ.iZipA K ti) g tu E σ H :=
  h.go fun vs H1 e0 ps => by
    obtain ⟨v1, v2, rfl, p1, p2⟩ := allP2 ps
    obtain ⟨a, xs, rfl, hq, hA⟩ := dp_tup p1
    obtain ⟨b, ys, rfl, hr, hB⟩ := dp_tup p2
    have l1 := hA.len
    have l2 := hB.len
    refine ⟨a, b, xs, ys, rfl, .inr ⟨hq, hr, RZ.for_zipT (xs := xs) (ys := ys) (by omega) (fun i a b => Same H1 b ∧ Pv i a b) ⟨Same.refl _, h0 H1 e0⟩ (fun i σ' H' pv => ⟨same_tup pv.1 hq, same_tup pv.1 hr⟩) (fun i x y T σ' H' hx hy pv nT => ?_) (fun σ' H' pv => hd σ' H' (e0.trans pv.1) (by rw [← l1]; exact pv.2))⟩⟩
    obtain ⟨d, hd', dx⟩ := (hA.same pv.1).at hx
    obtain ⟨e, he', dy⟩ := (hB.same pv.1).at hy
    exact hs H1 e0 i d e x y T σ' _ hd' he' (pv.1.trans (same_new nT)) (Tp.same (same_new nT) _ _ dx) (Tp.same (same_new nT) _ _ dy) (SqT.of upd_same) ⟨H', same_new nT, pv.2⟩
theorem q_forZT {ds es : List PyData} {ti : TA} (h : EVA ti σ H [D K (.tuple ds), D K (.tuple es)]) (hl : ds.length = es.length) (Pv : Nat → Slots → Hp → Prop)
    (hs : ∀ H0, Same H H0 → ∀ (i : Nat) d e x y T σ' H', ds[i]? = some d → es[i]? = some e → Same H0 H' → Tp K H' x d → Tp K H' y e → SqT K H' T [x, y] → (∃ H2, Same H2 H' ∧ Pv i σ' H2) →
      g (.ref T) σ' H' fun σ2 H2 => tu { E with nx := fun a b => Same H0 b ∧ Pv (i + 1) a b, ct := fun a b => Same H0 b ∧ Pv (i + 1) a b, bk := tz E } σ2 H2)
    (h0 : ∀ H1, Same H H1 → Pv 0 σ H1) (hd : ∀ σ' H', Same H H' → Pv ds.length σ' H' → tz E σ' H') : tSeq (tFor (RZ.iZipA K ti) g tu) tz E σ H :=
  s_forZT (E := { E with nx := tz E }) h hl Pv hs h0 hd
/-- two names from a pair -/
theorem g_two {a : Addr} {x y : V} {j k : Nat} {c : Slots → Hp → Prop} (h : SqT K H a [x, y]) (hc : c ((σ.set j (some x)).set k (some y)) H) : gTup K 2 (gCons (gName j) (gCons (gName k) gNil)) (.ref a) σ H c :=
  ⟨a, [x, y], rfl, h, rfl, x, [y], rfl, y, [], rfl, rfl, hc⟩
end
end SPw
namespace SPw
open PySem PySem.Spec PyProof.Rows L2
/-! the same readings with the known map named (a comprehension's block has it too) -/
section
variable {X : Cx} (K : PySem.W.Frag)
theorem op_catK (h : X.K = K := by rfl) : OpR X (binaryOp .Add) (rCatA K) := h ▸ op_catA
theorem ix_listK (h : X.K = K := by rfl) : IxR X (rIxL K) := h ▸ ix_list
theorem ix_tupK (h : X.K = K := by rfl) : IxR X (rIxT K) := h ▸ ix_tup
theorem sl_listK (h : X.K = K := by rfl) : SlR X (rSlL K) := h ▸ sl_list
theorem sl_tupK (h : X.K = K := by rfl) : SlR X (rSlA K) := h ▸ sl_tupA
theorem cr_lenK (h : X.K = K := by rfl) : CallR X (.builtin "len") (rLen K) := h ▸ cr_len
theorem cr_sumK (hc : X.calm = true := by rfl) (h : X.K = K := by rfl) : CallR X (.builtin "sum") (rSum K) := h ▸ cr_sum hc
theorem cr_sumTK (hc : X.calm = true := by rfl) (h : X.K = K := by rfl) : CallR X (.builtin "sum") (rSumTu K) := h ▸ cr_sumTu hc
theorem cr_allK (hc : X.calm = true := by rfl) (h : X.K = K := by rfl) : CallR X (.builtin "all") (rAll K) := h ▸ cr_all hc
theorem cr_anyK (hc : X.calm = true := by rfl) (h : X.K = K := by rfl) : CallR X (.builtin "any") (rAny K) := h ▸ cr_any hc
theorem cr_tupleK (h : X.K = K := by rfl) : CallR X (.type "tuple") (rTupO K) := h ▸ cr_tuple
theorem cr_listK (h : X.K = K := by rfl) : CallR X (.type "list") (rLstO K) := h ▸ cr_list
variable {e tg l : Expr} {es : List Expr} {ta tl : TE} {f : Str} {pos : Pos} {k n : Nat} {t : TGs}
theorem pe_fldK (he : PE X e ta) (hb : attributeBase e f X.env (eval e X.env) = eval e X.env := by rfl) (h : X.K = K := by rfl) : PE X (.Attribute e f pos) (tFld K ta f) := h ▸ pe_fld he hb
theorem pi_listK (hl : PE X l tl) (h : X.K = K := by rfl) : PI X tg l (iList K tl) := h ▸ pi_list hl
theorem pi_tupK (hl : PE X l tl) (h : X.K = K := by rfl) : PI X tg l (iTup K tl) := h ▸ pi_tup hl
theorem pg_tupK (h : PGs X es t) (hc : X.calm = true := by rfl) (hn : (assignEach es X.env).length = n := by rfl) (hst : (assignEach es X.env).findIdx? (·.1) = none := by rfl) (hk : X.K = K := by rfl) : PG X (.Tuple es k pos) (gTup K n t) := hk ▸ pg_tup hc h hn hst
end
end SPw
namespace SPw
open PySem PySem.Spec PyProof.Rows L2
/-! lists that grow, and loops while they grow -/
/-- all but L stays -/
def SameO (L : Addr) (H H' : Hp) : Prop := ∀ b u, b ≠ L → H b = some u → H' b = some u
theorem SameO.refl (L : Addr) (H : Hp) : SameO L H H := fun _ _ _ h => h
theorem SameO.trans {L : Addr} {H1 H2 H3 : Hp} (a : SameO L H1 H2) (b : SameO L H2 H3) : SameO L H1 H3 := fun x u n h => b x u n (a x u n h)
theorem same_O {L : Addr} {H H' : Hp} (e : Same H H') : SameO L H H' := fun b u _ h => e b u h
theorem upd_O {L : Addr} {H : Hp} {o : HO} : SameO L H (upd H L o) := fun b u n h => by rw [upd_ne n]; exact h
theorem O_same {L : Addr} {H H' : Hp} (e : SameO L H H') (n : H L = none) : Same H H' := fun b u h => e b u (fun z => by subst z; rw [n] at h; cases h) h
theorem rd_O {L a : Addr} {H H' : Hp} {u : HO} (e : SameO L H H') (n : a ≠ L) (h : Rd H a u) : Rd H' a u := by
  rcases h with h | ⟨o, h⟩
  · exact .inl (e _ _ n h)
  · exact .inr ⟨o, e _ _ n h⟩
mutual
theorem dp_O {K : PySem.W.Frag} {L : Addr} {H H' : Hp} (hp : ∀ ys, ¬ Rd H L (.tup ys)) (e : SameO L H H') : ∀ (d : PyData) (v : V), nl d = true → Tp K H v d → Tp K H' v d
  | .none, _, _, h => by cases h; exact .non
  | .bool _, _, _, h => by cases h; exact .bl _
  | .int _, _, _, h => by cases h; exact .int _
  | .str _, _, _, h => by cases h; exact .str _
  | .list _, _, n, _ => by simp [nl] at n
  | .dict _, _, n, _ => by simp [nl] at n
  | .tuple ds, _, n, h => by
    cases h with
    | @tup a xs _ hs ha =>
      refine .tup ?_ (dpAll_O hp e ds _ (by simpa [nl] using n) ha)
      exact e _ _ (fun z => hp xs (z ▸ .inl hs)) hs
theorem dpAll_O {K : PySem.W.Frag} {L : Addr} {H H' : Hp} (hp : ∀ ys, ¬ Rd H L (.tup ys)) (e : SameO L H H') : ∀ (ds : List PyData) (vs : List V), nlAll ds = true → TpAll K H vs ds → TpAll K H' vs ds
  | [], _, _, h => by cases h; exact .nil
  | d :: ds, _, n, h => by
    cases h with
    | cons h1 h2 =>
      have n' : nl d = true ∧ nlAll ds = true := by simpa [nlAll] using n
      exact .cons (dp_O hp e d _ n'.1 h1) (dpAll_O hp e ds _ n'.2 h2)
end
theorem sqL_O {K : PySem.W.Frag} {L a : Addr} {H H' : Hp} {xs ys : List V} (hL : H L = some (.lst ys)) (e : SameO L H H') (h : SqL K H a xs) (n : xs.length ≠ ys.length) : SqL K H' a xs := by
  rcases h with h | h
  · refine .inl (rd_O e (fun z => ?_) h)
    subst z
    rcases h with h | ⟨o, h⟩
    · rw [hL] at h
      cases h
      exact n rfl
    · rw [hL] at h; cases h
  · exact .inr h
def MadeV (K : PySem.W.Frag) (H0 : Hp) (ds : List PyData) : VP := fun v H => ∃ a, v = .ref a ∧ Made K H0 a ds H
theorem Made.seq {K : PySem.W.Frag} {H0 H : Hp} {L : Addr} {ds : List PyData} (m : Made K H0 L ds H) : Tp K H (.ref L) (.list ds) := by
  obtain ⟨m1, m2, ys, m3, m4⟩ := m
  exact dp_new_list m3 m4
theorem Made.up {K : PySem.W.Frag} {H0 H H' : Hp} {L : Addr} {ds : List PyData} (m : Made K H0 L ds H) (e : Same H H') : Made K H0 L ds H' := by
  obtain ⟨m1, m2, ys, m3, m4⟩ := m
  exact ⟨m1, m2.trans e, ys, e _ _ m3, m4.same e⟩
theorem Made.down {K : PySem.W.Frag} {H00 H0 H : Hp} {L : Addr} {ds : List PyData} (m : Made K H0 L ds H) (e : Same H00 H0) : Made K H00 L ds H := by
  obtain ⟨m1, m2, m3⟩ := m
  refine ⟨?_, e.trans m2, m3⟩
  cases h : H00 L with
  | none => rfl
  | some u => rw [e _ _ h] at m1; cases m1
section
variable {K : PySem.W.Frag} {σ : Slots} {H H' H0 : Hp} {ta tb tc te tl : TE} {P R S : VP} {Ps : List VP} {L : Addr} {ds es : List PyData} {d : PyData} {i : Nat}
variable {E : Ends} {tu tz : TS} {g : TG}
theorem ev_nilM : EV (tLst tNil) σ H (MadeV K H []) := fun H1 e _ q => ⟨Nat.zero_le _, fun p np => q _ _ (same_new np) ⟨p, rfl, Made.down ⟨np, same_new np, [], upd_same, .nil⟩ e⟩⟩
theorem s_app {ys : List V} (hv : σ[i]? = some (some (.ref L))) (hL : H L = some (.lst ys)) (hz : ys.length < 1000000) (he : EV te σ H P) (k : ∀ v H1, Same H H1 → P v H1 → E.nx σ (upd H1 L (.lst (ys ++ [v])))) :
    tDrop (tBM K "list" rAppend (tVar i) (tCons te tNil)) E σ H :=
  ⟨_, hv, Or.inl ⟨rfl, _, Or.inl (Or.inl hL)⟩, he.go fun v H1 e p => ⟨L, ys, v, rfl, rfl, e _ _ hL, Nat.lt_of_lt_of_le hz sizeL, k v H1 e p⟩⟩
theorem q_app {ys : List V} (hv : σ[i]? = some (some (.ref L))) (hL : H L = some (.lst ys)) (hz : ys.length < 1000000) (he : EV te σ H P) (k : ∀ v H1, Same H H1 → P v H1 → tz E σ (upd H1 L (.lst (ys ++ [v])))) :
    tSeq (tDrop (tBM K "list" rAppend (tVar i) (tCons te tNil))) tz E σ H := s_app (E := { E with nx := tz E }) hv hL hz he k
theorem s_appM (m : Made K H0 L ds H) (hv : σ[i]? = some (some (.ref L))) (hn : nlAll ds = true) (nd : nl d = true) (hz : ds.length < 1000000) (he : EV te σ H (D K d)) (k : ∀ H2, Made K H0 L (ds ++ [d]) H2 → SameO L H H2 → E.nx σ H2) :
    tDrop (tBM K "list" rAppend (tVar i) (tCons te tNil)) E σ H := by
  obtain ⟨m1, m2, ys, m3, m4⟩ := m
  refine s_app hv m3 (by rw [m4.len]; exact hz) he fun v H1 e p => ?_
  have h1 : H1 L = some (.lst ys) := e _ _ m3
  exact k _ ⟨m1, same_mut (m2.trans e) m1, _, upd_same, TpAll.app (dpAll_off (notup_lst h1) _ _ hn (m4.same e)) (.cons (dp_off (notup_lst h1) _ _ nd p) .nil)⟩ ((same_O e).trans upd_O)
theorem q_appM (m : Made K H0 L ds H) (hv : σ[i]? = some (some (.ref L))) (hn : nlAll ds = true) (nd : nl d = true) (hz : ds.length < 1000000) (he : EV te σ H (D K d)) (k : ∀ H2, Made K H0 L (ds ++ [d]) H2 → SameO L H H2 → tz E σ H2) :
    tSeq (tDrop (tBM K "list" rAppend (tVar i) (tCons te tNil))) tz E σ H := s_appM (E := { E with nx := tz E }) m hv hn nd hz he k
theorem s_extM (m : Made K H0 L ds H) (hv : σ[i]? = some (some (.ref L))) (hn : nlAll ds = true) (nd : nlAll es = true) (hz : ds.length + es.length ≤ 1000000) (he : EV te σ H (LD K es)) (k : ∀ H2, Made K H0 L (ds ++ es) H2 → SameO L H H2 → E.nx σ H2) :
    tDrop (tBM K "list" rExtend (tVar i) (tCons te tNil)) E σ H := by
  obtain ⟨m1, m2, ys, m3, m4⟩ := m
  refine ⟨_, hv, Or.inl ⟨rfl, _, Or.inl (Or.inl m3)⟩, he.go fun v H1 e p => ?_⟩
  obtain ⟨b, zs, rfl, hb, hB⟩ := p
  have h1 : H1 L = some (.lst ys) := e _ _ m3
  exact ⟨L, b, ys, zs, rfl, rfl, h1, hb, Nat.le_trans (by rw [m4.len, hB.len]; exact hz) sizeL,
    k _ ⟨m1, same_mut (m2.trans e) m1, _, upd_same, TpAll.app (dpAll_off (notup_lst h1) _ _ hn (m4.same e)) (dpAll_off (notup_lst h1) _ _ nd hB)⟩ ((same_O e).trans upd_O)⟩
/-- a loop over a list of data while L grows -/
theorem s_forLo {ys0 : List V} (h : EV te σ H (D K (.list ds))) (hn : nlAll ds = true) (hL : H L = some (.lst ys0)) (hne : ds.length ≠ ys0.length) (Pv : Nat → Slots → Hp → Prop)
    (hs : ∀ H0, Same H H0 → ∀ (i : Nat) d x σ' H', ds[i]? = some d → SameO L H0 H' → Pv i σ' H' → Tp K H' x d → g x σ' H' fun σ2 H2 => tu { E with nx := fun a b => SameO L H0 b ∧ Pv (i + 1) a b, ct := fun a b => SameO L H0 b ∧ Pv (i + 1) a b, bk := E.nx } σ2 H2)
    (h0 : ∀ H1, Same H H1 → Pv 0 σ H1) (hd : ∀ σ' H', SameO L H H' → Pv ds.length σ' H' → E.nx σ' H') : tFor (iList K te) g tu E σ H :=
  h.go fun v H1 e p => by
    obtain ⟨a, xs, rfl, hq, hA⟩ := dp_list p
    have hl := hA.len
    have hL1 := e _ _ hL
    refine ⟨a, rfl, ⟨xs, hq⟩, for_list (xs := xs) (fun i a b => SameO L H1 b ∧ Pv i a b) ⟨SameO.refl _ _, h0 H1 e⟩ (fun i σ' H' hi pv => sqL_O hL1 pv.1 hq (by omega)) (fun i x σ' H' hx pv => ?_) (fun σ' H' pv => hd σ' H' ((same_O e).trans pv.1) (by rw [← hl]; exact pv.2))⟩
    obtain ⟨d, hd', dx⟩ := (dpAll_O (notup_lst hL1) pv.1 _ _ hn hA).at hx
    exact hs H1 e i d x σ' H' hd' pv.1 pv.2 dx
theorem q_forLo {ys0 : List V} (h : EV te σ H (D K (.list ds))) (hn : nlAll ds = true) (hL : H L = some (.lst ys0)) (hne : ds.length ≠ ys0.length) (Pv : Nat → Slots → Hp → Prop)
    (hs : ∀ H0, Same H H0 → ∀ (i : Nat) d x σ' H', ds[i]? = some d → SameO L H0 H' → Pv i σ' H' → Tp K H' x d → g x σ' H' fun σ2 H2 => tu { E with nx := fun a b => SameO L H0 b ∧ Pv (i + 1) a b, ct := fun a b => SameO L H0 b ∧ Pv (i + 1) a b, bk := tz E } σ2 H2)
    (h0 : ∀ H1, Same H H1 → Pv 0 σ H1) (hd : ∀ σ' H', SameO L H H' → Pv ds.length σ' H' → tz E σ' H') : tSeq (tFor (iList K te) g tu) tz E σ H :=
  s_forLo (E := { E with nx := tz E }) h hn hL hne Pv hs h0 hd
end
end SPw
namespace SPw
open PySem PySem.Spec PyProof.Rows L2
/-! the data of the text -/
abbrev Poly := List (List Int × Int)
def dI (e : List Int) : PyData := .tuple (e.map .int)
def dTerm (t : List Int × Int) : PyData := .tuple [dI t.1, .int t.2]
def dPoly (ts : Poly) : PyData := .tuple (ts.map dTerm)
def dPts (xs : List (List Int)) : PyData := .list (xs.map dI)
def dEqs (fs : List Poly) : PyData := .list (fs.map dPoly)
theorem nl_ints : ∀ e : List Int, nlAll (e.map PyData.int) = true
  | [] => rfl
  | a :: e => by show (true && nlAll (e.map PyData.int)) = true; rw [nl_ints e]; rfl
theorem nl_dI (e : List Int) : nl (dI e) = true := nl_ints e
theorem nl_dTerm (t : List Int × Int) : nl (dTerm t) = true := by
  show (nl (dI t.1) && (true && true)) = true
  rw [nl_dI]; rfl
theorem nl_terms : ∀ e : Poly, nlAll (e.map dTerm) = true
  | [] => rfl
  | a :: e => by show (nl (dTerm a) && nlAll (e.map dTerm)) = true; rw [nl_dTerm, nl_terms e]; rfl
theorem nl_dPoly (e : Poly) : nl (dPoly e) = true := nl_terms e
/-- small: what is asked of p and n -/
structure Sm (p : Int) (n : Nat) : Prop where
  lo : 1 < p
  hi : p < 10
  n : n ≤ 4
structure WfT (p : Int) (n : Nat) (t : List Int × Int) : Prop where
  len : t.1.length = n
  ex : ∀ a ∈ t.1, 0 ≤ a ∧ a < p
  c : 0 ≤ t.2 ∧ t.2 < p
structure Wf (p : Int) (n L : Nat) (ts : Poly) : Prop where
  len : ts.length ≤ L
  tm : ∀ t ∈ ts, WfT p n t
def pts (p : Int) : Nat → List (List Int)
  | 0 => [[]]
  | n + 1 => (pts p n).flatMap fun r => (List.range p.toNat).map fun (k : Nat) => r ++ [(k : Int)]
theorem pts_len (p : Int) : ∀ n, (pts p n).length = p.toNat ^ n
  | 0 => rfl
  | n + 1 => by
    unfold pts
    rw [List.length_flatMap]
    simp only [List.length_map, List.length_range]
    rw [List.map_const', List.sum_replicate_nat, pts_len p n, Nat.pow_succ]
theorem pts_mem (p : Int) : ∀ n, ∀ x ∈ pts p n, x.length = n ∧ ∀ a ∈ x, 0 ≤ a ∧ a < p
  | 0, x, h => by
    have : x = [] := by simpa [pts] using h
    subst this; exact ⟨rfl, fun a h => by cases h⟩
  | n + 1, x, h => by
    obtain ⟨r, hr, hx⟩ := List.mem_flatMap.mp h
    obtain ⟨k, hk, rfl⟩ := List.mem_map.mp hx
    obtain ⟨h1, h2⟩ := pts_mem p n r hr
    refine ⟨by rw [List.length_append, h1]; rfl, fun a ha => ?_⟩
    rcases List.mem_append.mp ha with ha | ha
    · exact h2 a ha
    · obtain rfl := List.mem_singleton.mp ha
      have := List.mem_range.mp hk
      omega
theorem pts_small {p : Int} {n : Nat} (h : Sm p n) : (pts p n).length < 10001 := by
  rw [pts_len]
  have h1 : p.toNat ≤ 9 := by have := h.hi; omega
  have h2 : p.toNat ^ n ≤ 9 ^ n := Nat.pow_le_pow_left h1 n
  have h3 : 9 ^ n ≤ 9 ^ 4 := Nat.pow_le_pow_right (by decide) h.n
  have h4 : 9 ^ 4 = 6561 := by decide
  omega
/-- the value of a power at a point -/
def vo (p : Int) (e x : List Int) : Int := (e.zip x).foldl (fun acc ab => acc * rn p ab.2 ab.1.toNat % p) 1
def val (p : Int) (ts : Poly) (x : List Int) : Int := (ts.map fun t => t.2 * vo p t.1 x).sum % p
theorem vo_fold {p : Int} (hp : 1 < p) (l : List (Int × Int)) : ∀ a : Int, 0 ≤ a ∧ a < p → 0 ≤ l.foldl (fun acc ab => acc * rn p ab.2 ab.1.toNat % p) a ∧ l.foldl (fun acc ab => acc * rn p ab.2 ab.1.toNat % p) a < p := by
  induction l with
  | nil => exact fun a h => h
  | cons b l ih => exact fun a h => ih _ ⟨Int.emod_nonneg _ (by omega), Int.emod_lt_of_pos _ (by omega)⟩
theorem vo_lo {p : Int} (hp : 1 < p) (e x : List Int) : 0 ≤ vo p e x ∧ vo p e x < p := vo_fold hp _ 1 ⟨by omega, hp⟩
theorem val_lo {p : Int} (hp : 1 < p) (e : Poly) (x : List Int) : 0 ≤ val p e x ∧ val p e x < p := ⟨Int.emod_nonneg _ (by omega), Int.emod_lt_of_pos _ (by omega)⟩
theorem vo_take (p : Int) (e x : List Int) (i : Nat) (a b : Int) (h1 : e[i]? = some a) (h2 : x[i]? = some b) : vo p (e.take (i + 1)) (x.take (i + 1)) = vo p (e.take i) (x.take i) * rn p b a.toNat % p := by
  unfold vo
  rw [List.take_add_one, List.take_add_one, h1, h2]
  have l1 : i < e.length := (List.getElem?_eq_some_iff.mp h1).1
  have l2 : i < x.length := (List.getElem?_eq_some_iff.mp h2).1
  have hl : (e.take i).length = (x.take i).length := by rw [List.length_take, List.length_take]; omega
  show List.foldl _ 1 ((e.take i ++ [a]).zip (x.take i ++ [b])) = _
  rw [List.zip_append hl, List.foldl_append]
  rfl
/-! instances -/
/-- an instance of Space, with what is read of it -/
def Spc (K : PySem.W.Frag) (CS : Addr) (p : Int) (n : Nat) : VP := fun v H => ∃ a dx fs, v = .ref a ∧ H a = some (.ins CS dx fs) ∧ fs.lookup ("prime" : Str) = some (.int p) ∧ fs.lookup ("count" : Str) = some (.int (n : Int)) ∧ fs.lookup ("points" : Str) = none
instance (K : PySem.W.Frag) (CS : Addr) (p : Int) (n : Nat) : Mono (Spc K CS p n) := ⟨fun e h => by
  obtain ⟨a, dx, fs, rfl, h1, h2⟩ := h
  exact ⟨a, dx, fs, rfl, e _ _ h1, h2⟩⟩
/-- an instance of System -/
def Sys (K : PySem.W.Frag) (CS CY : Addr) (p : Int) (n : Nat) (eqs : List Poly) : VP := fun v H => ∃ a dx fs sp el, v = .ref a ∧ H a = some (.ins CY dx fs) ∧ fs.lookup ("space" : Str) = some sp ∧ Spc K CS p n sp H ∧ fs.lookup ("equations" : Str) = some el ∧ D K (dEqs eqs) el H
instance (K : PySem.W.Frag) (CS CY : Addr) (p : Int) (n : Nat) (eqs : List Poly) : Mono (Sys K CS CY p n eqs) := ⟨fun e h => by
  obtain ⟨a, dx, fs, sp, el, rfl, h1, h2, h3, h4, h5⟩ := h
  exact ⟨a, dx, fs, sp, el, rfl, e _ _ h1, h2, Mono.go e h3, h4, Mono.go e h5⟩⟩
/-- what is known of the class Space -/
structure KSp (K : PySem.W.Frag) (CS : Addr) : Prop where
  cls : Cls K CS
  prime : NoAttr K CS "prime"
  names : NoAttr K CS "names"
  count : NoAttr K CS "count"
structure KSy (K : PySem.W.Frag) (CY : Addr) : Prop where
  cls : Cls K CY
  space : NoAttr K CY "space"
  eqs : NoAttr K CY "equations"
section
variable {K : PySem.W.Frag} {σ : Slots} {H : Hp} {te : TE} {CS CY : Addr} {p : Int} {n : Nat} {eqs : List Poly}
theorem ev_prime (k : KSp K CS) (h : EV te σ H (Spc K CS p n)) : EV (tFld K te "prime") σ H (D K (.int p)) := fun H1 e Q q => h H1 e _ fun v H2 e2 pv => by
  obtain ⟨a, dx, fs, rfl, h1, h2, h3, _⟩ := pv
  exact ⟨a, CS, dx, fs, _, rfl, h1, k.cls, k.prime, h2, q _ H2 e2 (.int _)⟩
theorem ev_count (k : KSp K CS) (h : EV te σ H (Spc K CS p n)) : EV (tFld K te "count") σ H (D K (.int (n : Int))) := fun H1 e Q q => h H1 e _ fun v H2 e2 pv => by
  obtain ⟨a, dx, fs, rfl, h1, h2, h3, _⟩ := pv
  exact ⟨a, CS, dx, fs, _, rfl, h1, k.cls, k.count, h3, q _ H2 e2 (.int _)⟩
theorem ev_space (k : KSy K CY) (h : EV te σ H (Sys K CS CY p n eqs)) : EV (tFld K te "space") σ H (Spc K CS p n) := fun H1 e Q q => h H1 e _ fun v H2 e2 pv => by
  obtain ⟨a, dx, fs, sp, el, rfl, h1, h2, h3, _⟩ := pv
  exact ⟨a, CY, dx, fs, _, rfl, h1, k.cls, k.space, h2, q _ H2 e2 h3⟩
theorem ev_eqs (k : KSy K CY) (h : EV te σ H (Sys K CS CY p n eqs)) : EV (tFld K te "equations") σ H (D K (dEqs eqs)) := fun H1 e Q q => h H1 e _ fun v H2 e2 pv => by
  obtain ⟨a, dx, fs, sp, el, rfl, h1, h2, h3, h4, h5⟩ := pv
  exact ⟨a, CY, dx, fs, _, rfl, h1, k.cls, k.eqs, h4, q _ H2 e2 h5⟩
end
end SPw
namespace SPw
open PySem PySem.Spec PyProof.Rows L2
def preTuples (K : PySem.W.Frag) (vs : List V) (H : Hp) (S : VP) : Prop := ∃ (p : Int) (n : Nat), vs = [.int p, .int (n : Int)] ∧ Sm p n ∧ S = D K (dPts (pts p n))
def preInv (K : PySem.W.Frag) (vs : List V) (H : Hp) (S : VP) : Prop := ∃ (p a : Int), vs = [.int p, .int a] ∧ 1 < p ∧ p < 10 ∧ S = D K (.int (rn p a (p - 2).toNat))
def preVO (K : PySem.W.Frag) (CS : Addr) (vs : List V) (H : Hp) (S : VP) : Prop := ∃ (p : Int) (n : Nat) (e x : List Int) (v1 v2 v3 : V), vs = [v1, v2, v3] ∧ Sm p n ∧ Spc K CS p n v1 H ∧ D K (dI e) v2 H ∧ D K (dI x) v3 H ∧ e.length = x.length ∧ (∀ a ∈ e, 0 ≤ a ∧ a < p) ∧ S = D K (.int (vo p e x))
def preVal (K : PySem.W.Frag) (CS : Addr) (vs : List V) (H : Hp) (S : VP) : Prop := ∃ (p : Int) (n L : Nat) (ts : Poly) (x : List Int) (v1 v2 v3 : V), vs = [v1, v2, v3] ∧ Sm p n ∧ Spc K CS p n v1 H ∧ D K (dPoly ts) v2 H ∧ D K (dI x) v3 H ∧ x.length = n ∧ Wf p n L ts ∧ L ≤ 1000 ∧ S = D K (.int (val p ts x))
theorem sc_tuples_of : FnScope ["prime", "count", "found", "_", "row", "number"] ["prime", "count"] (defScope (top 12)) := ⟨rfl, rfl, rfl, by decide +kernel, rfl, by decide +kernel, by decide +kernel⟩
theorem sc_inverse : FnScope ["prime", "number"] ["prime", "number"] (defScope (top 13)) := ⟨rfl, rfl, rfl, by decide +kernel, rfl, by decide +kernel, by decide +kernel⟩
theorem sc_value_of : FnScope ["space", "power", "point", "found", "exponent", "number"] ["space", "power", "point"] (defScope (top 18)) := ⟨rfl, rfl, rfl, by decide +kernel, rfl, by decide +kernel, by decide +kernel⟩
theorem sc_value : FnScope ["space", "one", "point", "power", "number"] ["space", "one", "point"] (defScope (top 22)) := ⟨rfl, rfl, rfl, by decide +kernel, rfl, by decide +kernel, by decide +kernel⟩
section
variable {P : Program} {w : World} {K : PySem.W.Frag} {mg : Str → Option Value} {base : Heap} {CS : Addr}
theorem cl_tuples (T : Txt mg) (d : DefAt K mg "tuples_of" (top 12)) : Cl P w K mg base 1 "tuples_of" (Prom (preTuples K)) := by
  refine mkCl d (ps := ["prime", "count"]) (fun _ _ _ _ _ _ us hl => match us, hl with | [_, _], _ => rfl) sc_tuples_of ?_ fun f cdv A outer s H vs S Q E hr h q => ?_
  · rintro vs H S ⟨p, n, rfl, _⟩; rfl
  · obtain ⟨p, n, rfl, sm, rfl⟩ := h
    refine ⟨_, pss_cons (ps_set (i := 2) sc_tuples_of.nd rfl (.inl rfl) (pe_lst (pa_cons (pe_tup pa_nil) pa_nil)))
      (pss_cons (ps_for PassesOwn.never rfl (pi_range1 rfl T.range (pa_cons (pv 1) pa_nil)) (pg_name (i := 3) sc_tuples_of.nd rfl (.inl rfl))
        (pss_one (ps_setLc2 (i := 2) rfl sc_tuples_of.nd rfl rfl (sw_true rfl rfl rfl (by decide +kernel)) (pi_listK K (pv 2)) (blkOk_by (own := [("row", 4), ("number", 5)]) (N := ["prime", "count", "found", "_", "row", "number"]) (sc := (defScope (top 12))) (by decide +kernel)) (vs1 := [5]) (by decide) (fun _ _ _ _ _ => (pg_name (i := 4) sc_tuples_of.nd rfl (.inl rfl))) (fun _ _ _ _ _ => pts_nil) (fun _ _ _ _ _ => (pi_range1 rfl T.range (pa_cons (pv 0) pa_nil))) (fun _ _ _ _ _ => (pg_name (i := 5) sc_tuples_of.nd rfl (.inl rfl))) (fun _ _ _ _ _ => pts_nil) (fun _ _ _ _ _ => (pe_op (op_catK K) (pv 4) (pe_tup (pa_cons (pv 5) pa_nil)))))))
      (pss_one (ps_ret (pv 2)))), ?_⟩
    have := sm.lo
    have := sm.hi
    have := sm.n
    refine q_asg (P := D K (dPts [[]])) (ev_lst (ds := [dI []]) (eva_cons (ev_tup (ds := []) eva_nil (by decide)) eva_nil) (by decide)) fun v H1 s1 hv => ?_
    refine q_forR (K := K) (n := (n : Int)) (eva_cons (ev_vi rfl) eva_nil) (by omega) (by omega)
      (fun i σ' H' => Same H1 H' ∧ ∃ y z, D K (dPts (pts p i)) z H' ∧ σ' = [some (.int p), some (.int n), some z, y, none, none]) (fun H2 s2 => ⟨s2, _, _, Mono.go s2 hv, rfl⟩) ?_ ?_
    · rintro i σ' H' hi ⟨sm1, y, z, hz, rfl⟩
      have sm2 : Sm p (i + 1) := ⟨sm.lo, sm.hi, by omega⟩
      have e9 : (dPts (pts p (i + 1))) = .list ((pts p i).flatMap fun a => (List.range p.toNat).map fun (k : Nat) => dI (a ++ [(k : Int)])) := by
        show PyData.list (((pts p i).flatMap fun r => (List.range p.toNat).map fun (k : Nat) => r ++ [(k : Int)]).map dI) = _
        rw [List.map_flatMap]
        congr 1
        congr 1
        funext a
        rw [List.map_map]; rfl
      have l9 := pts_small sm2
      refine s_asg (P := D K (dPts (pts p (i + 1)))) ?_ fun v H2 s2 hv2 => ⟨sm1.trans s2, _, _, hv2, rfl⟩
      rw [e9]
      refine ev_lc2 (xs := pts p i) (enc := dI) (n := p.toNat) (e := fun a k => dI (a ++ [(k : Int)])) (ev_var rfl hz) (by omega) ?_ (fun a k => nl_dI _) (fun x => rfl) (fun x y => rfl) ?_ ?_
      · have e10 : ((pts p i).flatMap fun a => (List.range p.toNat).map fun (k : Nat) => dI (a ++ [(k : Int)])).length = (pts p (i + 1)).length := by
          have := congrArg (fun d => match d with | PyData.list xs => xs.length | _ => 0) e9
          rw [← List.length_map (f := dI)]
          exact this.symm
        rw [e10]; omega
      · intro x H2 s2
        rw [show ((p.toNat : Nat) : Int) = p by omega]
        exact eva_cons (ev_vi rfl) eva_nil
      · intro a ha k hk x H2 s2 hx
        have := (pts_mem p i a ha).1
        refine (ev_catT (ds := a.map .int) (es := [.int (k : Int)]) (ev_var rfl (show D K (dI a) x H2 from hx)) (ev_tup (ds := [.int (k : Int)]) (eva_cons (ev_vi rfl) eva_nil) (by simp)) (by rw [List.length_map]; simp; omega)).eqD ?_
        show _ = PyData.tuple ((a ++ [(k : Int)]).map .int)
        rw [List.map_append]; rfl
    · rintro σ' H' ⟨sm1, y, z, hz, rfl⟩
      rw [Int.toNat_natCast] at hz
      exact s_ret (P := D K (dPts (pts p n))) (ev_var rfl hz) fun v H2 s2 hv2 => q v H2 ((s1.trans sm1).trans s2) hv2
theorem cl_inverse (T : Txt mg) (d : DefAt K mg "inverse" (top 13)) (c_raised_number : Cl P w K mg base 1 "raised_number" (Prom (preRaised K))) : Cl P w K mg base 2 "inverse" (Prom (preInv K)) := by
  refine mkCl d (ps := ["prime", "number"]) (fun _ _ _ _ _ _ us hl => match us, hl with | [_, _], _ => rfl) sc_inverse ?_ fun f cdv A outer s H vs S Q E hr h q => ?_
  · rintro vs H S ⟨p, a, rfl, _⟩; rfl
  · obtain ⟨p, a, rfl, h1, h2, rfl⟩ := h
    refine ⟨_, pss_one (ps_ret (pe_k c_raised_number hr (by decide) rfl (pa_cons (pv 0) (pa_cons (pv 1) (pa_cons (pe_op op_sub (pv 0) pe_int) pa_nil))))), ?_⟩
    refine s_ret (ev_call (eva_cons (P := D K (.int p)) (ev_vi rfl) (eva_cons (P := D K (.int a)) (ev_vi rfl) (eva_cons (P := D K (.int (p - 2))) (ev_ii (ev_vi rfl) ev_int) eva_nil))) ?_) fun v H1 s1 hv => q v H1 s1 hv
    intro vs H1 s1 ps
    obtain ⟨v1, v2, v3, rfl, a1, a2, a3⟩ := allP3 ps
    rw [dp_int a1, dp_int a2, dp_int a3]
    refine ⟨p, a, (p - 2).toNat, ?_, h1, h2, by omega, rfl⟩
    rw [show (((p - 2).toNat : Nat) : Int) = p - 2 by omega]
theorem cl_value_of (T : Txt mg) (k : KSp K CS) (d : DefAt K mg "value_of" (top 18)) (c_raised_number : Cl P w K mg base 1 "raised_number" (Prom (preRaised K))) : Cl P w K mg base 2 "value_of" (Prom (preVO K CS)) := by
  refine mkCl d (ps := ["space", "power", "point"]) (fun _ _ _ _ _ _ us hl => match us, hl with | [_, _, _], _ => rfl) sc_value_of ?_ fun f cdv A outer s H vs S Q E hr h q => ?_
  · rintro vs H S ⟨_, _, _, _, _, _, _, rfl, _⟩; rfl
  · obtain ⟨p, n, e, x, v1, v2, v3, rfl, sm, hs, he, hx, hl, hb, rfl⟩ := h
    refine ⟨_, pss_cons (ps_set (i := 3) sc_value_of.nd rfl (.inl rfl) pe_int)
      (pss_cons (ps_for PassesOwn.never rfl (RZ.pi_zipA rfl T.zip (pa_cons (pv 1) (pa_cons (pv 2) pa_nil))) (pg_tupK K (n := 2) (pgs_cons (pg_name (i := 4) sc_value_of.nd rfl (.inl rfl)) (pgs_cons (pg_name (i := 5) sc_value_of.nd rfl (.inl rfl)) pgs_nil)))
        (pss_one (ps_set (i := 3) sc_value_of.nd rfl (.inl rfl) (pe_op op_mod (pe_op op_mul (pv 3) (pe_k c_raised_number hr (by decide) rfl (pa_cons (pe_fldK K (pv 0)) (pa_cons (pv 5) (pa_cons (pv 4) pa_nil))))) (pe_fldK K (pv 0))))))
      (pss_one (ps_ret (pv 3)))), ?_⟩
    have := sm.lo
    have := sm.hi
    refine q_asg (P := D K (.int 1)) ev_int fun v H1 s1 hv => ?_
    rw [dp_int hv]
    refine q_forZT (K := K) (ds := e.map .int) (es := x.map .int) (eva_cons (P := D K (dI e)) (ev_var rfl (Mono.go s1 he)) (eva_cons (P := D K (dI x)) (ev_var rfl (Mono.go s1 hx)) eva_nil)) (by rw [List.length_map, List.length_map, hl])
      (fun i σ' H' => ∃ y z, σ' = [some v1, some v2, some v3, some (.int (vo p (e.take i) (x.take i))), y, z]) ?_ (fun H2 s2 => ⟨_, _, rfl⟩) ?_
    · rintro H0 s0 i da db va vb t σ' H' h1 h2 s2 h3 h4 hT ⟨H2, s3, y, z, rfl⟩
      rw [List.getElem?_map] at h1 h2
      obtain ⟨a, ha, rfl⟩ := Option.map_eq_some_iff.mp h1
      obtain ⟨b, hbb, rfl⟩ := Option.map_eq_some_iff.mp h2
      obtain rfl := dp_int h3
      obtain rfl := dp_int h4
      have ba := hb a (List.mem_of_getElem? ha)
      refine g_two hT ?_
      have sp : Spc K CS p n v1 H' := Mono.go ((s1.trans s0).trans s2) hs
      have hlo := vo_lo sm.lo (e.take i) (x.take i)
      refine s_asg (P := D K (.int (vo p (e.take (i + 1)) (x.take (i + 1))))) ?_ fun v H3 s4 hv2 => by
        obtain rfl := dp_int hv2
        exact ⟨s2.trans s4, _, _, rfl⟩
      refine (ev_iiC (f := fun i j => i % j) (ev_iiC (f := fun i j => i * j) (ev_vi rfl) (j := rn p b a.toNat) (ev_call (S := D K (.int (rn p b a.toNat))) (eva_cons (ev_prime k (ev_var rfl sp)) (eva_cons (P := D K (.int b)) (ev_vi rfl) (eva_cons (P := D K (.int a)) (ev_vi rfl) eva_nil))) ?_) (.inl (by omega))) (ev_prime k (ev_var rfl sp)) (by omega)).eqD ?_
      · intro vs H4 s4 ps
        obtain ⟨u1, u2, u3, rfl, a1, a2, a3⟩ := allP3 ps
        rw [dp_int a1, dp_int a2, dp_int a3]
        exact ⟨p, b, a.toNat, by rw [show ((a.toNat : Nat) : Int) = a by omega], by omega, by omega, by omega, rfl⟩
      · rw [vo_take p e x i a b ha hbb]
    · rintro σ' H' s2 ⟨y, z, rfl⟩
      rw [List.length_map, List.take_length, hl, List.take_length]
      exact s_ret (P := D K (.int (vo p e x))) (ev_vi rfl) fun v H3 s3 hv2 => q v H3 ((s1.trans s2).trans s3) hv2
theorem cl_value (T : Txt mg) (k : KSp K CS) (d : DefAt K mg "value" (top 22)) (c_value_of : Cl P w K mg base 2 "value_of" (Prom (preVO K CS))) : Cl P w K mg base 3 "value" (Prom (preVal K CS)) := by
  refine mkCl d (ps := ["space", "one", "point"]) (fun _ _ _ _ _ _ us hl => match us, hl with | [_, _, _], _ => rfl) sc_value ?_ fun f cdv A outer s H vs S Q E hr h q => ?_
  · rintro vs H S ⟨_, _, _, _, _, _, _, _, rfl, _⟩; rfl
  · obtain ⟨p, n, L, ts, x, v1, v2, v3, rfl, sm, hs, he, hx, hl, wf, hL, rfl⟩ := h
    refine ⟨_, pss_one (ps_ret (pe_op op_mod (pe_callB (cr_sumK K) rfl T.sum rfl (pa_cons (pe_lc rfl sc_value.nd (pi_tupK K (pv 1)) (blkOk_by (own := [("power", 3), ("number", 4)]) (N := ["space", "one", "point", "power", "number"]) (sc := (defScope (top 22))) (by decide +kernel)) (fun _ _ _ _ _ => (pg_tupK K (n := 2) (pgs_cons (pg_name (i := 3) sc_value.nd rfl (.inl rfl)) (pgs_cons (pg_name (i := 4) sc_value.nd rfl (.inl rfl)) pgs_nil)))) (fun _ _ _ _ _ => pts_nil) (fun _ _ _ _ _ => (pe_op op_mul (pv 4) (pe_k c_value_of hr (by decide) rfl (pa_cons (pv 0) (pa_cons (pv 3) (pa_cons (pv 2) pa_nil))))))) pa_nil)) (pe_fldK K (pv 0)))), ?_⟩
    have := sm.lo
    have := sm.hi
    have := wf.len
    refine s_ret (P := D K (.int (val p ts x))) (ev_iiC (f := fun i j => i % j) (ev_sumL (ns := ts.map fun t => t.2 * vo p t.1 x) ?_) (ev_prime k (ev_var rfl hs)) (by omega)) fun v H1 s1 hv => q v H1 s1 hv
    refine (ev_lcT (xs := ts) (enc := dTerm) (p := fun _ => true) (e := fun t => .int (t.2 * vo p t.1 x)) (ev_var rfl he) (by omega) (fun _ => rfl) ?_).eqD (by rw [gath_all, List.map_map]; rfl)
    intro t ht v H1 s1 hv
    obtain ⟨a, xs, rfl, hq, hA⟩ := dp_tup hv
    have hA' : TpAll K H1 xs [dI t.1, .int t.2] := hA
    cases hA' with
    | @cons y1 _ _ r1 hy1 hr =>
      cases hr with
      | @cons y2 _ _ r2 hy2 hr2 =>
        cases hr2
        obtain rfl := dp_int hy2
        have wt := wf.tm t ht
        refine item_two hq rfl evt_yes fun _ => ?_
        refine ev_iiC (f := fun i j => i * j) (ev_vi rfl) (ev_call (S := D K (.int (vo p t.1 x))) (eva_cons (P := Spc K CS p n) (ev_var rfl (Mono.go s1 hs)) (eva_cons (P := D K (dI t.1)) (ev_var rfl hy1) (eva_cons (P := D K (dI x)) (ev_var rfl (Mono.go s1 hx)) eva_nil))) ?_) (.inl (by have := wt.c; omega))
        intro vs H4 s4 ps
        obtain ⟨u1, u2, u3, rfl, a1, a2, a3⟩ := allP3 ps
        exact ⟨p, n, t.1, x, u1, u2, u3, rfl, sm, a1, a2, a3, by rw [wt.len, hl], wt.ex, rfl⟩
end
end SPw
namespace SPw
open PySem PySem.Spec PyProof.Rows L2
theorem getD_in {α : Type} {l : List α} {i : Nat} {d : α} (h : i < l.length) : l.getD i d = l[i] := by
  unfold List.getD; rw [List.getElem?_eq_getElem h]; rfl
theorem getD_out {α : Type} {l : List α} {i : Nat} {d : α} (h : l.length ≤ i) : l.getD i d = d := by
  unfold List.getD; rw [List.getElem?_eq_none h]; rfl
/-- a value that is known by a property alone -/
def DS {α : Type} (K : PySem.W.Frag) (C : α → Prop) (enc : α → PyData) : VP := fun v H => ∃ a, C a ∧ Tp K H v (enc a)
instance {α : Type} (K : PySem.W.Frag) (C : α → Prop) (enc : α → PyData) : Mono (DS K C enc) := ⟨fun e h => by
  obtain ⟨a, h1, h2⟩ := h
  exact ⟨a, h1, Tp.same e _ _ h2⟩⟩
def dL (ns : List Int) : PyData := .list (ns.map .int)
theorem EV.ds {α : Type} {K : PySem.W.Frag} {te : TE} {σ : Slots} {H : Hp} {C : α → Prop} {enc : α → PyData} {a : α} (h : EV te σ H (D K (enc a))) (c : C a) : EV te σ H (DS K C enc) := h.imp fun _ _ _ p => ⟨a, c, p⟩
theorem dp_termT {K : PySem.W.Frag} {H : Hp} {v : V} {t : List Int × Int} (h : Tp K H v (dTerm t)) : ∃ a y, v = .ref a ∧ H a = some (.tup [y, .int t.2]) ∧ Tp K H y (dI t.1) := by
  obtain ⟨a, xs, rfl, hq, hA⟩ := dp_tupT h
  have hA' : TpAll K H xs [dI t.1, .int t.2] := hA
  cases hA' with
  | @cons y1 _ _ r1 hy1 hr =>
    cases hr with
    | @cons y2 _ _ r2 hy2 hr2 =>
      cases hr2
      obtain rfl := dp_int hy2
      exact ⟨a, y1, rfl, hq, hy1⟩
theorem dp_term {K : PySem.W.Frag} {H : Hp} {v : V} {t : List Int × Int} (h : Tp K H v (dTerm t)) : ∃ a y, v = .ref a ∧ SqT K H a [y, .int t.2] ∧ Tp K H y (dI t.1) := by
  obtain ⟨a, y, rfl, h1, h2⟩ := dp_termT h
  exact ⟨a, y, rfl, SqT.of h1, h2⟩
theorem dp_dI {K : PySem.W.Frag} {H : Hp} {v : V} {e : List Int} (h : Tp K H v (dI e)) : ∃ a, v = .ref a ∧ H a = some (.tup (e.map .int)) := by
  obtain ⟨a, xs, rfl, h1, h2⟩ := dp_tupT h
  exact ⟨a, rfl, by rw [h1, ints_dp h2]⟩
theorem dI_dp {K : PySem.W.Frag} {H : Hp} {a : Addr} {e : List Int} (h : H a = some (.tup (e.map .int))) : Tp K H (.ref a) (dI e) := .tup h (dpAll_ints e)
/-- the script: a list of ints, wherever it stands -/
def Scr (K : PySem.W.Frag) (ns : List Int) : VP := fun v H => ∃ a, v = .ref a ∧ SqL K H a (ns.map V.int)
instance (K : PySem.W.Frag) (ns : List Int) : Mono (Scr K ns) := ⟨fun e h => by
  obtain ⟨a, rfl, h⟩ := h
  exact ⟨a, rfl, e.seq h⟩⟩
theorem ev_lenScr {K : PySem.W.Frag} {te : TE} {σ : Slots} {H : Hp} {ns : List Int} (h : EV te σ H (Scr K ns)) : EV (tCB (rLen K) (tCons te tNil)) σ H (D K (.int (ns.length : Int))) :=
  ev_cb (eva_cons h eva_nil) fun vs H1 _ ps Q q => by
    obtain ⟨v, rfl, p⟩ := allP1 ps
    obtain ⟨a, rfl, hs⟩ := p
    refine ⟨a, _, rfl, .inl hs, q _ H1 (Same.refl _) ?_⟩
    rw [List.length_map]; exact .int _
theorem ev_ixScr {K : PySem.W.Frag} {ta tb : TE} {σ : Slots} {H : Hp} {ns : List Int} {k : Nat} {d : Int} (ha : EV ta σ H (Scr K ns)) (hb : EV tb σ H (D K (.int (k : Int)))) (hd : ns[k]? = some d) : EV (tOp (rIxL K) ta tb) σ H (D K (.int d)) :=
  ev_op ha hb fun x y H1 _ p q Q kk => by
    obtain ⟨a, rfl, hs⟩ := p
    exact ⟨a, _, (k : Int), .int d, rfl, dp_int q, hs, atI_nat (by rw [List.getElem?_map, hd]; rfl), kk _ H1 (Same.refl _) (.int d)⟩
def preCell (K : PySem.W.Frag) (vs : List V) (H : Hp) (S : VP) : Prop := ∃ (ns : List Int) (k : Nat) (v : V), vs = [v, .int (k : Int)] ∧ Scr K ns v H ∧ k < 100 ∧ S = D K (.int (ns.getD k 0))
def Dig (m : Int) (n : Nat) (ds : List Int) : Prop := ds.length = n ∧ ∀ d ∈ ds, 0 ≤ d ∧ d < m
def preDig (K : PySem.W.Frag) (vs : List V) (H : Hp) (S : VP) : Prop := ∃ (c m : Int) (n : Nat), vs = [.int c, .int m, .int (n : Int)] ∧ 0 < m ∧ m < 1000000 ∧ n < 1000 ∧ S = DS K (Dig m n) dL
def shps : List (Int × Int) := [(2, 1), (2, 2), (2, 3), (3, 1), (3, 2), (5, 1), (2, 4), (3, 3), (7, 1), (5, 2), (2, 5), (7, 2)]
def preShape (K : PySem.W.Frag) (vs : List V) (H : Hp) (S : VP) : Prop := ∃ (i : Nat), vs = [.int (i : Int)] ∧ i < 12 ∧ S = D K (.tuple [.int (shps.getD i (0, 0)).1, .int (shps.getD i (0, 0)).2])
def prePts (K : PySem.W.Frag) (vs : List V) (H : Hp) (S : VP) : Prop := ∃ (p : Int) (n : Nat), vs = [.int p, .int (n : Int)] ∧ Sm p n ∧ S = D K (dPts (pts p n))
def menu : List Str := ["x", "y", "z", "x1", "b", "word", "k9", "verylongname"]
def nmIx (start step k : Nat) : Nat := (start + step * k) % 8
theorem nm_nodup : ∀ start, start < 8 → ∀ j, j < 4 → ∀ n, n < 5 → ((List.range n).map (nmIx start (2 * j + 1))).Nodup := by decide +kernel
theorem menu_inj : ∀ a, a < 8 → ∀ b, b < 8 → menu.getD a "" = menu.getD b "" → a = b := by decide +kernel
def NamesOk (n : Nat) (xs : List Str) : Prop := xs.length = n ∧ xs.Nodup ∧ ∀ x ∈ xs, x ∈ menu
theorem names_ok (start : Nat) (h1 : start < 8) (j : Nat) (h2 : j < 4) (n : Nat) (h3 : n < 5) : NamesOk n ((List.range n).map fun k => menu.getD (nmIx start (2 * j + 1) k) "") := by
  refine ⟨by rw [List.length_map, List.length_range], ?_, ?_⟩
  · have e : ((List.range n).map fun k => menu.getD (nmIx start (2 * j + 1) k) "") = ((List.range n).map (nmIx start (2 * j + 1))).map fun i => menu.getD i "" := by rw [List.map_map]; rfl
    rw [e]
    refine List.pairwise_map.mpr (List.Pairwise.imp_of_mem (fun {a b} ha hb hne hab => hne ?_) (nm_nodup start h1 j h2 n h3))
    have la : a < 8 := by
      obtain ⟨k, _, rfl⟩ := List.mem_map.mp ha
      exact Nat.mod_lt _ (by decide)
    have lb : b < 8 := by
      obtain ⟨k, _, rfl⟩ := List.mem_map.mp hb
      exact Nat.mod_lt _ (by decide)
    exact menu_inj a la b lb hab
  · intro x hx
    obtain ⟨k, _, rfl⟩ := List.mem_map.mp hx
    have lb : nmIx start (2 * j + 1) k < menu.length := Nat.mod_lt _ (by decide)
    rw [getD_in lb]
    exact List.getElem_mem lb
def dN (xs : List Str) : PyData := .list (xs.map .str)
def preNames (K : PySem.W.Frag) (vs : List V) (H : Hp) (S : VP) : Prop := ∃ (c : Int) (n : Nat), vs = [.int c, .int (n : Int)] ∧ n < 5 ∧ S = DS K (NamesOk n) dN
theorem sc__law_cell : FnScope ["_law_script", "_law_k"] ["_law_script", "_law_k"] (defScope (top 36)) := ⟨rfl, rfl, rfl, by decide +kernel, rfl, by decide +kernel, by decide +kernel⟩
theorem sc__law_digits : FnScope ["_law_cell_here", "_law_many", "_law_count", "_law_digits_here", "_law_rest", "_law_k", "_law_mixed"] ["_law_cell_here", "_law_many", "_law_count"] (defScope (top 37)) := ⟨rfl, rfl, rfl, by decide +kernel, rfl, by decide +kernel, by decide +kernel⟩
theorem sc__law_shape : FnScope ["_law_cell_here", "_law_shapes"] ["_law_cell_here"] (defScope (top 38)) := ⟨rfl, rfl, rfl, by decide +kernel, rfl, by decide +kernel, by decide +kernel⟩
theorem sc__law_names : FnScope ["_law_cell_here", "_law_count", "_law_menu", "_law_start", "_law_step", "_law_k"] ["_law_cell_here", "_law_count"] (defScope (top 39)) := ⟨rfl, rfl, rfl, by decide +kernel, rfl, by decide +kernel, by decide +kernel⟩
theorem sc__law_points : FnScope ["_law_prime", "_law_count", "_law_found", "_law_k", "_law_longer", "_law_row", "_law_number"] ["_law_prime", "_law_count"] (defScope (top 40)) := ⟨rfl, rfl, rfl, by decide +kernel, rfl, by decide +kernel, by decide +kernel⟩
section
variable {P : Program} {w : World} {K : PySem.W.Frag} {mg : Str → Option Value} {base : Heap} {CS : Addr}
theorem cl_cell (T : Txt mg) (d : DefAt K mg "_law_cell" (top 36)) : Cl P w K mg base 1 "_law_cell" (Prom (preCell K)) := by
  refine mkCl d (ps := ["_law_script", "_law_k"]) (fun _ _ _ _ _ _ us hl => match us, hl with | [_, _], _ => rfl) sc__law_cell ?_ fun f cdv A outer s H vs S Q E hr h q => ?_
  · rintro vs H S ⟨_, _, _, rfl, _⟩; rfl
  · obtain ⟨ns, k, v, rfl, hv, hk, rfl⟩ := h
    refine ⟨_, pss_cons (ps_if (pt_cmpR op_lt (pv 1) (pe_callB (cr_lenK K) rfl T.len rfl (pa_cons (pv 0) pa_nil)) rfl)
        (pss_one (ps_ret (pe_ix (ix_listK K) (pv 0) (pv 1) (fun _ _ => rfl))))
        pss_nil)
      (pss_one (ps_ret pe_int)), ?_⟩
    refine q_if (evt_test (K := K) (ev_cmp (f := fun i j => decide (i < j)) (ev_vi rfl) (ev_lenScr (ev_var rfl hv)))) (fun hb H1 s1 => ?_) (fun hb H1 s1 => ?_)
    · have hl : k < ns.length := by have := of_decide_eq_true hb; omega
      refine s_ret (P := D K (.int (ns.getD k 0))) (ev_ixScr (k := k) (ev_var rfl (Mono.go s1 hv)) (ev_vi rfl) (by rw [List.getElem?_eq_getElem hl, getD_in hl])) fun v H2 s2 hv2 => ?_
      exact q v H2 (s1.trans s2) hv2
    · have hl : ns.length ≤ k := by have := of_decide_eq_false hb; omega
      show tRet (tC (.int 0)) { nx := fun x H' => Q V.non H', rt := Q } (start ["_law_script", "_law_k"] [v, .int (k : Int)]) H1
      refine s_ret (P := D K (.int 0)) ev_int fun v H2 s2 hv2 => q v H2 (s1.trans s2) ?_
      rw [getD_out hl]; exact hv2
theorem cl_digits (T : Txt mg) (d : DefAt K mg "_law_digits" (top 37)) : Cl P w K mg base 1 "_law_digits" (Prom (preDig K)) := by
  refine mkCl d (ps := ["_law_cell_here", "_law_many", "_law_count"]) (fun _ _ _ _ _ _ us hl => match us, hl with | [_, _, _], _ => rfl) sc__law_digits ?_ fun f cdv A outer s H vs S Q E hr h q => ?_
  · rintro vs H S ⟨_, _, _, rfl, _⟩; rfl
  · obtain ⟨c, m, n, rfl, hm, hm2, hn, rfl⟩ := h
    refine ⟨_, pss_cons (ps_set (i := 3) sc__law_digits.nd rfl (.inl rfl) (pe_lst pa_nil))
      (pss_cons (ps_set (i := 4) sc__law_digits.nd rfl (.inl rfl) (pv 0))
      (pss_cons (ps_for PassesOwn.never rfl (pi_range1 rfl T.range (pa_cons (pv 2) pa_nil)) (pg_name (i := 5) sc__law_digits.nd rfl (.inl rfl))
        (pss_one (ps_if (pt_cmpR op_ge (pv 0) (pe_op op_pow pe_int pe_int) rfl)
          (pss_cons (ps_expr (pe_bm PySem.F.plainAttrs_list PySem.F.slot_list_append PySem.F.type_list_append mt_append (pv 3) (pa_cons (pe_op op_mod (pe_callTy cr_int rfl T.int rfl (pa_cons (pv 4) pa_nil)) (pv 1)) pa_nil)))
          (pss_one (ps_set (i := 4) sc__law_digits.nd rfl (.inl rfl) (pe_op op_fdiv (pv 4) (pv 1)))))
          (pss_cons (ps_set (i := 6) sc__law_digits.nd rfl (.inl rfl) (pe_op op_mod (pe_callTy cr_int rfl T.int rfl (pa_cons (pe_op op_add (pe_op op_add (pe_op op_mul (pv 0) pe_int) (pe_op op_mul (pv 5) pe_int)) pe_int) pa_nil)) pe_int))
          (pss_cons (ps_set (i := 6) sc__law_digits.nd rfl (.inl rfl) (pe_op op_mod (pe_callTy cr_int rfl T.int rfl (pa_cons (pe_op op_add (pe_op op_add (pe_op op_mul (pv 6) (pv 6)) (pe_op op_mul pe_int (pv 6))) (pv 5)) pa_nil)) pe_int))
          (pss_one (ps_expr (pe_bm PySem.F.plainAttrs_list PySem.F.slot_list_append PySem.F.type_list_append mt_append (pv 3) (pa_cons (pe_op op_mod (pe_callTy cr_int rfl T.int rfl (pa_cons (pe_op op_fdiv (pv 6) pe_int) pa_nil)) (pv 1)) pa_nil)))))))))
      (pss_one (ps_ret (pv 3))))), ?_⟩
    refine q_asg (ev_nilM (K := K)) fun v H1 s1 hv => ?_
    obtain ⟨a, rfl, ma⟩ := hv
    refine q_asg (P := D K (.int c)) (ev_vi rfl) fun v H2 s2 hv => ?_
    obtain rfl := dp_int hv
    refine q_forR (K := K) (n := (n : Int)) (eva_cons (ev_vi rfl) eva_nil) (by omega) (by omega)
      (fun i σ' H' => ∃ (ds : List Int) (r : Int) (y z : Option V), Made K H a (ds.map .int) H' ∧ Dig m i ds ∧ σ' = [some (.int c), some (.int m), some (.int n), some (.ref a), some (.int r), y, z]) (fun H3 s3 => ⟨[], c, _, _, ma.up (s2.trans s3), ⟨rfl, fun d h => by cases h⟩, rfl⟩) ?_ ?_
    · rintro i σ' H' hi ⟨ds, r, y, z, md, dg, rfl⟩
      have hz : (ds.map PyData.int).length < 1000000 := by rw [List.length_map, dg.1]; omega
      have nxt : ∀ (e : Int), 0 ≤ e ∧ e < m → Dig m (i + 1) (ds ++ [e]) := fun e he => ⟨by rw [List.length_append, dg.1]; rfl, fun d hd => by
        rcases List.mem_append.mp hd with hd | hd
        · exact dg.2 d hd
        · rw [List.mem_singleton.mp hd]; exact he⟩
      have app : ∀ e : Int, ds.map PyData.int ++ [.int e] = (ds ++ [e]).map .int := fun e => by rw [List.map_append]; rfl
      refine s_if (evt_test (K := K) (ev_cmp (f := fun i j => decide (j ≤ i)) (ev_vi rfl) (ev_iiC (f := fun i j => i ^ j.toNat) ev_int ev_int ⟨by decide, by decide, by decide⟩))) (fun _ H3 s3 => ?_) (fun _ H3 s3 => ?_)
      · refine q_appM (md.up s3) rfl (nl_ints _) (d := .int (r % m)) rfl hz (ev_iiC (f := fun i j => i % j) (ev_intI (ev_vi rfl)) (ev_vi rfl) hm) fun H4 m4 _ => ?_
        refine s_asg (P := D K (.int (r / m))) (ev_iiC (f := fun i j => i / j) (ev_vi rfl) (ev_vi rfl) ⟨hm, by omega⟩) fun v H5 s5 hv5 => ?_
        obtain rfl := dp_int hv5
        exact ⟨ds ++ [r % m], _, _, _, by rw [← app]; exact m4.up s5, nxt _ ⟨Int.emod_nonneg _ (by omega), Int.emod_lt_of_pos _ hm⟩, rfl⟩
      · refine q_asg (P := D K (.int ((c * 48271 + i * 69621 + 1013) % 2147483647))) (ev_iiC (f := fun i j => i % j) (ev_intI (ev_ii (f := fun i j => i + j) (ev_ii (f := fun i j => i + j) (ev_iiC (f := fun i j => i * j) (ev_vi rfl) ev_int (.inr (by decide))) (ev_iiC (f := fun i j => i * j) (ev_vi rfl) ev_int (.inr (by decide)))) ev_int)) ev_int (by decide)) fun v H4 s4 hv4 => ?_
        obtain rfl := dp_int hv4
        have hb1 : 0 ≤ (c * 48271 + i * 69621 + 1013) % 2147483647 ∧ (c * 48271 + i * 69621 + 1013) % 2147483647 < 2147483647 := ⟨Int.emod_nonneg _ (by decide), Int.emod_lt_of_pos _ (by decide)⟩
        generalize (c * 48271 + (i : Int) * 69621 + 1013) % 2147483647 = u at hb1
        refine q_asg (P := D K (.int ((u * u + 7 * u + i) % 2147483629))) (ev_iiC (f := fun i j => i % j) (ev_intI (ev_ii (f := fun i j => i + j) (ev_ii (f := fun i j => i + j) (ev_iiC (f := fun i j => i * j) (ev_vi rfl) (ev_vi rfl) (.inr (by omega))) (ev_iiC (f := fun i j => i * j) ev_int (ev_vi rfl) (.inr (by omega)))) (ev_vi rfl))) ev_int (by decide)) fun v H5 s5 hv5 => ?_
        obtain rfl := dp_int hv5
        generalize (u * u + 7 * u + (i : Int)) % 2147483629 = t
        refine s_appM (md.up ((s3.trans s4).trans s5)) rfl (nl_ints _) (d := .int ((t / 31) % m)) rfl hz (ev_iiC (f := fun i j => i % j) (ev_intI (ev_iiC (f := fun i j => i / j) (ev_vi rfl) ev_int ⟨by decide, by decide⟩)) (ev_vi rfl) hm) fun H6 m6 _ => ?_
        exact ⟨ds ++ [(t / 31) % m], _, _, _, by rw [← app]; exact m6, nxt _ ⟨Int.emod_nonneg _ (by omega), Int.emod_lt_of_pos _ hm⟩, rfl⟩
    · rintro σ' H' ⟨ds, r, y, z, md, dg, rfl⟩
      rw [Int.toNat_natCast] at dg
      refine s_ret (P := D K (dL ds)) (ev_var rfl md.seq) fun v H3 s3 hv3 => q v H3 (md.2.1.trans s3) ⟨ds, dg, hv3⟩
theorem cl_shape (T : Txt mg) (d : DefAt K mg "_law_shape" (top 38)) : Cl P w K mg base 1 "_law_shape" (Prom (preShape K)) := by
  refine mkCl d (ps := ["_law_cell_here"]) (fun _ _ _ _ _ _ us hl => match us, hl with | [_], _ => rfl) sc__law_shape ?_ fun f cdv A outer s H vs S Q E hr h q => ?_
  · rintro vs H S ⟨_, rfl, _⟩; rfl
  · obtain ⟨i, rfl, hi, rfl⟩ := h
    refine ⟨_, pss_cons (ps_set (i := 1) sc__law_shape.nd rfl (.inl rfl) (pe_lst (pa_cons (pe_tup (pa_cons pe_int (pa_cons pe_int pa_nil))) (pa_cons (pe_tup (pa_cons pe_int (pa_cons pe_int pa_nil))) (pa_cons (pe_tup (pa_cons pe_int (pa_cons pe_int pa_nil))) (pa_cons (pe_tup (pa_cons pe_int (pa_cons pe_int pa_nil))) (pa_cons (pe_tup (pa_cons pe_int (pa_cons pe_int pa_nil))) (pa_cons (pe_tup (pa_cons pe_int (pa_cons pe_int pa_nil))) (pa_cons (pe_tup (pa_cons pe_int (pa_cons pe_int pa_nil))) (pa_cons (pe_tup (pa_cons pe_int (pa_cons pe_int pa_nil))) (pa_cons (pe_tup (pa_cons pe_int (pa_cons pe_int pa_nil))) (pa_cons (pe_tup (pa_cons pe_int (pa_cons pe_int pa_nil))) (pa_cons (pe_tup (pa_cons pe_int (pa_cons pe_int pa_nil))) (pa_cons (pe_tup (pa_cons pe_int (pa_cons pe_int pa_nil))) pa_nil))))))))))))))
      (pss_one (ps_ret (pe_ix (ix_listK K) (pv 1) (pe_op op_mod (pe_callTy cr_int rfl T.int rfl (pa_cons (pv 0) pa_nil)) pe_int) (fun _ _ => rfl)))), ?_⟩
    have tw : ∀ {a b : Int} {σ : Slots} {H : Hp}, EV (tTup (tCons (tC (.int a)) (tCons (tC (.int b)) tNil))) σ H (D K (.tuple [.int a, .int b])) := fun {a b _ _} => ev_tup (ds := [.int a, .int b]) (eva_cons ev_int (eva_cons ev_int eva_nil)) (by simp)
    refine q_asg (P := D K (.list (shps.map fun s => .tuple [.int s.1, .int s.2]))) (ev_lst (ds := shps.map fun s => .tuple [.int s.1, .int s.2]) (eva_cons tw <| eva_cons tw <| eva_cons tw <| eva_cons tw <| eva_cons tw <| eva_cons tw <| eva_cons tw <| eva_cons tw <| eva_cons tw <| eva_cons tw <| eva_cons tw <| eva_cons tw eva_nil) (by decide)) fun v H1 s1 hv => ?_
    refine s_ret (ev_ixL (i := (i : Int) % 12) (k := i) (ev_var rfl hv) (ev_iiC (f := fun i j => i % j) (ev_intI (ev_vi rfl)) ev_int (by decide)) (by omega) ?_) fun v H2 s2 hv2 => q v H2 (s1.trans s2) hv2
    have hl : i < shps.length := hi
    rw [List.getElem?_map, List.getElem?_eq_getElem hl, getD_in hl]; rfl
theorem cl_names (T : Txt mg) (d : DefAt K mg "_law_names" (top 39)) : Cl P w K mg base 1 "_law_names" (Prom (preNames K)) := by
  refine mkCl d (ps := ["_law_cell_here", "_law_count"]) (fun _ _ _ _ _ _ us hl => match us, hl with | [_, _], _ => rfl) sc__law_names ?_ fun f cdv A outer s H vs S Q E hr h q => ?_
  · rintro vs H S ⟨_, _, rfl, _⟩; rfl
  · obtain ⟨c, n, rfl, hn, rfl⟩ := h
    refine ⟨_, pss_cons (ps_set (i := 2) sc__law_names.nd rfl (.inr rfl) (pe_lst (pa_cons pe_str (pa_cons pe_str (pa_cons pe_str (pa_cons pe_str (pa_cons pe_str (pa_cons pe_str (pa_cons pe_str (pa_cons pe_str pa_nil))))))))))
      (pss_cons (ps_set (i := 3) sc__law_names.nd rfl (.inr rfl) (pe_op op_mod (pe_callTy cr_int rfl T.int rfl (pa_cons (pv 0) pa_nil)) pe_int))
      (pss_cons (ps_set (i := 4) sc__law_names.nd rfl (.inr rfl) (pe_ix (ix_listK K) (pe_lst (pa_cons pe_int (pa_cons pe_int (pa_cons pe_int (pa_cons pe_int pa_nil))))) (pe_op op_mod (pe_callTy cr_int rfl T.int rfl (pa_cons (pe_op op_fdiv (pv 0) pe_int) pa_nil)) pe_int) (fun _ _ => rfl)))
      (pss_one (ps_ret (pe_lc rfl sc__law_names.nd (pi_range1 rfl T.range (pa_cons (pv 1) pa_nil)) (blkOk_by (own := [("_law_k", 5)]) (N := ["_law_cell_here", "_law_count", "_law_menu", "_law_start", "_law_step", "_law_k"]) (sc := (defScope (top 39))) (by decide +kernel)) (fun _ _ _ _ _ => (pg_name (i := 5) sc__law_names.nd rfl (.inl rfl))) (fun _ _ _ _ _ => pts_nil) (fun _ _ _ _ _ => (pe_ix (ix_listK K) (pv 2) (pe_op op_mod (pe_callTy cr_int rfl T.int rfl (pa_cons (pe_op op_add (pv 3) (pe_op op_mul (pv 4) (pv 5))) pa_nil)) pe_int) (fun _ _ => rfl)))))))), ?_⟩
    refine q_asg (P := D K (dN menu)) (ev_lst (ds := menu.map .str) (eva_cons ev_str <| eva_cons ev_str <| eva_cons ev_str <| eva_cons ev_str <| eva_cons ev_str <| eva_cons ev_str <| eva_cons ev_str <| eva_cons ev_str eva_nil) (by decide)) fun v H1 s1 hv => ?_
    obtain ⟨b, hb, hbe⟩ : ∃ b : Nat, b < 8 ∧ c % 8 = (b : Int) := ⟨(c % 8).toNat, by omega, by omega⟩
    obtain ⟨j, hj, hje⟩ : ∃ j : Nat, j < 4 ∧ (c / 8) % 4 = (j : Int) := ⟨((c / 8) % 4).toNat, by omega, by omega⟩
    refine q_asg (P := D K (.int (b : Int))) ((ev_iiC (f := fun i j => i % j) (ev_intI (ev_vi rfl)) ev_int (by decide)).eqD (by rw [hbe])) fun v H2 s2 hv2 => ?_
    obtain rfl := dp_int hv2
    refine q_asg (P := D K (.int ((2 * j + 1 : Nat) : Int))) (ev_ixL (ds := [.int 1, .int 3, .int 5, .int 7]) (k := j) (ev_lst (ds := [.int 1, .int 3, .int 5, .int 7]) (eva_cons ev_int <| eva_cons ev_int <| eva_cons ev_int <| eva_cons ev_int eva_nil) (by simp)) (ev_iiC (f := fun i j => i % j) (ev_intI (ev_iiC (f := fun i j => i / j) (ev_vi rfl) ev_int ⟨by decide, by decide⟩)) ev_int (by decide)) hje ?_) fun v H3 s3 hv3 => ?_
    · rcases j with _ | _ | _ | _ | j <;> first | rfl | omega
    obtain rfl := dp_int hv3
    refine s_ret (P := D K (dN ((List.range n).map fun k => menu.getD (nmIx b (2 * j + 1) k) ""))) ?_ fun v H4 s4 hv4 => q v H4 (((s1.trans s2).trans s3).trans s4) ⟨_, names_ok b hb j hj n hn, hv4⟩
    refine (ev_lcR (n := (n : Int)) (p := fun _ => true) (e := fun k => .str (menu.getD (nmIx b (2 * j + 1) k) "")) (eva_cons (ev_vi rfl) eva_nil) (by omega) (by omega) (fun _ => rfl) ?_).eqD (by rw [gath_all, Int.toNat_natCast]; unfold dN; rw [List.map_map]; rfl)
    intro k hk H4 s4
    refine item_name rfl evt_yes fun _ => ?_
    refine ev_ixL (ds := menu.map .str) (i := ((b : Int) + ((2 * j + 1 : Nat) : Int) * (k : Int)) % 8) (k := nmIx b (2 * j + 1) k) (ev_var rfl (Mono.go (P := D K (dN menu)) ((s2.trans s3).trans s4) hv)) (ev_iiC (f := fun i j => i % j) (ev_intI (ev_ii (f := fun i j => i + j) (ev_vi rfl) (ev_iiC (f := fun i j => i * j) (ev_vi rfl) (ev_vi rfl) (.inr (by omega))))) ev_int (by decide)) ?_ ?_
    · unfold nmIx
      rw [Int.natCast_emod, Int.natCast_add, Int.natCast_mul]; rfl
    · have lb : nmIx b (2 * j + 1) k < menu.length := Nat.mod_lt _ (by decide)
      rw [List.getElem?_map, List.getElem?_eq_getElem lb, getD_in lb]; rfl
theorem cl_points (T : Txt mg) (d : DefAt K mg "_law_points" (top 40)) : Cl P w K mg base 1 "_law_points" (Prom (prePts K)) := by
  refine mkCl d (ps := ["_law_prime", "_law_count"]) (fun _ _ _ _ _ _ us hl => match us, hl with | [_, _], _ => rfl) sc__law_points ?_ fun f cdv A outer s H vs S Q E hr h q => ?_
  · rintro vs H S ⟨_, _, rfl, _⟩; rfl
  · obtain ⟨p, n, rfl, sm, rfl⟩ := h
    refine ⟨_, pss_cons (ps_set (i := 2) sc__law_points.nd rfl (.inl rfl) (pe_lst (pa_cons (pe_tup pa_nil) pa_nil)))
      (pss_cons (ps_for PassesOwn.never rfl (pi_range1 rfl T.range (pa_cons (pv 1) pa_nil)) (pg_name (i := 3) sc__law_points.nd rfl (.inl rfl))
        (pss_cons (ps_set (i := 4) sc__law_points.nd rfl (.inl rfl) (pe_lst pa_nil))
        (pss_cons (ps_for PassesOwn.never rfl (pi_listK K (pv 2)) (pg_name (i := 5) sc__law_points.nd rfl (.inr rfl))
          (pss_one (ps_expr (pe_bm PySem.F.plainAttrs_list PySem.F.slot_list_extend PySem.F.type_list_extend mt_extend (pv 4) (pa_cons (pe_lc rfl sc__law_points.nd (pi_range1 rfl T.range (pa_cons (pv 0) pa_nil)) (blkOk_by (own := [("_law_number", 6)]) (N := ["_law_prime", "_law_count", "_law_found", "_law_k", "_law_longer", "_law_row", "_law_number"]) (sc := (defScope (top 40))) (by decide +kernel)) (fun _ _ _ _ _ => (pg_name (i := 6) sc__law_points.nd rfl (.inl rfl))) (fun _ _ _ _ _ => pts_nil) (fun _ _ _ _ _ => (pe_op (op_catK K) (pv 5) (pe_tup (pa_cons (pv 6) pa_nil))))) pa_nil)))))
        (pss_one (ps_set (i := 2) sc__law_points.nd rfl (.inl rfl) (pv 4))))))
      (pss_one (ps_ret (pv 2)))), ?_⟩
    have := sm.lo
    have := sm.hi
    have := sm.n
    refine q_asg (P := D K (dPts [[]])) (ev_lst (ds := [dI []]) (eva_cons (ev_tup (ds := []) eva_nil (by decide)) eva_nil) (by decide)) fun v H1 s1 hv => ?_
    refine q_forR (K := K) (n := (n : Int)) (eva_cons (ev_vi rfl) eva_nil) (by omega) (by omega)
      (fun i σ' H' => Same H1 H' ∧ ∃ y z l r, D K (dPts (pts p i)) z H' ∧ σ' = [some (.int p), some (.int n), some z, y, l, r, none]) (fun H2 s2 => ⟨s2, _, _, _, _, Mono.go s2 hv, rfl⟩) ?_ ?_
    · rintro i σ' H' hi ⟨sm1, y, z, l, r, hz, rfl⟩
      have sm2 : Sm p (i + 1) := ⟨sm.lo, sm.hi, by omega⟩
      have sm0 : Sm p i := ⟨sm.lo, sm.hi, by omega⟩
      have l9 := pts_small sm2
      refine q_asg (ev_nilM (K := K)) fun v H2 s2 hv2 => ?_
      obtain ⟨L, rfl, mL⟩ := hv2
      have mL' := mL
      obtain ⟨n1, n2, ys, n3, n4⟩ := mL'
      have hys : ys.length = 0 := n4.len
      have hpos : (pts p i).length ≠ 0 := by
        rw [pts_len]
        have : 0 < p.toNat ^ i := Nat.pow_pos (by omega)
        omega
      refine q_forLo (K := K) (L := L) (ds := (pts p i).map dI) (ev_var rfl (Mono.go (P := D K (dPts (pts p i))) s2 hz)) (nlAll_iff.mpr fun d hd => by obtain ⟨a, _, rfl⟩ := List.mem_map.mp hd; exact nl_dI a) n3 (by rw [List.length_map, hys]; exact hpos)
        (fun k σ' H3 => ∃ r, Made K H' L ((((pts p i).take k).flatMap fun r => (List.range p.toNat).map fun (k : Nat) => r ++ [(k : Int)]).map dI) H3 ∧ σ' = [some (.int p), some (.int n), some z, some (.int i), some (.ref L), r, none]) ?_ (fun H3 s3 => ⟨_, mL.up s3, rfl⟩) ?_
      · rintro H0 s0 k dd x σ' H3 hx sO ⟨r, m3, rfl⟩ dx
        rw [List.getElem?_map] at hx
        obtain ⟨b, hb, rfl⟩ := Option.map_eq_some_iff.mp hx
        have hbm := (pts_mem p i b (List.mem_of_getElem? hb)).1
        have es1 : (((pts p i).take (k + 1)).flatMap fun r => (List.range p.toNat).map fun (k : Nat) => r ++ [(k : Int)]).map dI = (((pts p i).take k).flatMap fun r => (List.range p.toNat).map fun (k : Nat) => r ++ [(k : Int)]).map dI ++ (List.range p.toNat).map fun (k : Nat) => dI (b ++ [(k : Int)]) := by
          rw [List.take_add_one, hb, List.flatMap_append, List.map_append]
          congr 1
          simp [List.map_map]
        have hlen : ((((pts p i).take (k + 1)).flatMap fun r => (List.range p.toNat).map fun (k : Nat) => r ++ [(k : Int)]).map dI).length ≤ (pts p (i + 1)).length := by
          rw [List.length_map]
          have e9 : pts p (i + 1) = ((pts p i).take (k + 1)).flatMap (fun r => (List.range p.toNat).map fun (k : Nat) => r ++ [(k : Int)]) ++ ((pts p i).drop (k + 1)).flatMap (fun r => (List.range p.toNat).map fun (k : Nat) => r ++ [(k : Int)]) := by
            rw [← List.flatMap_append, List.take_append_drop]; rfl
          rw [e9, List.length_append]; omega
        rw [es1, List.length_append] at hlen
        refine s_extM (K := K) (es := (List.range p.toNat).map fun (k : Nat) => dI (b ++ [(k : Int)])) m3 rfl (nlAll_iff.mpr fun d hd => by obtain ⟨a, _, rfl⟩ := List.mem_map.mp hd; exact nl_dI a) (nlAll_iff.mpr fun d hd => by obtain ⟨a, _, rfl⟩ := List.mem_map.mp hd; exact nl_dI _) (by omega) ?_ fun H4 m4 sO4 => ⟨sO.trans sO4, _, by rw [es1]; exact m4, rfl⟩
        have e8 : (List.range p.toNat).map (fun (k : Nat) => dI (b ++ [(k : Int)])) = gath (fun _ => true) (fun (k : Nat) => dI (b ++ [(k : Int)])) (List.range p.toNat) := (gath_all _ _).symm
        rw [e8]
        refine ev_lcRN (n := p) (eva_cons (ev_vi rfl) eva_nil) (by omega) (by omega) (fun _ => nl_dI _) fun t ht H5 s5 => item_name rfl evt_yes fun _ => ?_
        refine (ev_catT (ds := b.map .int) (es := [.int (t : Int)]) (ev_var rfl (Mono.go (P := D K (dI b)) s5 dx)) (ev_tup (ds := [.int (t : Int)]) (eva_cons (ev_vi rfl) eva_nil) (by simp)) (by rw [List.length_map]; simp; omega)).eqD ?_
        show _ = PyData.tuple ((b ++ [(t : Int)]).map .int)
        rw [List.map_append]; rfl
      · rintro σ' H3 sO ⟨r, m3, rfl⟩
        rw [List.length_map, List.take_length] at m3
        exact s_asg (P := D K (dPts (pts p (i + 1)))) (ev_var rfl m3.seq) fun v H4 s4 hv4 => ⟨(sm1.trans m3.2.1).trans s4, _, _, _, _, hv4, rfl⟩
    · rintro σ' H' ⟨sm1, y, z, l, r, hz, rfl⟩
      rw [Int.toNat_natCast] at hz
      exact s_ret (P := D K (dPts (pts p n))) (ev_var rfl hz) fun v H2 s2 hv2 => q v H2 ((s1.trans sm1).trans s2) hv2
end
end SPw
namespace SPw
open PySem PySem.Spec PyProof.Rows L2
def prePV (K : PySem.W.Frag) (vs : List V) (H : Hp) (S : VP) : Prop := ∃ (p : Int) (e x : List Int) (v2 v3 : V), vs = [.int p, v2, v3] ∧ 1 < p ∧ p < 10 ∧ D K (dI e) v2 H ∧ D K (dI x) v3 H ∧ e.length = x.length ∧ e.length < 1000 ∧ (∀ a ∈ e, 0 ≤ a ∧ a < p) ∧ S = D K (.int (vo p e x))
def preLV (K : PySem.W.Frag) (vs : List V) (H : Hp) (S : VP) : Prop := ∃ (p : Int) (n L : Nat) (ts : Poly) (x : List Int) (v2 v3 : V), vs = [.int p, v2, v3] ∧ Sm p n ∧ D K (dPoly ts) v2 H ∧ D K (dI x) v3 H ∧ x.length = n ∧ Wf p n L ts ∧ L ≤ 1000 ∧ S = D K (.int (val p ts x))
theorem mulmod (p f r b : Int) : f * r % p * b % p = f * (r * b % p) % p := by
  rw [Int.mul_emod (f * r % p) b p, Int.emod_emod, ← Int.mul_emod, Int.mul_emod f (r * b % p) p, Int.emod_emod, ← Int.mul_emod, Int.mul_assoc]
theorem sc__law_power_value : FnScope ["_law_prime", "_law_power", "_law_point", "_law_found", "_law_k", "_law_turn"] ["_law_prime", "_law_power", "_law_point"] (defScope (top 43)) := ⟨rfl, rfl, rfl, by decide +kernel, rfl, by decide +kernel, by decide +kernel⟩
theorem sc__law_value : FnScope ["_law_prime", "_law_one", "_law_point", "_law_total", "_law_power", "_law_number"] ["_law_prime", "_law_one", "_law_point"] (defScope (top 44)) := ⟨rfl, rfl, rfl, by decide +kernel, rfl, by decide +kernel, by decide +kernel⟩
section
variable {P : Program} {w : World} {K : PySem.W.Frag} {mg : Str → Option Value} {base : Heap} {CS : Addr}
theorem cl_pv (T : Txt mg) (d : DefAt K mg "_law_power_value" (top 43)) : Cl P w K mg base 1 "_law_power_value" (Prom (prePV K)) := by
  refine mkCl d (ps := ["_law_prime", "_law_power", "_law_point"]) (fun _ _ _ _ _ _ us hl => match us, hl with | [_, _, _], _ => rfl) sc__law_power_value ?_ fun f cdv A outer s H vs S Q E hr h q => ?_
  · rintro vs H S ⟨_, _, _, _, _, rfl, _⟩; rfl
  · obtain ⟨p, e, x, v2, v3, rfl, h1, h2, he, hx, hl, hle, hb, rfl⟩ := h
    refine ⟨_, pss_cons (ps_set (i := 3) sc__law_power_value.nd rfl (.inl rfl) pe_int)
      (pss_cons (ps_for PassesOwn.never rfl (pi_range1 rfl T.range (pa_cons (pe_callB (cr_lenK K) rfl T.len rfl (pa_cons (pv 1) pa_nil)) pa_nil)) (pg_name (i := 4) sc__law_power_value.nd rfl (.inl rfl))
        (pss_one (ps_for PassesOwn.never rfl (pi_range1 rfl T.range (pa_cons (pe_ix (ix_tupK K) (pv 1) (pv 4) (fun _ _ => rfl)) pa_nil)) (pg_name (i := 5) sc__law_power_value.nd rfl (.inl rfl))
          (pss_one (ps_set (i := 3) sc__law_power_value.nd rfl (.inl rfl) (pe_op op_mod (pe_callTy cr_int rfl T.int rfl (pa_cons (pe_op op_mul (pv 3) (pe_ix (ix_tupK K) (pv 2) (pv 4) (fun _ _ => rfl))) pa_nil)) (pv 0)))))))
      (pss_one (ps_ret (pv 3)))), ?_⟩
    refine q_asg (P := D K (.int 1)) ev_int fun v H1 s1 hv => ?_
    obtain rfl := dp_int hv
    refine q_forR (K := K) (n := (e.length : Int)) (eva_cons ((ev_lenT (ds := e.map .int) (ev_var rfl (Mono.go (P := D K (dI e)) s1 he))).eqD (by rw [List.length_map])) eva_nil) (by omega) (by omega)
      (fun i σ' H' => ∃ (y z : Option V), Same H1 H' ∧ σ' = [some (.int p), some v2, some v3, some (.int (vo p (e.take i) (x.take i))), y, z]) (fun H2 s2 => ⟨_, _, s2, rfl⟩) ?_ ?_
    · rintro i σ' H' hi ⟨y, z, sm, rfl⟩
      have hi1 : i < e.length := by omega
      have hi2 : i < x.length := by omega
      have ha : e[i]? = some e[i] := List.getElem?_eq_getElem hi1
      have hbx : x[i]? = some x[i] := List.getElem?_eq_getElem hi2
      have ba := hb _ (List.getElem_mem hi1)
      have hlo := vo_lo h1 (e.take i) (x.take i)
      have hstep := vo_take p e x i _ _ ha hbx
      generalize e[i] = a at ha ba hstep
      generalize x[i] = b at hbx hstep
      generalize vo p (e.take i) (x.take i) = f at hlo hstep
      refine s_forR (K := K) (n := a) (eva_cons (P := D K (.int a)) (ev_ixT (ds := e.map .int) (k := i) (ev_var rfl (Mono.go (P := D K (dI e)) (s1.trans sm) he)) (ev_vi rfl) rfl (by rw [List.getElem?_map, ha]; rfl)) eva_nil) (by omega) (by omega)
        (fun t σ' H2 => ∃ (z : Option V), Same H' H2 ∧ σ' = [some (.int p), some v2, some v3, some (.int (f * rn p b t % p)), some (.int (i : Int)), z]) (fun H2 s2 => ⟨z, s2, ?_⟩) ?_ ?_
      · show [some (.int p), some v2, some v3, some (.int f), some (.int (i : Int)), z] = _
        rw [show f * rn p b 0 % p = f by show f * 1 % p = f; rw [Int.mul_one]; exact Int.emod_eq_of_lt hlo.1 hlo.2]
      · rintro t σ' H2 ht ⟨z, sm2, rfl⟩
        refine s_asg (P := D K (.int (f * rn p b t % p * b % p))) (ev_iiC (f := fun i j => i % j) (ev_intI (ev_iiC (f := fun i j => i * j) (ev_vi rfl) (ev_ixT (ds := x.map .int) (k := i) (ev_var rfl (Mono.go (P := D K (dI x)) ((s1.trans sm).trans sm2) hx)) (ev_vi rfl) rfl (by rw [List.getElem?_map, hbx]; rfl)) (.inl ?_))) (ev_vi rfl) (by omega)) fun v H3 s3 hv3 => ?_
        · have q1 := Int.emod_nonneg (f * rn p b t) (show p ≠ 0 by omega)
          have q2 := Int.emod_lt_of_pos (f * rn p b t) (show 0 < p by omega)
          omega
        · obtain rfl := dp_int hv3
          have e1 : f * rn p b (t + 1) % p = f * rn p b t % p * b % p := by rw [mulmod]; rfl
          rw [e1]
          exact ⟨_, sm2.trans s3, rfl⟩
      · rintro σ' H2 ⟨z, sm2, rfl⟩
        exact ⟨_, _, sm.trans sm2, by rw [hstep]⟩
    · rintro σ' H' ⟨y, z, sm, rfl⟩
      rw [Int.toNat_natCast, List.take_length, hl, List.take_length]
      exact s_ret (P := D K (.int (vo p e x))) (ev_vi rfl) fun v H3 s3 hv2 => q v H3 ((s1.trans sm).trans s3) hv2
theorem cl_lv (T : Txt mg) (d : DefAt K mg "_law_value" (top 44)) (c__law_power_value : Cl P w K mg base 1 "_law_power_value" (Prom (prePV K))) : Cl P w K mg base 2 "_law_value" (Prom (preLV K)) := by
  refine mkCl d (ps := ["_law_prime", "_law_one", "_law_point"]) (fun _ _ _ _ _ _ us hl => match us, hl with | [_, _, _], _ => rfl) sc__law_value ?_ fun f cdv A outer s H vs S Q E hr h q => ?_
  · rintro vs H S ⟨_, _, _, _, _, _, _, rfl, _⟩; rfl
  · obtain ⟨p, n, L, ts, x, v2, v3, rfl, sm, he, hx, hl, wf, hL, rfl⟩ := h
    refine ⟨_, pss_cons (ps_set (i := 3) sc__law_value.nd rfl (.inl rfl) pe_int)
      (pss_cons (ps_for PassesOwn.never rfl (pi_tupK K (pv 1)) (pg_tupK K (n := 2) (pgs_cons (pg_name (i := 4) sc__law_value.nd rfl (.inl rfl)) (pgs_cons (pg_name (i := 5) sc__law_value.nd rfl (.inl rfl)) pgs_nil)))
        (pss_one (ps_set (i := 3) sc__law_value.nd rfl (.inl rfl) (pe_op op_add (pv 3) (pe_op op_mul (pv 5) (pe_k c__law_power_value hr (by decide) rfl (pa_cons (pv 0) (pa_cons (pv 4) (pa_cons (pv 2) pa_nil)))))))))
      (pss_one (ps_ret (pe_op op_mod (pe_callTy cr_int rfl T.int rfl (pa_cons (pv 3) pa_nil)) (pv 0))))), ?_⟩
    have := sm.lo
    have := sm.hi
    have := sm.n
    refine q_asg (P := D K (.int 0)) ev_int fun v H1 s1 hv => ?_
    obtain rfl := dp_int hv
    refine q_forTk (K := K) (ds := ts.map dTerm) (ev_var rfl (Mono.go (P := D K (dPoly ts)) s1 he))
      (fun i σ' H' => ∃ (y z : Option V), σ' = [some (.int p), some v2, some v3, some (.int ((ts.take i).map fun t => t.2 * vo p t.1 x).sum), y, z]) ?_ (fun H2 s2 => ⟨_, _, rfl⟩) ?_
    · rintro H0 s0 i d v σ' H' h1 s2 ⟨y, z, rfl⟩ h3
      rw [List.getElem?_map] at h1
      obtain ⟨t, ht, rfl⟩ := Option.map_eq_some_iff.mp h1
      obtain ⟨a, y1, rfl, hq, hy1⟩ := dp_term h3
      have wt := wf.tm t (List.mem_of_getElem? ht)
      have hvo := vo_lo sm.lo t.1 x
      refine g_two hq ?_
      refine s_asg (P := D K (.int (((ts.take i).map fun t => t.2 * vo p t.1 x).sum + t.2 * vo p t.1 x))) (ev_ii (f := fun i j => i + j) (ev_vi rfl) (ev_iiC (f := fun i j => i * j) (ev_vi rfl) (ev_call (S := D K (.int (vo p t.1 x))) (eva_cons (P := D K (.int p)) (ev_vi rfl) (eva_cons (P := D K (dI t.1)) (ev_var rfl hy1) (eva_cons (P := D K (dI x)) (ev_var rfl (Mono.go (P := D K (dI x)) ((s1.trans s0).trans s2) hx)) eva_nil))) ?_) (.inr (by omega)))) fun v H3 s3 hv3 => ?_
      · intro vs H4 s4 ps
        obtain ⟨u1, u2, u3, rfl, a1, a2, a3⟩ := allP3 ps
        rw [dp_int a1]
        exact ⟨p, t.1, x, u2, u3, rfl, sm.lo, sm.hi, a2, a3, by rw [wt.len, hl], by rw [wt.len]; omega, wt.ex, rfl⟩
      · obtain rfl := dp_int hv3
        have hs : ((ts.take (i + 1)).map fun t => t.2 * vo p t.1 x).sum = ((ts.take i).map fun t => t.2 * vo p t.1 x).sum + t.2 * vo p t.1 x := by
          rw [List.take_add_one, ht, List.map_append, List.sum_append]
          show _ + (t.2 * vo p t.1 x + 0) = _
          rw [Int.add_zero]
        refine ⟨s2.trans s3, ?_⟩
        rw [hs]
        exact ⟨_, _, rfl⟩
    · rintro σ' H' s2 ⟨y, z, rfl⟩
      rw [List.length_map, List.take_length]
      exact s_ret (P := D K (.int (val p ts x))) (ev_iiC (f := fun i j => i % j) (ev_intI (ev_vi rfl)) (ev_vi rfl) (by omega)) fun v H3 s3 hv2 => q v H3 ((s1.trans s2).trans s3) hv2
end
end SPw
namespace SPw
open PySem PySem.Spec PyProof.Rows L2
/-! sorted(d), sorted(d, reverse=b) of a dict whose keys are tuples of ints, none of them empty: a new list of the keys, in some order -/
/-- a key's tuple and its ints, the first one apart -/
abbrev KA := Addr × Int × List Int
def kaD (b : KA) : PyData := .tuple (.int b.2.1 :: b.2.2.map .int)
theorem ka_alike : ∀ b c : KA, PySem.W.alike (kaD b) (kaD c) = true := fun b c => by
  show PySem.W.alikeAll ((b.2.1 :: b.2.2).map PyData.int) ((c.2.1 :: c.2.2).map PyData.int) = true
  exact PySem.W.alike_ints _ _
theorem ka_depth (b : KA) : (kaD b).depth ≤ 2 := by
  have h : PyData.depthAll ((b.2.1 :: b.2.2).map PyData.int) = 0 := PySem.W.depth_ints _
  show (PyData.tuple ((b.2.1 :: b.2.2).map PyData.int)).depth ≤ 2
  simp only [PyData.depth, h]
  omega
theorem sort_both {prog : Program} {w : World} {A : Around} {E : Value → Shared → Prop} {s : Shared} {a : Addr} {n : Nat} {bs : List KA} {kw : List (Str × Value)} {Q : Value → Shared → Prop}
    (hkw : kw = [] ∨ ∃ b, kw = [(Str.ofString "reverse", .bool b)]) (ho : s.heap.get? a = some (seqObj "list" (bs.map fun b => Value.ref b.1).toArray n))
    (er : ∀ b ∈ bs, ∃ as, Reads s.heap (.ref b.1) (kaD b) as ∧ a ∉ as) (hL : bs.length ≤ sizeLine) (hu : A.units + 3 < cLine)
    (h : ∀ out : List KA, out.Perm bs → Q .none { s with heap := sortedHeap s.heap a (bs.map fun b => Value.ref b.1) (out.map fun b => Value.ref b.1).toArray }) :
    wpAny (model prog w) A (call (.builtin "list.sort") [.ref a] kw) Q E s := by
  have each : ∀ l : List KA, PySem.W.EachIs (fun v (b : KA) => v = Value.ref b.1) (l.map fun b => Value.ref b.1) l := fun l => by
    induction l with
    | nil => exact .nil
    | cons x r ih => exact .cons rfl ih
  have of_each : ∀ (l : List KA) (out : List Value), PySem.W.EachIs (fun v (b : KA) => v = Value.ref b.1) out l → out = l.map fun b => Value.ref b.1 := fun l => by
    induction l with
    | nil => intro out e; cases e; rfl
    | cons x r ih =>
      intro out e
      cases e with
      | cons h1 h2 => rw [h1, ih _ h2]; rfl
  have eachR : ∀ l : List KA, (∀ b ∈ l, b ∈ bs) → PySem.W.EachIs (fun v (b : KA) => ∃ as, Reads s.heap v (kaD b) as ∧ a ∉ as) (l.map fun b => Value.ref b.1) l := fun l => by
    induction l with
    | nil => intro _; exact .nil
    | cons x r ih => intro hm; exact .cons (er x (hm x List.mem_cons_self)) (ih fun b hb => hm b (List.mem_cons_of_mem _ hb))
  have hal : PySem.W.AllAlike (bs.map kaD) := PySem.W.AllAlike.of ka_alike
  have hk : PySem.W.Sortable (bs.map kaD) := PySem.W.Sortable.tuples fun b => ⟨_, _, rfl⟩
  have hd : ∀ b, b ∈ bs → A.units + 1 + (kaD b).depth < cLine := fun b _ => by have := ka_depth b; omega
  rcases hkw with rfl | ⟨b, rfl⟩
  · refine PySem.W.list_sort_data (enc := kaD) ho (each bs) (eachR bs fun _ h => h) hal hk hL hd fun out _ e => ?_
    rw [of_each _ _ e]
    exact h _ (List.mergeSort_perm _ _)
  · refine PySem.W.list_sort_rev_data (enc := kaD) ho (each bs) (eachR bs fun _ h => h) hal hk hL hd fun out _ e => ?_
    rw [of_each _ _ e]
    exact h _ (List.mergeSort_perm _ _)

/-- ints as a key -/
def kI (e : List Int) : List Key := e.map Sum.inl
theorem kI_V (e : List Int) : (kI e).map kV = e.map V.int := by
  unfold kI; rw [List.map_map]; rfl
theorem kI_inj {a b : List Int} (h : kI a = kI b) : a = b := by
  have h2 := congrArg (List.map kV) h
  rw [kI_V, kI_V] at h2
  have : ∀ (a b : List Int), a.map V.int = b.map V.int → a = b := fun a => by
    induction a with
    | nil => intro b h; cases b with | nil => rfl | cons _ _ => simp at h
    | cons x r ih =>
      intro b h
      cases b with
      | nil => simp at h
      | cons y t =>
        rw [List.map_cons, List.map_cons] at h
        injection h with h1 h2
        injection h1 with h1
        rw [h1, ih t h2]
  exact this a b h2
/-- the dict at d: its keys are es, none of them empty -/
def KeysI (kvs : List (List Key × V)) (es : List (List Int)) : Prop := kvs.map (·.1) = es.map kI ∧ ∀ e ∈ es, e ≠ []
section
variable {X : Cx} {pins : List (Addr × Obj)} {σ : Slots} {H : Hp} {s : Shared}
/-- the keys' tuples at bs are the keys es -/
def AtKeys (H : Hp) (bs : List Addr) (es : List (List Int)) : Prop := Paired (fun b (e : List Int) => H b = some (.tup (e.map V.int))) bs es
theorem atKeys_perm {H : Hp} {bs : List KA} : ∀ {out : List KA}, out.Perm bs → (∀ b ∈ bs, H b.1 = some (.tup ((b.2.1 :: b.2.2).map V.int))) → AtKeys H (out.map (·.1)) (out.map fun b => b.2.1 :: b.2.2) := fun {out} hp h => by
  have h' : ∀ b ∈ out, H b.1 = some (.tup ((b.2.1 :: b.2.2).map V.int)) := fun b hb => h b (hp.mem_iff.mp hb)
  clear hp
  induction out with
  | nil => exact .nil
  | cons x r ih => exact .cons (h' x List.mem_cons_self) (ih fun b hb => h' b (List.mem_cons_of_mem _ hb))
theorem kas_of {H : Hp} : ∀ {kvs : List (List Key × V)} {xs : List (List Key × Addr × Value)} {es : List (List Int)}, KT H kvs xs → KeysI kvs es →
    ∃ bs : List KA, bs.map (·.1) = xs.map (fun x => x.2.1) ∧ bs.map (fun b => b.2.1 :: b.2.2) = es ∧ ∀ b ∈ bs, H b.1 = some (.tup ((b.2.1 :: b.2.2).map V.int))
  | _, _, es, .nil, h => ⟨[], rfl, by
      have : es = [] := by simpa using h.1.symm
      rw [this]; rfl, fun _ hb => nomatch hb⟩
  | (p :: kvs), (q :: xs), es, .cons r t, h => by
    obtain ⟨e, er, rfl⟩ : ∃ e er, es = e :: er := by
      cases es with
      | nil => have := h.1; simp at this
      | cons e er => exact ⟨e, er, rfl⟩
    have h1 := h.1
    rw [List.map_cons, List.map_cons] at h1
    injection h1 with h1 h2
    obtain ⟨bs, b1, b2, b3⟩ := kas_of (es := er) t ⟨h2, fun e he => h.2 e (List.mem_cons_of_mem _ he)⟩
    obtain ⟨x, l, rfl⟩ : ∃ x l, e = x :: l := by
      cases e with
      | nil => exact absurd rfl (h.2 [] List.mem_cons_self)
      | cons x l => exact ⟨x, l, rfl⟩
    refine ⟨(q.2.1, x, l) :: bs, by rw [List.map_cons, List.map_cons, b1], by rw [List.map_cons, b2], fun b hb => ?_⟩
    rcases List.mem_cons.mp hb with rfl | hb
    · have := r.2.1
      rw [h1, kI_V] at this
      exact this
    · exact b3 b hb
theorem reads_ints {h : Heap} : ∀ {ns : List Int} {us : List Value} {as : List Addr}, ReadsAll h us (ns.map PyData.int) as → as = []
  | [], _, _, r => by
    have r' : ReadsAll h _ [] _ := r
    cases r'; rfl
  | n :: ns, _, _, r => by
    have r' : ReadsAll h _ (PyData.int n :: ns.map PyData.int) _ := r
    cases r' with
    | cons h1 h2 =>
      cases h1
      rw [reads_ints h2]
      rfl
theorem sortedT_run {kw : List (Str × Value)} {d : Addr} {kvs : List (List Key × V)} {es : List (List Int)} {Q : VK} (I : Inv X pins σ H s) (hc : X.calm = true) (hu : X.A.units + 64 < cLine) (hkw : kw = [] ∨ ∃ b, kw = [(Str.ofString "reverse", .bool b)])
    (hd : H d = some (.dT kvs)) (hK : KeysI kvs es) (q : ∀ (p : Addr) (bs : List Addr) (fs : List (List Int)), fs.Perm es → AtKeys H bs fs → H p = none → Q (.ref p) (upd H p (.lst (bs.map V.ref)))) :
    wpAny (model X.prog X.w) X.A (call (.builtin "sorted") [.ref d] kw) (EP X pins σ Q) X.xe s := by
  obtain ⟨z, hs, ks, pr, o, ents, ep, ho, hx, hdt, he, hn⟩ := (show ObjOk X.prog X.w H s.heap d (.dT kvs) from I.hok d _ hd)
  have l1 : ents.size = ks.length := size_of_entries he
  have l2 : kvs.length = ks.length := Paired.length pr
  obtain ⟨bs, b1, b2, b3⟩ := kas_of pr hK
  have hbl : bs.length = ks.length := by have := congrArg List.length b1; simpa using this
  have ha1 : argsOk "sorted" ⟨[.ref d], kw⟩ := by
    rcases hkw with rfl | ⟨b, rfl⟩
    · exact PyProof.Rows.args_sorted1 _
    · exact PyProof.Rows.args_sorted_rev _ _
  refine PyProof.Rows.call_function_entry_kw PyProof.Rows.kind_sorted PyProof.Rows.plain_sorted PyProof.Rows.entry_sorted ha1 ?_
  unfold Builtin.«sorted»
  refine wpAny_bind (m := checkCount "sorted" 1 1 _) (wpAny_pure ?_)
  refine wpAny_bind (PySem.W.kdu_collect (A := X.A.in1) (kdl_raw hs hx hdt) (I.ok.hd hc) ho (by omega) fun h' tk acc kp it => ?_)
  have ea : acc.toList = bs.map fun b => Value.ref b.1 := by
    have e0 : (bs.map fun b => Value.ref b.1) = ks.map fun x => Value.ref x.2.1 := by
      have := congrArg (List.map Value.ref) b1
      rw [List.map_map, List.map_map] at this
      exact this
    rw [e0]
    have hl : acc.toList.length = ks.length := by rw [Array.length_toList, it.1]; exact l1
    apply List.ext_getElem?
    intro j
    cases hj : acc.toList[j]? with
    | none =>
      have h1 := List.getElem?_eq_none_iff.mp hj
      rw [List.getElem?_eq_none (by rw [List.length_map]; omega)]
    | some v =>
      obtain ⟨en, hen, hv⟩ := it.2 j v (by rw [← Array.getElem?_toList]; exact hj)
      have qe := entry_at he j
      rw [hen] at qe
      cases hb : ks[j]? with
      | none => rw [hb] at qe; cases qe
      | some b =>
        rw [hb] at qe
        rw [List.getElem?_map, hb, hv, Option.some.inj qe]
        rfl
  have I1 : Inv X pins σ H { s with heap := h', toks := tk } := I.kept kp
  refine wpAny_bind (wpAny_newList ?_ (by rw [ea, List.length_map, hbl]; omega))
  rw [ea]
  have hoL : (h'.push (seqObj "list" (bs.map fun b => Value.ref b.1).toArray 0)).get? h'.objs.size = some (seqObj "list" (bs.map fun b => Value.ref b.1).toArray 0) := Heap.get?_push_size _ rfl
  show wpAny _ _ _ _ _ { s with heap := h'.push (seqObj "list" (bs.map fun b => Value.ref b.1).toArray 0), toks := tk }
  refine wpAny_bind (wpAny_holding (sort_both (n := 0) hkw hoL (fun b hb => ?_) (by omega) (by have : X.A.in1.units = X.A.units + 1 := rfl; omega) fun out hp => ?_))
  · obtain ⟨its, rv, ⟨ob, hob, hcl, n, hdat⟩, _⟩ := I1.tuple (.inl (.inl (b3 b hb)))
    obtain ⟨as, hr⟩ := Dp.readsAll I1 ((b.2.1 :: b.2.2).map PyData.int) _ its (TpAll.dp _ _ (dpAll_ints _)) rv
    have e0 := reads_ints hr
    subst e0
    refine ⟨[], Reads.tuple (Heap.get?_push_of_some _ hob) hcl hdat (PyProof.Rows.ReadsAll.keeps (fun _ _ e => Heap.get?_push_of_some _ e) (by simpa using hr)), by simp⟩
  · obtain ⟨e', he'⟩ := PyProof.Rows.sortedHeap_at (vs := bs.map fun b => Value.ref b.1) (out := (out.map fun b => Value.ref b.1).toArray) hoL
    have hz : ((out.map (·.1)).map V.ref).length ≤ sizeLine := by
      rw [List.length_map, List.length_map, hp.length_eq, hbl]; omega
    have rv : Vals ((out.map (·.1)).map V.ref) (out.map fun b => Value.ref b.1) := by
      have e9 : (out.map (·.1)).map Value.ref = out.map fun b => Value.ref b.1 := by rw [List.map_map]; rfl
      have := vals_refs (out.map (·.1))
      rw [e9] at this
      exact this
    refine wpAny_pure ⟨_, rfl, .ref h'.objs.size, upd H h'.objs.size (.lst ((out.map (·.1)).map V.ref)), I1.laid (t' := tk) (fun b u e => ?_) (Nat.le_refl _) ⟨hz, _, e', rv, he'⟩, rfl, q _ _ _ ?_ (atKeys_perm hp b3) (I1.hok.fresh (Nat.le_refl _))⟩
    · have hb : b < h'.objs.size := Heap.lt_size e
      rw [PyProof.Rows.sortedHeap_old (Nat.ne_of_lt hb) (by rw [size_push']; exact Nat.lt_succ_of_lt hb)]
      exact Heap.get?_push_of_some _ e
    · rw [← b2]
      exact hp.map _
/-- as rules -/
def rSortT : List V → Hp → VK → Prop := fun xs H Q => ∃ (d : Addr) (kvs : List (List Key × V)) (es : List (List Int)), xs = [.ref d] ∧ H d = some (.dT kvs) ∧ KeysI kvs es ∧
  ∀ (p : Addr) (bs : List Addr) (fs : List (List Int)), fs.Perm es → AtKeys H bs fs → H p = none → Q (.ref p) (upd H p (.lst (bs.map V.ref)))
theorem cr_sortT (hc : X.calm = true) (hu : X.A.units + 64 < cLine) : CallR X (.builtin "sorted") rSortT := by
  intro pins s σ H xs us Q I r h
  obtain ⟨d, kvs, es, rfl, hd, hK, q⟩ := h
  obtain rfl := Vals.ref1 r
  exact sortedT_run I hc hu (.inl rfl) hd hK q
theorem cr_sortTR {b : Bool} (hc : X.calm = true) (hu : X.A.units + 64 < cLine) : CallRK X (.builtin "sorted") [Str.ofString "reverse"] (fun xs zs H Q => zs = [.bl b] ∧ rSortT xs H Q) := by
  intro pins s σ H xs zs us ws Q I r rz h
  obtain ⟨rfl, d, kvs, es, rfl, hd, hK, q⟩ := h
  obtain rfl := Vals.ref1 r
  obtain ⟨w1, rfl, e1⟩ := vals1 rz
  obtain rfl : w1 = Value.bool b := e1
  exact sortedT_run I hc hu (.inr ⟨b, rfl⟩) hd hK q
end
end SPw
namespace SPw
open PySem PySem.Spec PyProof.Rows L2
/-! {k: v for k, v in d.items()}, the keys tuples -/
section
variable {X : Cx} {pins : List (Addr × Obj)} {σ : Slots} {H : Hp} {s : Shared} {d : Addr} {o : Obj}
theorem frzT2 {kvs : List (List Key × V)} (I : Inv X pins σ H s) (h : H d = some (.frz o (.dT kvs))) :
    (d == sysModules) = false ∧ s.heap.get? d = some o ∧ o.ExactDict ∧ ∃ (es : Array DictEntry) (ep : Nat), o.data = .dict es ep ∧ es.size = kvs.length ∧
      ∀ (i : Nat) (k : List Key) (v : V), kvs[i]? = some (k, v) → ∃ (hi : i < es.size) (q : Addr), es[i].key = .ref q ∧ H q = some (.tup (k.map kV)) ∧ RelV v es[i].val := by
  obtain ⟨hd, z, hs, xs, pr, o', es, ep, ho, hx, hdt, he, _⟩ := I.hok d _ h
  rw [hd] at ho
  cases ho
  have l1 : es.size = xs.length := size_of_entries he
  have l2 : kvs.length = xs.length := Paired.length pr
  refine ⟨hs, hd, hx, es, ep, hdt, l1.trans l2.symm, fun i k v e => ?_⟩
  obtain ⟨b, hb, e1, e2, e3⟩ := paired_get pr e
  have q := entry_at he i
  rw [hb] at q
  obtain ⟨hi, q'⟩ := Array.getElem?_eq_some_iff.mp q
  refine ⟨hi, b.2.1, ?_, e2, ?_⟩
  · rw [q']; rfl
  · rw [q']; exact e3
/-- the pairs of the locked dict at d, each a new tuple of the key's own tuple and the value -/
def ItT (d : Addr) (o : Obj) (kvs : List (List Key × V)) : It :=
  ⟨fun i H => H d = some (.frz o (.dT kvs)) ∧ i < kvs.length,
    fun i H x H' => ∃ T q k v, kvs[i]? = some (k, v) ∧ x = .ref T ∧ H T = none ∧ H q = some (.tup (k.map kV)) ∧ H' = upd H T (.tup [.ref q, v]),
    fun i H => H d = some (.frz o (.dT kvs)) ∧ kvs.length ≤ i⟩
theorem turn_itT {P : Program} {w : World} {K : PySem.W.Frag} {es : Array DictEntry} {ep : Nat} {kvs : List (List Key × V)} {ts : List Expr} {kk : Nat} {tp : Pos} (it : Addr) (hod : o.data = .dict es ep) :
    Turn P w K (.Tuple ts kk tp) (ItT d o kvs) [it] it (fun i h => ∃ a b, IsItemIter h it d i es.size ep a b) where
  mem := List.mem_singleton.mpr rfl
  obj := fun i h ⟨a, b, e⟩ c hc => by
    rw [List.mem_singleton.mp hc]
    exact ⟨_, e, fun v z => nomatch z⟩
  keep := fun i h h' ⟨a, b, e⟩ k => ⟨a, b, k it (List.mem_singleton.mpr rfl) _ e⟩
  item := by
    intro X eP ew eK hc i pins s σ H E I hf st hg
    subst eP; subst ew; subst eK
    obtain ⟨hd, hi⟩ := hg
    obtain ⟨_, hgd, hx, es', ep', hdt, hsz, ent⟩ := frzT2 I hd
    obtain ⟨rfl, rfl⟩ := dict_ep hod hdt
    obtain ⟨⟨k, v⟩, hkv⟩ : ∃ p, kvs[i]? = some p := ⟨_, List.getElem?_eq_getElem hi⟩
    obtain ⟨hlt, q, hq, hqT, rv⟩ := ent i k v hkv
    obtain ⟨a, b, he⟩ := st
    have itlt : it < s.heap.objs.size := Heap.lt_size he
    have fr := I.hok.fresh (Nat.le_refl s.heap.objs.size)
    refine DT.nextI he ⟨o, hgd, hx, hod⟩ hlt fun h1 ho hT hz hk => ⟨_, rfl, ?_⟩
    refine wpAny_letOwnedTupleGo_items (s := { s with heap := h1 }) ho fun h2 ho2 sb => ?_
    have hT2 : h2.get? s.heap.objs.size = some { cls := .type "tuple", data := .seq #[es'[i].key, es'[i].val] } := by
      rw [sb.2 _ (Nat.ne_of_gt itlt)]; exact hT
    have rk : RelV (.ref q) es'[i].key := by rw [hq]; rfl
    refine ⟨.ref s.heap.objs.size, upd H s.heap.objs.size (.tup [.ref q, v]), ?_, rfl, ⟨_, q, k, v, hkv, rfl, fr, hqT, rfl⟩, ⟨_, _, ho2⟩, fun c hc => ?_⟩
    · refine I.turnedNew (t' := s.toks) (ch := [it]) (fun c oc hb e => ?_) hf (Nat.le_refl _) ⟨(show 2 ≤ sizeLine by decide), [_, _], .cons rk (.cons rv .nil), ⟨_, hT2, rfl, _, rfl⟩⟩
      have hb' : c ≠ it := fun z => hb (List.mem_singleton.mpr z)
      rw [sb.2 c hb']; exact hk c oc hb' e
    · rw [List.mem_singleton.mp hc, upd_ne (Nat.ne_of_lt itlt)]
      exact (hf it (List.mem_singleton.mpr rfl)).1
  done := by
    intro X eP ew eK hc i pins s σ H E I hf st hg
    subst eP; subst ew; subst eK
    obtain ⟨hd, hi⟩ := hg
    obtain ⟨_, hgd, hx, es', ep', hdt, hsz, _⟩ := frzT2 I hd
    obtain ⟨rfl, rfl⟩ := dict_ep hod hdt
    obtain ⟨a, b, he⟩ := st
    obtain ⟨f0, f1, _, f3, f4, f5⟩ := hf it (List.mem_singleton.mpr rfl)
    exact DT.endI (I.ok.hd hc) he ⟨o, hgd, hx, hod⟩ (by omega) fun h1 eb => ⟨rfl, I.turned (t' := s.toks) (fun c oc hb e => eb c oc hb e) f0 f1 f3 f4 f5⟩
  self := fun _ _ _ _ _ ⟨_, _, e⟩ h => PySem.W.kcp_self e h
def iItT (td : TE) : TI := fun σ H R => td σ H fun x H1 => ∃ d o kvs, x = .ref d ∧ H1 d = some (.frz o (.dT kvs)) ∧ R (ItT d o kvs) H1
theorem pi_itT {e : Expr} {td : TE} {ts : List Expr} {kk : Nat} {tp apos cpos : Pos} (he : PE X e td) (hb : attributeBase e "items" X.env (eval e X.env) = eval e X.env := by rfl) (hl : (apos.endLine == cpos.line) = true := by rfl) :
    PI X (.Tuple ts kk tp) (.Call (.Attribute e "items" apos) [] [] cpos) (iItT td) := by
  constructor
  intro pins s σ H R I h
  refine wpAny_Call_method (T := "dict") (id := "dict.items") hb rfl hl PySem.F.plainAttrs_dict PySem.F.slot_dict_items PySem.F.type_dict_items (thn (he.run pins s σ H _ I h) ?_)
  rintro u s1 ⟨x, H1, I1, rx, d, o, kvs, rfl, hd, q⟩
  obtain rfl : u = Value.ref d := rx
  obtain ⟨hs, hgd, hx, es, ep, hdt, _, _⟩ := frzT2 I1 hd
  have raw : DT.Raw s1.heap d es ep := ⟨o, hgd, hx, hdt⟩
  refine ⟨raw.typeIs, (fun a e => by cases e; exact ⟨o, hgd, hx.2.1⟩), ?_⟩
  show wpAny _ _ (callWith cpos (.builtin "dict.items") [.ref d] [] []) _ X.xe s1
  refine method_meetsIn PySem.F.slot_dict_items PySem.F.entry_dict_items rfl (PySem.evalArgs_none ⟨rfl, raw.typeIs, PySem.F.args_dict_items_1 _, _, DT.meetsItems (es := es) (ep := ep) hs, raw, ?_⟩)
  have I2 : Inv X pins σ H1 { s1 with heap := s1.heap.push { cls := .type "dict_items", data := .fields #[.ref d] } } := I1.kept (t' := s1.toks) fun b ob q => Heap.get?_push_of_some _ q
  exact DT.iterI ⟨_, Heap.get?_push_size _ rfl, rfl, rfl⟩ (raw.push _) (pi_one (tk := s1.toks) I2 _ (turn_itT _ hdt) ⟨.none, .none, Heap.get?_push_size _ rfl⟩ q)

/-! the comprehension -/
theorem setT {E : Value → Shared → Prop} {L q : Addr} {kvs : List (List Key × V)} {k : List Key} {v : V} {r : Value} {Q : Unit → Shared → Prop} (I : Inv X pins σ H s) (hu : X.A.units + 1 < cLine) (hL : H L = some (.dT kvs)) (hz : kvs.length < sizeLine)
    (hq : H q = some (.tup (k.map kV))) (rv : RelV v r) (h : ∀ s', Inv X pins σ (upd H L (.dT (putK kvs k v))) s' → Q () s') : wpAny (model X.prog X.w) X.A (dictSet L (.ref q) r) Q E s := by
  obtain ⟨z, hs, xs, pr, o, es, ep, ho, hx, hdt, he, hn⟩ := I.hok L _ hL
  have l2 : kvs.length = xs.length := Paired.length pr
  have his : ∀ x ∈ xs, (tupleKind (mixKind X.prog X.w)).is s.heap x.1 x.2.1 := fun x hx => by
    obtain ⟨j, hj⟩ := List.mem_iff_getElem?.mp hx
    have hjl : j < kvs.length := by rw [l2]; exact (List.getElem?_eq_some_iff.mp hj).1
    obtain ⟨b, hb, e1, e2, _⟩ := paired_get pr (List.getElem?_eq_getElem hjl)
    rw [hb] at hj
    cases hj
    rw [← e1]
    exact key_of I.hok e2
  refine wpAny_dictSet_heap (knd := tupleKind (mixKind X.prog X.w)) (hsz := by omega) (show X.A.units < cLine by omega) (key_of I.hok hq) ⟨o, es, ep, ho, hx, hdt, he, his, hn⟩ fun h' dd' sb => h _ ?_
  obtain ⟨o', es', ep', ho', hx', hdt', he', _, hn'⟩ := dd'
  have mu : Mut (H L) := by rw [hL]; exact True.intro
  refine d_write I mu sb ⟨o', ho'⟩ ⟨?_, hs, _, ?_, o', es', ep', ho', hx', hdt', he', hn'⟩
  · have := length_putK kvs k v; omega
  · exact KT.keeps (KT.put pr k hq rv) fun b ys e => by
      rw [upd_ne (fun z => by rw [z, hL] at e; cases e)]; exact e
/-- what the comprehension asks: L the new dict -/
def tDcT (wi : TI) (g : TG) (tk tv : TE) (vs : List Nat) : TE := fun σ H Q => wi σ H fun J H1 => ∀ L, H1 L = none → ∃ W : Nat → Nat → Hp → Prop, (∃ m, W 0 m (upd H1 L (.dT []))) ∧ ∀ i m H, W i m H →
  (J.stop i H ∧ Q (.ref L) H) ∨ (J.go i H ∧ ∃ Nx : Hp → Prop, (∀ H', Nx H' → ∃ m', m' < m ∧ W (i + 1) m' H') ∧ ∀ x H', J.yld i H x H' → g x (wipe σ vs) H' fun σ2 H2 => wipe σ2 vs = wipe σ vs ∧
    tk σ2 H2 fun y H4 => tv σ2 H4 fun z H5 => ∃ kvs k q, y = .ref q ∧ H5 q = some (.tup (k.map kV)) ∧ H5 L = some (.dT kvs) ∧ kvs.length < sizeLine ∧ Nx (upd H5 L (.dT (putK kvs k z))))
theorem pe_dcT {kx vx tg iter : Expr} {scope : Scope} {own : List (Str × Nat)} {pos : Pos} {wi : TI} {g : TG} {tk tv : TE} (hc : X.calm = true) (hu : X.A.units + 64 < cLine) (hN : X.N.Nodup) (hi : PI X tg iter wi) (ok : BlkOk X.N X.env.scope scope own)
    (hg : ∀ (s : Shared) (H : Hp) (C : Addr) (cl : List (Str × Addr)) (fp : List Addr), PG (X.blk s H scope (compEnvC scope cl C X.env) fp) tg g)
    (hk : ∀ (s : Shared) (H : Hp) (C : Addr) (cl : List (Str × Addr)) (fp : List Addr), PE (X.blk s H scope (compEnvC scope cl C X.env) fp) kx tk)
    (hv : ∀ (s : Shared) (H : Hp) (C : Addr) (cl : List (Str × Addr)) (fp : List Addr), PE (X.blk s H scope (compEnvC scope cl C X.env) fp) vx tv) (hs : ∀ x, foldedSetIterable iter X.env x = pure x := by intro _; rfl) :
    PE X (.DictComp kx vx [⟨tg, iter, [], 0⟩] scope pos) (tDcT wi g tk tv (own.map (·.2))) := by
  constructor
  intro pins s σ H Q I h
  rw [arm_eval_DictComp]
  have free : ∀ y ∈ scope.names, y.2 = .free → ∃ c, X.env.cells.lookup y.1 = some c := fun y hy e => (ok.free y hy e).elim (fun k => I.ok.has _ (.inl k)) fun k => I.ok.has _ (.inr k)
  refine wpAny_comprehension_free rfl hs (closure_ok free) ok.kind (fun y hy e => by rw [ok.uniq y hy, e]) (thn (hi.run pins s σ H _ I h) fun xv s1 hx => thn hx fun itv s2 h2 => ?_)
  obtain ⟨it, fp, tn, J, H2, rfl, I2, T, st2, f2, q⟩ := h2
  refine wpAny_newObj_type (newEnv_comp ?_)
  generalize hL : s2.heap.objs.size = L
  have nL : H2 L = none := I2.hok.fresh (Nat.le_of_eq hL)
  obtain ⟨W, ⟨m0, w0⟩, turn⟩ := q L nL
  generalize e3 : ({ s2 with heap := s2.heap.push { cls := .type "dict", data := .dict #[] } } : Shared) = s3
  have h3 : s3.heap = s2.heap.push { cls := .type "dict", data := .dict #[] } := by rw [← e3]
  have I3 : Inv X pins σ (upd H2 L (.dT [])) s3 := by
    subst e3
    refine I2.laid (t' := s2.toks) (fun b ob e => Heap.get?_push_of_some _ e) (Nat.le_of_eq hL) ?_
    subst hL
    exact dt_empty s2.heap I2.big
  have lt2 : ∀ b ∈ fp, b < s2.heap.objs.size := fun b hb => by
    obtain ⟨ob, e, _⟩ := T.obj _ _ st2 b hb
    exact Heap.lt_size e
  have f3 : ∀ b ∈ fp, FpOk X pins (upd H2 L (.dT [])) b ∧ b < s3.heap.objs.size := fun b hb => by
    have lt := lt2 b hb
    refine ⟨⟨?_, (f2 b hb).2⟩, by rw [h3, Heap.size_push]; exact Nat.lt_succ_of_lt lt⟩
    rw [upd_ne (by subst hL; exact Nat.ne_of_lt lt)]
    exact (f2 b hb).1
  have st3 : tn 0 s3.heap := T.keep _ _ _ st2 fun b _ ob e => by rw [h3]; exact Heap.get?_push_of_some _ e
  have I4 := block_start I3 ok hN f3
  have pg := hg s3 (upd H2 L (.dT [])) s3.heap.objs.size (cellsFrom (s3.heap.objs.size + 1) scope.names (cloFrom X.env.cells scope.names [])) fp
  have pk := hk s3 (upd H2 L (.dT [])) s3.heap.objs.size (cellsFrom (s3.heap.objs.size + 1) scope.names (cloFrom X.env.cells scope.names [])) fp
  have pv' := hv s3 (upd H2 L (.dT [])) s3.heap.objs.size (cellsFrom (s3.heap.objs.size + 1) scope.names (cloFrom X.env.cells scope.names [])) fp
  show codeAny _ _ (.compStart (.DictComp kx vx [⟨tg, iter, [], 0⟩] scope pos) 0 (.ref it) (.ref L) (compEnvC scope (cellsFrom (s3.heap.objs.size + 1) scope.names (cloFrom X.env.cells scope.names [])) s3.heap.objs.size X.env)) (compPost (model X.prog X.w) X.A X.xe none (EP X pins σ Q) (.ref L) s3.heap.objs.size) { s3 with heap := pushCells (s3.heap.push { cls := .type "dict", data := .dict #[] }) scope.names }
  have nfp : ∀ b ∈ fp, (upd H2 L (.dT [])) b = none := fun b hb => (f3 b hb).1.1
  generalize ece : compEnvC scope (cellsFrom (s3.heap.objs.size + 1) scope.names (cloFrom X.env.cells scope.names [])) s3.heap.objs.size X.env = ce at I4 pg pk pv' ⊢
  have cL : ce.locals = s3.heap.objs.size := by rw [← ece]; rfl
  generalize eH3 : upd H2 L (.dT []) = H3 at I3 I4 pg pk pv' w0 nfp f3
  generalize e4 : ({ s3 with heap := pushCells (s3.heap.push { cls := .type "dict", data := .dict #[] }) scope.names } : Shared) = s4 at I4 ⊢
  have st4 : tn 0 s4.heap := T.keep _ _ _ st3 fun b _ ob e => by rw [← e4]; exact pushCells_keeps _ _ _ _ (Heap.get?_push_of_some _ e)
  have still : ∀ {σ' : Slots} {H' : Hp} {s' : Shared}, Inv (X.blk s3 H3 scope ce fp) [] σ' H' s' → (∀ b ∈ fp, H' b = none) → ∀ b ∈ fp, FpOk (X.blk s3 H3 scope ce fp) [] H' b := fun I' hn b hb =>
    ⟨hn b hb, (I'.ok.exf b hb).1, I'.ok.exfs b hb, .inl hb, fun x c e => (I'.ok.exf b hb).2 x c e, fun p hp => absurd (show p ∈ ([] : List (Addr × Obj)) ++ [] from hp) (by simp)⟩
  have loop : codeAny (model X.prog X.w) X.A (.compLoop (.DictComp kx vx [⟨tg, iter, [], 0⟩] scope pos) 0 (.ref it) (.ref L) ce) (compPost (model X.prog X.w) X.A X.xe none (EP X pins σ Q) (.ref L) s3.heap.objs.size) s4 := by
    refine compLoop_anyD (fun n s' => ∃ i H', Inv (X.blk s3 H3 scope ce fp) [] (wipe σ (own.map (·.2))) H' s' ∧ tn i s'.heap ∧ (∀ b ∈ fp, H' b = none) ∧ W i n H') ?_ m0 ⟨0, H3, I4, st4, nfp, w0⟩
    rintro n s5 ⟨i, H5, I5, st5, n5, w5⟩
    rcases turn i n H5 w5 with ⟨stop, qq⟩ | ⟨go, Nx, hNx, step⟩
    · refine thnF (T.done (X.blk s3 H3 scope ce fp) rfl rfl rfl hc i [] s5 _ H5 (fun _ _ => False) I5 (still I5 n5) st5 stop) fun r s6 ⟨hr, I6⟩ => ?_
      subst hr
      have I7 : Inv X pins σ H5 s6 := I3.call' (ch := fp) I6.os I6.base I6.hok I6.bare fun b hb => ⟨(f3 b hb).1.2.2.2.1, (f3 b hb).1.2.1, (f3 b hb).1.2.2.2.2.1, (f3 b hb).1.2.2.2.2.2⟩
      have nC : H5 s3.heap.objs.size = none := cL ▸ (show H5 ce.locals = none from I6.free)
      obtain ⟨m, hn, _⟩ := I6.loc
      have hn' : s6.heap.Ns s3.heap.objs.size m := cL ▸ (show s6.heap.Ns ce.locals m from hn)
      obtain ⟨a0, a1, _, a3, a4, a5⟩ := I3.fpOk (H' := H5) (Nat.le_refl _) nC
      exact ⟨m, hn', fun h'' sb => ⟨.ref L, H5, I7.turned (t' := s6.toks) (fun b ob hb e => (sb.2 b hb).trans e) a0 a1 a3 a4 a5, rfl, qq⟩⟩
    · refine thnF (T.item (X.blk s3 H3 scope ce fp) rfl rfl rfl hc i [] s5 _ H5 (fun _ _ => False) I5 (still I5 n5) st5 go) fun r s6 ⟨u, hr, h6⟩ => ?_
      subst hr
      refine thnF h6 fun _ s7 ⟨x, H7, I7, r7, y7, st7, n7⟩ => ?_
      refine thnF (pg.run _ s7 _ H7 x u _ (I7.pinned (still I7 n7) (T.obj _ _ st7)) r7 (step x H7 y7)) fun _ s8 ⟨σ8, H8, I8, hw8, q8⟩ => ?_
      refine wpAny_tests_nil ?_
      rw [if_pos rfl]
      refine thnF (pk.run _ s8 σ8 H8 _ I8 q8) fun z s10 ⟨yk, H10, I10, r10, q10⟩ => ?_
      refine thnF (pv'.run _ s10 σ8 H10 _ I10 q10) fun z2 s11 ⟨yv, H11, I11, r11, kvs, k, qa, ek, hqa, hD11, hz11, nx⟩ => ?_
      subst ek
      cases r10
      refine setT (X := X.blk s3 H3 scope ce fp) I11 (show X.A.units + 1 < cLine by omega) hD11 hz11 hqa r11 fun s12 I12 => ?_
      obtain ⟨m', hm, w'⟩ := hNx _ nx
      have pin' : ∀ b ∈ fp, ∀ ob, s7.heap.get? b = some ob → s12.heap.get? b = some ob ∧ (upd H11 L (.dT (putK kvs k yv))) b = none := fun b hb ob e => by
        have z := I12.pin (b, ob) (List.mem_append_right _ (List.mem_append_right _ (mem_pinsAt hb e)))
        exact ⟨z.1, z.2.1⟩
      have hl : (wipe σ (own.map (·.2))).length = σ8.length := by rw [← hw8, wipe_length]
      refine ⟨m', hm, i + 1, _, (I12.unpinned (pins := [])).weak hl (fun j v e => ?_), T.keep _ _ _ st7 fun b hb ob e => (pin' b hb ob e).1, fun b hb => ?_, w'⟩
      · rw [← hw8] at e
        exact (wipe_some e).1
      · obtain ⟨ob, e, _⟩ := T.obj _ _ st7 b hb
        exact (pin' b hb ob e).2
  exact codeAny_compStart_dict loop (T.self X.A 0 _ _ _ st4 loop)
end
end SPw
namespace SPw
open PySem PySem.Spec PyProof.Rows L2
/-! dict(zip(a, b)), a a list of tuples of ints, b a list as long -/
def zipT (es : List (List Int)) (vs : List V) : List (List Key × V) := (es.zip vs).foldl (fun acc t => putK acc (kI t.1) t.2) []
def tDictZip (K : PySem.W.Frag) (ta tb : TE) : TE := fun σ H Q => ta σ H fun x H1 => tb σ H1 fun y H2 => ∃ (a c : Addr) (bs : List Addr) (es : List (List Int)) (vs : List V),
  x = .ref a ∧ y = .ref c ∧ SqL K H2 a (bs.map V.ref) ∧ AtKeys H2 bs es ∧ SqL K H2 c vs ∧ vs.length = bs.length ∧ ∀ p, H2 p = none → Q (.ref p) (upd H2 p (.dT (zipT es vs)))
theorem kt_zip {H : Hp} : ∀ {bs : List Addr} {es : List (List Int)} {vs : List V} {us : List Value}, AtKeys H bs es → Vals vs us → vs.length = bs.length →
    ∃ ps : List (List Key × Addr × Value), ps.length = bs.length ∧ (∀ (i : Nat) b u, bs[i]? = some b → us[i]? = some u → ∃ k, ps[i]? = some (k, b, u)) ∧ (∀ x ∈ ps, H x.2.1 = some (.tup (x.1.map kV))) ∧
      ∀ (kvs : List (List Key × V)) (xs : List (List Key × Addr × Value)), KT H kvs xs → KT H ((es.zip vs).foldl (fun acc t => putK acc (kI t.1) t.2) kvs) (storedAllH xs ps)
  | _, _, vs, us, .nil, rv, hl => by
    have e0 : vs = [] := List.eq_nil_of_length_eq_zero hl
    subst e0
    cases rv
    exact ⟨[], rfl, (fun i b u h _ => by simp at h), (fun _ h => nomatch h), (fun kvs xs h => h)⟩
  | (b :: bs), (e :: es), vs, us, .cons r t, rv, hl => by
    obtain ⟨v, vr, rfl⟩ : ∃ v vr, vs = v :: vr := by
      cases vs with
      | nil => simp at hl
      | cons v vr => exact ⟨v, vr, rfl⟩
    cases rv with
    | @cons _ u _ ur rv1 rv2 =>
      obtain ⟨ps, h1, h2, h3, h4⟩ := kt_zip t rv2 (by simpa using hl)
      refine ⟨(kI e, b, u) :: ps, by simp [h1], ?_, ?_, ?_⟩
      · intro i b' u' hb hu
        cases i with
        | zero =>
          simp at hb hu
          subst hb; subst hu
          exact ⟨_, rfl⟩
        | succ i =>
          obtain ⟨k, hk⟩ := h2 i b' u' (by simpa using hb) (by simpa using hu)
          exact ⟨k, by simpa using hk⟩
      · intro x hx
        rcases List.mem_cons.mp hx with rfl | hx
        · show H b = some (.tup ((kI e).map kV))
          rw [kI_V]; exact r
        · exact h3 x hx
      · intro kvs xs hk
        show KT H ((es.zip vr).foldl (fun acc t => putK acc (kI t.1) t.2) (putK kvs (kI e) v)) (storedAllH (storedH xs (kI e) b u) ps)
        exact h4 _ _ (hk.put (kI e) (by rw [kI_V]; exact r) rv1)
theorem zipT_len (es : List (List Int)) (vs : List V) : (zipT es vs).length ≤ es.length := by
  have h : ∀ (l : List (List Int × V)) (acc : List (List Key × V)), (l.foldl (fun acc t => putK acc (kI t.1) t.2) acc).length ≤ acc.length + l.length := fun l => by
    induction l with
    | nil => intro acc; exact Nat.le_refl _
    | cons x r ih =>
      intro acc
      refine Nat.le_trans (ih (putK acc (kI x.1) x.2)) ?_
      have := length_putK acc (kI x.1) x.2
      rw [List.length_cons]; omega
  refine Nat.le_trans (h _ []) ?_
  rw [List.length_zip, List.length_nil]; omega
theorem off5 {b n : Nat} (h : b < n) : b ≠ n + 5 ∧ b ∉ [n + 4, n + 3, n, n + 1] := by
  refine ⟨by omega, fun z => ?_⟩
  simp only [List.mem_cons, List.not_mem_nil, or_false] at z
  omega
theorem le5 (n : Nat) : n ≤ n + 5 := Nat.le_add_right _ _
theorem atKeys_len {H : Hp} {bs : List Addr} {es : List (List Int)} (h : AtKeys H bs es) : bs.length = es.length := Paired.length h
section
variable {X : Cx} {e1 e2 : Expr} {ta tb : TE} {p p2 pos q : Pos}
theorem pe_dictZip (hc : X.calm = true) (hu : X.A.units + 64 < cLine) (hg : Gl X "dict") (hm : X.mg "dict" = none) (hg2 : Gl X "zip") (hm2 : X.mg "zip" = none) (h1 : PE X e1 ta) (h2 : PE X e2 tb)
    (na : starEach [.Call (.Name "zip" p2) [e1, e2] [] q] X.env = (false, eval (.Call (.Name "zip" p2) [e1, e2] [] q) X.env) :: starEach [] X.env := by rfl)
    (nb : starEach [e1, e2] X.env = (false, eval e1 X.env) :: starEach [e2] X.env := by rfl) (nc : starEach [e2] X.env = (false, eval e2 X.env) :: starEach [] X.env := by rfl) (hpl : (backTo q (starEach [e2] X.env)).any (·.1) = false := by rfl) :
    PE X (.Call (.Name "dict" p) [.Call (.Name "zip" p2) [e1, e2] [] q] [] pos) (tDictZip X.K ta tb) := by
  refine ⟨fun pins s σ H Q I h => ?_⟩
  refine Call_ (ld_blt I hg hm PyProof.Rows.boot_dict (PyProof.Rows.callWith_type1 (PyProof.Rows.args_cons ?_ na) na rfl))
  refine Call_ (ld_blt I hg2 hm2 PyProof.Rows.boot_zip (PyProof.Rows.callWith_type1 (PyProof.Rows.args_cons (thn (h1.run pins s σ H _ I h) fun v s1 ⟨x, H1, I1, r1, q1⟩ => PyProof.Rows.args_cons (thn (h2.run pins s1 σ H1 _ I1 q1) fun u s2 ⟨y, H2, I2, r2, q2⟩ => PyProof.Rows.args_nil ?_) nc) nb) nb hpl))
  obtain ⟨a, c, bs, es, vs, rfl, rfl, ha, hk, hv, hl, qq⟩ := q2
  cases r1
  cases r2
  obtain ⟨its, rv, pl1, _⟩ := I2.list ha
  obtain ⟨us, rv2, pl2, hz2⟩ := I2.list hv
  have ei : its = bs.map Value.ref := by
    have := vals_refs bs
    have h0 : ∀ {l : List Addr} {us : List Value}, Vals (l.map V.ref) us → us = l.map Value.ref := fun {l} => by
      induction l with
      | nil => intro us r; cases r; rfl
      | cons x r ih =>
        intro us h
        cases h with
        | cons a b =>
          have a' : _ = Value.ref x := a
          rw [a', ih b]; rfl
    exact h0 rv
  subst ei
  obtain ⟨ps, k1, k2, k3, k4⟩ := kt_zip hk rv2 hl
  have la : a < s2.heap.objs.size := pl1.lt
  have lc : c < s2.heap.objs.size := pl2.lt
  have hlu : us.length = bs.length := by rw [← rv2.length, hl]
  refine call_zip_2 pl1.isList pl2.isList fun h' hz hTI hTO hi1 hi2 hsz hkp => PyProof.Rows.args_nil ?_
  have I3 : Inv X pins σ H2 { s2 with heap := h' } := I2.kept (t' := s2.toks) hkp
  have is' : ∀ x ∈ ps, (tupleKind (mixKind X.prog X.w)).is s2.heap x.1 x.2.1 := fun x hx => key_of I2.hok (k3 x hx)
  refine call_dict_pairsH (s := { s2 with heap := h' }) (knd := tupleKind (mixKind X.prog X.w)) (ps := ps)
    (PairArg.zip _ _ _ _ _ a c (PySem.W.ktu_apart s2.heap.objs.size a c la lc) (bs.map Value.ref).toArray us.toArray) (I2.ok.hd hc) (by show X.A.in1.in1.units < cLine; have : X.A.in1.in1.units = X.A.units + 2 := rfl; omega)
    ⟨hz, hTI, ⟨_, _, hTO⟩, hi1, hi2, pl1.isList.at fun o e => hkp _ o e, pl2.isList.at fun o e => hkp _ o e⟩ ⟨?_, ?_⟩ ?_ ?_ fun h'' tk hd' hk' => ?_
  · rw [k1, List.size_toArray, List.size_toArray, List.length_map, hlu, Nat.min_self]
  · rintro i key v ⟨hx, hy⟩
    have hx' : (bs.map Value.ref)[i]? = some key := by simpa using hx
    rw [List.getElem?_map] at hx'
    obtain ⟨b, hb, rfl⟩ := Option.map_eq_some_iff.mp hx'
    obtain ⟨k, hk⟩ := k2 i b v hb (by simpa using hy)
    exact ⟨k, b, hk, rfl⟩
  · intro h3 hk3 x hx
    have lt : x.2.1 < s2.heap.objs.size := by
      obtain ⟨o, items, n, ho, _⟩ := is' x hx
      exact Heap.lt_size ho
    refine tupleKind_stays.stays (fun b o vs n e _ => ?_) (is' x hx)
    have hlt := Heap.lt_size e
    exact hk3 b o (by show b ≠ h'.objs.size; rw [hsz]; exact (off5 hlt).1) (off5 hlt).2 (hkp b o e)
  · rw [List.size_toArray, List.size_toArray, List.length_map, hlu, Nat.min_self, ← hl]
    exact hz2
  · obtain ⟨o, ents, ep, ho, hx, hdt, he, _, hn⟩ := hd'
    have hkeep : ∀ b o, s2.heap.get? b = some o → h''.get? b = some o := fun b o e => by
      have hlt := Heap.lt_size e
      exact hk' b o (off5 hlt).2 (hkp b o e)
    have hp : s2.heap.objs.size ≤ h'.objs.size := by rw [hsz]; exact le5 _
    have nn := I2.hok.fresh hp
    refine ⟨.ref h'.objs.size, upd H2 h'.objs.size (.dT (zipT es vs)), I2.laid (t' := tk) hkeep hp ⟨?_, ?_, _, ?_, o, ents, ep, ho, hx, hdt, he, hn⟩, rfl, qq _ nn⟩
    · refine Nat.le_trans (zipT_len es vs) ?_
      rw [← atKeys_len hk, ← hl]; exact hz2
    · have hb := I2.big
      exact beq_eq_false_iff_ne.mpr (Nat.ne_of_gt (Nat.lt_of_lt_of_le hb hp))
    · exact (k4 [] [] .nil).keeps fun b ys e => by rw [upd_ne (ne_of_none e nn)]; exact e
end
end SPw
namespace SPw
open PySem PySem.Spec PyProof.Rows L2
/-! set(xs) of a list, by what holds of the set behind each item -/
/-- v is put into the set at S, from Iv to Jv -/
def Adds (P : Program) (w : World) (S : Addr) (v : Value) (Iv Jv : Heap → Prop) : Prop :=
  ∀ (A : Around) (E : Value → Shared → Prop) (s : Shared) (Q : Bool → Shared → Prop), Iv s.heap → (∀ h' tk b, s.toks ≤ tk → Jv h' → Heap.SameBut S s.heap h' → Q b { s with heap := h', toks := tk }) → wpAny (model P w) A (setAdd S v) Q E s
section
variable {P : Program} {w : World} {A : Around}
theorem adds_loop {I : Addr} {fp wr : List Addr} {G : Array GenState → Array GenState → Prop} {n : Nat} {Pv : Nat → Value → Prop} {St : Nat → Shared → Prop} {R : Result → Shared → Prop} (W : WalksS P w A.in1 I fp wr G n Pv St) (S : Addr) (hSf : S ∉ fp)
    (Iv : Nat → Heap → Prop) (stay : ∀ i h h', Iv i h → (∀ o, h.get? S = some o → h'.get? S = some o) → Iv i h') (step : ∀ i v, i < n → Pv i v → Adds P w S v (Iv i) (Iv (i + 1))) :
    ∀ (k i : Nat) (s : Shared), i + k = n → St i s → Iv i s.heap → (∀ s', Moved (S :: wr) G s s' → Iv n s'.heap → R (.ok (.ret .none)) s') → codeAny (model P w) A (.builtin "set.update.loop" ⟨[.ref S, .ref I], []⟩) R s
  | 0, i, s, hk, st, iv, hR => by
    have hSw : S ∉ wr := fun z => hSf (W.sub _ z)
    have hin : i = n := hk
    subst hin
    refine codeAny_builtin PyProof.Rows.F.entry_set_update_loop ?_
    rw [Around.under_plainId PyProof.Rows.F.plain_set_update_loop _]
    show wpAny _ A.in1 (pyNext (.ref I) >>= _) _ _ s
    refine wpAny_bind (W.done s _ _ st fun s1 m => ?_)
    show wpAny _ A.in1 (ret Value.none) _ _ s1
    exact wpAny_pure (hR s1 (m.mono fun b hb => List.mem_cons_of_mem _ hb) (stay _ _ _ iv fun o e => m.heap S o hSw e))
  | k + 1, i, s, hk, st, iv, hR => by
    have hSw : S ∉ wr := fun z => hSf (W.sub _ z)
    have lt : i < n := by omega
    refine codeAny_builtin PyProof.Rows.F.entry_set_update_loop ?_
    rw [Around.under_plainId PyProof.Rows.F.plain_set_update_loop _]
    show wpAny _ A.in1 (pyNext (.ref I) >>= _) _ _ s
    refine wpAny_bind (W.item i s _ _ lt st fun v s1 hP st1 m => ?_)
    show wpAny _ A.in1 (holding [v] (setAdd S v) >>= _) _ _ s1
    refine wpAny_bind (wpAny_holding (step i v lt hP _ _ s1 _ (stay _ _ _ iv fun o e => m.heap S o hSw e) fun h' tk _ tle jv sb => ?_))
    refine wpAny_pure ⟨plainId_quiet PyProof.Rows.F.plain_set_update_loop _, adds_loop W S hSf Iv stay step k (i + 1) { s1 with heap := h', toks := tk } (by omega) (W.frame _ s1 h' tk st1 tle fun b hb o e => ?_) jv fun s2 m2 kv => ?_⟩
    · rw [sb.2 b (fun z : b = S => hSf (z ▸ hb))]; exact e
    · refine hR s2 (Moved.trans W.gtrans ((m.mono fun b hb => List.mem_cons_of_mem _ hb).then_heap tle fun b o hb e => ?_) m2) kv
      rw [sb.2 b (fun z : b = S => hb (z ▸ List.mem_cons_self))]; exact e

theorem set_of_list {E : Value → Shared → Prop} {s : Shared} {l : Addr} {items : Array Value} {Q : Value → Shared → Prop} (Iv : Nat → Heap → Prop) (hh : A.handled = none) (hl : s.heap.IsList l items)
    (start : ∀ h : Heap, h.get? s.heap.objs.size = some { cls := .type "set", dict := none, data := .set #[] 0 (.fresh 0 0 (!w.params.followText "set-order")) } → Iv 0 h)
    (stay : ∀ i h h', Iv i h → (∀ o, h.get? s.heap.objs.size = some o → h'.get? s.heap.objs.size = some o) → Iv i h') (step : ∀ i v, items[i]? = some v → Adds P w s.heap.objs.size v (Iv i) (Iv (i + 1)))
    (h : ∀ h' tk, Iv items.size h' → (∀ b o, s.heap.get? b = some o → h'.get? b = some o) → Q (.ref s.heap.objs.size) { s with heap := h', toks := tk }) : wpAny (model P w) A (call (.type "set") [.ref l]) Q E s := by
  obtain ⟨c, tl, mro⟩ := PySem.F.called_set.mro
  have made := PySem.F.called_set.made
  have sub := PySem.F.called_set.sub
  refine wpAny_call (codeAny_of_tree ?_)
  show wpAny _ _ (callAny (.type "set") _) _ _ _
  refine wpAny_pure ⟨Code.quiet_builtin _ (by decide +kernel), codeAny_builtin PySem.F.entry_type_call ?_⟩
  rw [Around.under_plain (weight_type_call_type "set" [.ref l] []) rfl]
  have t1 := PySem.F.called_set.notType
  have t2 := PySem.F.called_set.canCreate
  have t3 := PySem.F.typeCall_set_1 (.ref l)
  repeat (any_goals (first | assumption | wp_step))
  generalize eN : (!w.params.followText "set-order") = led at start
  refine codeAny_mono (code_set_led1 (.ref l) (E := E) (Q₁ := fun obj s1 => obj = .ref s.heap.objs.size ∧ s1 = { s with heap := s.heap.push ({ cls := .type "set", dict := none, data := .set #[] 0 (.fresh 0 0 led) } : Obj) }) ⟨rfl, by rw [eN]⟩) fun r s1 hr => ?_
  cases r with
  | error e => exact hr
  | ok fl =>
    cases fl with
    | ret obj =>
      obtain ⟨rfl, rfl⟩ := hr
      have hN : (s.heap.push ({ cls := .type "set", dict := none, data := .set #[] 0 (.fresh 0 0 led) } : Obj)).get? s.heap.objs.size = some ({ cls := .type "set", dict := none, data := .set #[] 0 (.fresh 0 0 led) } : Obj) := Heap.get?_push_size _ rfl
      have hT : Shared.TypeIs { s with heap := s.heap.push ({ cls := .type "set", dict := none, data := .set #[] 0 (.fresh 0 0 led) } : Obj) } (.ref s.heap.objs.size) "set" := ⟨_, hN, rfl⟩
      have i1 := PySem.F.called_set.init.lookup
      have i2 := PySem.F.called_set.init.bind (.ref s.heap.objs.size)
      repeat (any_goals (first | assumption | wp_step))
      refine codeAny_mono (codeAny_call_builtin (R := wants (fun r s2 => r = .none ∧ ∃ h' tk, s2 = { s with heap := h', toks := tk } ∧ Iv items.size h' ∧ (∀ b o, s.heap.get? b = some o → h'.get? b = some o)) E) PySem.F.called_set.init.plain PySem.F.entry_set_init (check_set_init_1 hT ?_)) fun r2 s2 hr2 => ?_
      · obtain ⟨⟨ocls, odict, odata, oslots⟩, hol, hcl, nl, hdl⟩ := hl
        simp only at hcl hdl
        subst hcl; subst hdl
        have hol' : (s.heap.push ({ cls := .type "set", dict := none, data := .set #[] 0 (.fresh 0 0 led) } : Obj)).get? l = some { cls := .type "list", dict := odict, data := .seq items nl, slots := oslots } := Heap.get?_push_of_some _ hol
        have u1 := PySem.F.sub_list_set
        have u2 := PySem.F.sub_list_frozenset
        have u3 : (Value.type "list" == Value.type "dict") = false := by decide
        have hl1 : (s.heap.push ({ cls := .type "set", dict := none, data := .set #[] 0 (.fresh 0 0 led) } : Obj)).IsList l items := ⟨_, hol', rfl, nl, rfl⟩
        unfold Builtin.«set.__init__» noKeywords Builtin.Frozenset.updateFrom
        generalize hPI : pyIter = PI
        wp_walk
        subst hPI
        refine wpAny_pyIter_list hl1 ?_
        refine wpAny_bind (wpAny_runValue ?_)
        have lS : l < s.heap.objs.size := Heap.lt_size hol
        have h3 : A.in1.in1.in1.handled = none := by simp [hh]
        have zN : (s.heap.push ({ cls := .type "set", dict := none, data := .set #[] 0 (.fresh 0 0 led) } : Obj)).objs.size = s.heap.objs.size + 1 := Heap.size_push ..
        have nI : l ≠ (s.heap.push ({ cls := .type "set", dict := none, data := .set #[] 0 (.fresh 0 0 led) } : Obj)).objs.size := by rw [zN]; exact Nat.ne_of_lt (Nat.lt_succ_of_lt lS)
        have nS : s.heap.objs.size ∉ [(s.heap.push ({ cls := .type "set", dict := none, data := .set #[] 0 (.fresh 0 0 led) } : Obj)).objs.size, l] := fun z => by
          rcases List.mem_cons.mp z with z | z
          · rw [zN] at z; exact absurd z (Nat.ne_of_lt (Nat.lt_succ_self _))
          · exact absurd (List.mem_singleton.mp z) (Nat.ne_of_gt lS)
        refine adds_loop ((Walks.list h3 _ l nI items).toS) s.heap.objs.size nS Iv stay (fun i v _ hv => step i v hv) (items.size - 0) 0 _ (by omega) ⟨⟨_, Heap.get?_push_size _ rfl, rfl, rfl⟩, hl1.push _⟩ (start _ (Heap.get?_push_of_some _ hN)) ?_
        intro s2 hm iv
        obtain ⟨h', g2, d2, tk2, os2⟩ := s2
        obtain rfl : g2 = s.gens := hm.gens
        obtain rfl : d2 = s.drawn := hm.drawn
        obtain rfl : os2 = s.os := hm.os
        refine wpAny_pure ?_
        show wpAny _ _ (ret Value.none) _ _ _
        refine wpAny_pure ⟨rfl, h', tk2, rfl, iv, fun b o e => ?_⟩
        have b0 : b < s.heap.objs.size := Heap.lt_size e
        refine hm.heap b o (fun z => ?_) (Heap.get?_push_of_some _ (Heap.get?_push_of_some _ e))
        rcases List.mem_cons.mp z with z | z
        · exact absurd z (Nat.ne_of_lt b0)
        · have z' := List.mem_singleton.mp z
          rw [zN] at z'
          exact absurd z' (Nat.ne_of_lt (Nat.lt_succ_of_lt b0))
      · cases r2 with
        | error e => exact hr2
        | ok fl2 =>
          cases fl2 with
          | ret r =>
            obtain ⟨rfl, h', tk, rfl, iv, kp⟩ := hr2
            repeat (any_goals (first | assumption | wp_step))
            exact h _ _ iv kp
          | _ => exact hr2.elim
    | _ => exact hr.elim

/-- of ints -/
theorem adds_int {S : Addr} {ns : List Int} {i : Nat} {k : Int} {t : Tok} (hk : ns[i]? = some k) (hb : ns.length < 1000) : Adds P w S (.int k t) (fun h => ∃ c, c ≤ i ∧ SetR w h S (fun j => decide (j ∈ ns.take i)) c) (fun h => ∃ c, c ≤ i + 1 ∧ SetR w h S (fun j => decide (j ∈ ns.take (i + 1))) c) := by
  intro A E s Q ⟨c, hc, hS⟩ q
  have hi : i < ns.length := (List.getElem?_eq_some_iff.mp hk).1
  unfold setAdd
  refine wpAny_holding (wpAny_bind ((intKind P w).pyHash (k := k) (intKind_is _ _ _ _) ?_))
  refine setR_add_hashed (s := { s with toks := s.toks + 1 }) hS (by unfold scanBound; omega) fun h' sb hS2 => q h' _ _ (Nat.le_succ _) ⟨_, ?_, hS2.congr fun j => ?_⟩ sb
  · split <;> omega
  · rw [List.take_add_one, hk]
    simp [List.mem_append]
/-- of different texts -/
theorem adds_str {S : Addr} {xs : List Str} {i : Nat} {k : Str} {t : Tok} (hk : xs[i]? = some k) (hd : xs.Nodup) (hb : xs.length < 1000) : Adds P w S (.str k t) (fun h => h.SetOf (PySem.strKind P w) S (fun j => decide (j ∈ xs.take i)) i) (fun h => h.SetOf (PySem.strKind P w) S (fun j => decide (j ∈ xs.take (i + 1))) (i + 1)) := by
  intro A E s Q hS q
  have hi : i < xs.length := (List.getElem?_eq_some_iff.mp hk).1
  unfold setAdd
  refine wpAny_holding (wpAny_bind ((PySem.strKind P w).pyHash (k := k) (strKind_is _ _ _ _) ?_))
  refine wpAny_setAddHashed_of (knd := PySem.strKind P w) (s := { s with toks := s.toks + 1 }) (strKind_is _ _ _ _) rfl hS (by unfold scanBound; omega) fun h' sb hS2 => q h' _ _ (Nat.le_succ _) (PyProof.Rows.SetOf_congr hS2 (fun j => ?_) ?_) sb
  · rw [List.take_add_one, hk]
    simp [List.mem_append]
  · have no : k ∉ xs.take i := fun hm => by
      obtain ⟨j, hj⟩ := List.mem_iff_getElem?.mp hm
      rw [List.getElem?_take] at hj
      by_cases hji : j < i
      · rw [if_pos hji] at hj
        exact absurd (nd_ix hd hj hk) (Nat.ne_of_lt hji)
      · rw [if_neg hji] at hj; cases hj
    rw [if_neg (by simpa using no)]
end
section
variable {X : Cx}
def rSetI (w : World) (K : PySem.W.Frag) : List V → Hp → VK → Prop := fun vs H Q => ∃ (l : Addr) (ns : List Int), vs = [.ref l] ∧ SqL K H l (ns.map V.int) ∧ ns.length < 60 ∧
  ∀ p c, H p = none → c ≤ ns.length → Q (.ref p) (upd H p (SetO w p (fun j => decide (j ∈ ns)) c))
theorem cr_setI (hc : X.calm = true) : CallR X (.type "set") (rSetI X.w X.K) := by
  intro pins s σ H vs us Q I r h
  obtain ⟨l, ns, rfl, hs, hb, q⟩ := h
  obtain rfl := Vals.ref1 r
  obtain ⟨its, rv, pl, _⟩ := I.list hs
  have hi : IntsAre its ns := rv.ints
  have hl : its.length = ns.length := IntsAre.length hi
  refine set_of_list (fun i h => ∃ c, c ≤ i ∧ SetR X.w h s.heap.objs.size (fun j => decide (j ∈ ns.take i)) c) (I.ok.hd hc) pl.isList (fun h e => ⟨0, Nat.le_refl _, setR_new_at e⟩)
    (fun i h h' ⟨c, a, b⟩ k => ⟨c, a, b.at k⟩) (fun i v hv => ?_) fun h' tk ⟨c, hc', hS⟩ kp => ?_
  · have hv' : its[i]? = some v := by simpa using hv
    have hil : i < ns.length := by rw [← hl]; exact (List.getElem?_eq_some_iff.mp hv').1
    obtain ⟨t, e⟩ := PyProof.Rows.IntsAre.int_at hi i v hv'
    have e2 : ns[i]? = some (ns.getD i 0) := by rw [List.getD_eq_getElem?_getD, List.getElem?_eq_getElem hil]; rfl
    rw [e]
    exact adds_int e2 (by omega)
  · have hsz : its.toArray.size = ns.length := by rw [List.size_toArray, hl]
    rw [hsz] at hc' hS
    have hS2 : SetR X.w h' s.heap.objs.size (fun j => decide (j ∈ ns)) c := hS.congr fun j => by rw [List.take_length]
    exact ⟨.ref s.heap.objs.size, _, I.laid (t' := tk) kp (Nat.le_refl _) (setO_new hS2), rfl, q _ c (I.hok.fresh (Nat.le_refl _)) hc'⟩
/-- len(set(xs)), xs a list of different texts -/
def tLenSetD (K : PySem.W.Frag) (ta : TE) : TE := fun σ H Q => ta σ H fun x H1 => ∃ (l : Addr) (xs : List Str), x = .ref l ∧ SqL K H1 l (xs.map V.str) ∧ xs.Nodup ∧ xs.length < 1000 ∧ Q (.int (xs.length : Nat)) H1
theorem pe_lenSetD {a : Expr} {ta : TE} {p p2 q pos : Pos} (hc : X.calm = true) (hg : Gl X "len") (hm : X.mg "len" = none) (hg2 : Gl X "set") (hm2 : X.mg "set" = none) (ha : PE X a ta)
    (na : starEach [a] X.env = (false, eval a X.env) :: starEach [] X.env := by rfl) : PE X (.Call (.Name "len" p) [.Call (.Name "set" p2) [a] [] q] [] pos) (tLenSetD X.K ta) := by
  constructor
  intro pins s σ H Q I h
  refine Call_ (ld_blt I hg hm PySem.boot_len (PyProof.Rows.callWith_builtin1 (PyProof.Rows.args_cons ?_ rfl) rfl rfl))
  refine Call_ (ld_blt I hg2 hm2 PyProof.Rows.boot_set (PyProof.Rows.callWith_type1 (PyProof.Rows.args_cons (thn (ha.run pins s σ H _ I h) ?_) na) na rfl))
  rintro v s1 ⟨x, H1, I1, r1, l, xs, rfl, hs, nd, hb, q⟩
  refine PyProof.Rows.args_nil ?_
  cases r1
  obtain ⟨its, rv, pl, _⟩ := I1.list hs
  have hi : StrsAre its xs := strsAre_of rv
  have hl : its.length = xs.length := by rw [← rv.length, List.length_map]
  refine set_of_list (fun i h => h.SetOf (PySem.strKind X.prog X.w) s1.heap.objs.size (fun j => decide (j ∈ xs.take i)) i) (I1.ok.hd hc) pl.isList (fun h e => ?_) (fun i h h' ⟨o, es, ep, t, ho, rest⟩ k => ⟨o, es, ep, t, k o ho, rest⟩) (fun i v hv => ?_) fun h' tk hS kp => PyProof.Rows.args_nil ?_
  · exact PyProof.Rows.SetOf_congr ((PyProof.Rows.setObjOf_fresh (knd := PySem.strKind X.prog X.w) _).setOf e (by unfold scanBound; omega)) (fun _ => by simp) rfl
  · have hv' : its[i]? = some v := by simpa using hv
    have hil : i < xs.length := by rw [← hl]; exact (List.getElem?_eq_some_iff.mp hv').1
    obtain ⟨t, e⟩ := SS.strs_at hi i v hv'
    have e2 : xs[i]? = some (xs.getD i Str.empty) := by rw [List.getD_eq_getElem?_getD, List.getElem?_eq_getElem hil]; rfl
    rw [e]
    exact adds_str e2 nd hb
  · have hsz : its.toArray.size = xs.length := by rw [List.size_toArray, hl]
    rw [hsz] at hS
    obtain ⟨o, es, ep, t, ho, hex, hd, _, _, _, hf, hn⟩ := hS
    have I2 : Inv X pins σ H1 { s1 with heap := h', toks := tk } := I1.kept kp
    exact call_len_set ho hex hd hf (by rw [hn]; omega) ⟨.int xs.length, H1, I2.tok _, ⟨_, by rw [hn]⟩, q⟩
end
end SPw
namespace SPw
open PySem PySem.Spec PyProof.Rows L2
/-! {t: v}, t a tuple of ints; t * 1 -/
def tDispT (tk tv : TE) : TE := fun σ H Q => ∀ p, H p = none → tk σ (upd H p (.dT [])) fun y H1 => tv σ H1 fun z H2 => H2 p = some (.dT []) ∧ ∃ (q : Addr) (e : List Int), y = .ref q ∧ H2 q = some (.tup (e.map V.int)) ∧ Q (.ref p) (upd H2 p (.dT [(kI e, z)]))
section
variable {X : Cx} {k v : Expr} {tk tv : TE} {pos : Pos}
theorem pe_dispT (hu : X.A.units + 64 < cLine) (hk : PE X k tk) (hv : PE X v tv) : PE X (.Dict [some k] [v] pos) (tDispT tk tv) := by
  constructor
  intro pins s σ H Q I h
  have fr := I.hok.fresh (Nat.le_refl s.heap.objs.size)
  have I1 := I.laid (a := s.heap.objs.size) (o := .dT []) (h' := s.heap.push { cls := .type "dict", data := .dict #[] }) (t' := s.toks) (fun _ _ q => Heap.get?_push_of_some _ q) (Nat.le_refl _) (dt_empty s.heap I.big)
  have shape : (evalEachOpt [some k] X.env).zip ((evalEach [v] X.env).map fun v => do let x ← v; standAt pos; pure x) = [(eval k X.env, (do let x ← eval v X.env; standAt pos; pure x))].map fun p => (some p.1, p.2) := rfl
  rw [arm_eval_Dict, shape, dictDisplay_pairs _ (by simp) (by simp)]
  refine wpAny_bind (wpAny_standAt (wpAny_bind (wpAny_subDictH (knd := tupleKind (mixKind X.prog X.w)) (Q := fun d s' => wpAny (model X.prog X.w) X.A (pure (Value.ref d)) (EP X pins σ Q) X.xe s') (show X.A.units < cLine by omega) (by simp) ?_)))
  have pps : PPs X pos [some k] [v] [(tk, tv)] := pps_cons hk hv pps_nil
  refine thn (pps.run pins _ σ _ (fun ps H2 => match ps with
    | [(y, z)] => H2 s.heap.objs.size = some (.dT []) ∧ ∃ (q : Addr) (e : List Int), y = .ref q ∧ H2 q = some (.tup (e.map V.int)) ∧ Q (.ref s.heap.objs.size) (upd H2 s.heap.objs.size (.dT [(kI e, z)]))
    | _ => False) I1 (h _ fr)) ?_
  rintro ws s2 ⟨ps, H2, I2, rel, q2⟩
  cases rel with
  | nil => exact q2.elim
  | @cons a b as bs r1 rel =>
    cases rel with
    | cons r2 r3 => exact q2.elim
    | nil =>
      obtain ⟨y, z⟩ := a
      obtain ⟨u1, u2⟩ := b
      obtain ⟨e0, q, e, rfl, hq, q2⟩ := q2
      obtain ⟨ry, rz⟩ := r1
      obtain rfl : u1 = Value.ref q := ry
      have hq' : H2 q = some (.tup ((kI e).map kV)) := by rw [kI_V]; exact hq
      obtain ⟨z0, hs, xs, pr, o, es, ep, ho, hx, hdt, he, hn⟩ := I2.hok _ _ e0
      cases pr
      refine ⟨[(kI e, q, u2)], ⟨rfl, rfl, key_of I2.hok hq', True.intro⟩, ⟨o, es, ep, ho, hx, hdt, he, (fun _ hm => nomatch hm), hn⟩, fun h' tk hd' sb => wpAny_pure ?_⟩
      obtain ⟨o', es', ep', ho', hx', hdt', he', _, hn'⟩ := hd'
      have mu : Mut (H2 s.heap.objs.size) := by rw [e0]; exact True.intro
      refine ⟨.ref s.heap.objs.size, upd H2 s.heap.objs.size (.dT [(kI e, z)]), d_write (t' := tk) I2 mu sb ⟨o', ho'⟩ ⟨?_, hs, storedAllH [] [(kI e, q, u2)], ?_, o', es', ep', ho', hx', hdt', he', hn'⟩, rfl, q2⟩
      · show 1 ≤ sizeLine
        decide
      · refine .cons ⟨rfl, ?_, rz⟩ .nil
        show upd H2 _ _ q = some (.tup ((kI e).map kV))
        rw [upd_ne (fun z => by rw [z, e0] at hq; cases hq)]
        exact hq'

/-- t * 1 is t -/
theorem tup_mul1 (l : Addr) (items : Array Value) (n : Nat) (dd : Option Addr) (sl : Array (Option Value)) (u : Tok) :
    Meets (Builtin.«tuple.__mul__» ⟨[.ref l, .int 1 u], []⟩) (fun _ R s => s.heap.get? l = some { cls := .type "tuple", dict := dd, data := .seq items n, slots := sl } ∧ R (.ok (.ret (.ref l))) s) :=
  .of_wp fun prog w A R s h => by
    obtain ⟨hp, g, d, tk, os⟩ := s
    obtain ⟨hl, h⟩ := h
    have f1 := AutoSeq1.idx_int
    wp_walk using wpAny_loadPart' hl
    exact ⟨_, rfl, h⟩
/-- t * k, k at least 1 -/
def rRepA (K : PySem.W.Frag) : R2 := fun x y H Q => ∃ l k xs, x = .ref l ∧ y = .int k ∧ SqT K H l xs ∧ xs ≠ [] ∧ 1 ≤ k ∧ k ≤ 1000 ∧ xs.length ≤ 1000 ∧
  (k = 1 → Q (.ref l) H) ∧ (k ≠ 1 → ∀ p, H p = none → Q (.ref p) (upd H p (.tup (List.replicate k.toNat xs).flatten)))
theorem op_repA : OpR X (binaryOp .Mult) (rRepA X.K) := by
  intro pins s σ H x y v u Q I rx ry h
  obtain ⟨l, k, xs, rfl, rfl, hT, hne, h1, h2, hz, q1, q2⟩ := h
  by_cases hk : k = 1
  · subst hk
    cases rx
    obtain ⟨t, rfl⟩ := ry
    obtain ⟨its, r, ⟨⟨cls, dd, data, sl⟩, ho, hc, n, hd⟩, hs⟩ := I.tuple hT
    simp only at hc hd
    subst hc hd
    exact wpAny_binaryOp_repeat_ref (T := "tuple") (U := "int") (by decide) ⟨_, ho, rfl⟩ (fun s' => typeIs_int s' 1 t) noFill_tuple_mul F.fills_int_mul F.slot_int_rmul repeat_tuple F.slot_int_index.lookup
      (call_meets F.slot_int_rmul (typeIs_int s 1 t) F.entry_int_rmul (F.args_int_rmul_2 _ _) (int_rmul_tuple 1 t l its.toArray n dd sl)
        ⟨ho, rfl, ⟨_, ho, rfl⟩, call_meets F.slot_tuple_mul ⟨_, ho, rfl⟩ F.entry_tuple_mul (F.args_tuple_mul_2 _ _) (tup_mul1 l its.toArray n dd sl t) ⟨ho, .ref l, H, I, rfl, q1 rfl⟩⟩)
  · exact op_repT pins s σ H _ _ v u Q I rx ry ⟨l, k, xs, rfl, rfl, hT, hne, by omega, h2, hz, q2 hk⟩
end
end SPw
namespace SPw
open PySem PySem.Spec PyProof.Rows L2
/-! dicts from powers to ints -/
def dKV (ts : Poly) : List (List Key × V) := ts.map fun t => (kI t.1, V.int t.2)
/-- the keys are powers of n small exponents -/
def KOK (n : Nat) (p : Int) (ts : Poly) : Prop := ∀ t ∈ ts, t.1.length = n ∧ ∀ a ∈ t.1, 0 ≤ a ∧ a < p
def vOf (ts : Poly) (e : List Int) : Option Int := (ts.find? fun t => decide (t.1 = e)).map (·.2)
theorem kI_iff {a b : List Int} : kI a = kI b ↔ a = b := ⟨kI_inj, fun h => by rw [h]⟩
theorem val_kv (ts : Poly) (e : List Int) : valV (dKV ts) (kI e) = (vOf ts e).map V.int := by
  unfold valV vOf dKV
  induction ts with
  | nil => rfl
  | cons t ts ih =>
    rw [List.map_cons, List.find?_cons, List.find?_cons]
    by_cases h : t.1 = e
    · simp [h]
    · have h' : ¬ kI t.1 = kI e := fun z => h (kI_inj z)
      simp only [h, h', decide_false]
      exact ih
theorem vOf_some {ts : Poly} {e : List Int} (h : e ∈ ts.map (·.1)) : ∃ i, vOf ts e = some i := by
  obtain ⟨t, ht, rfl⟩ := List.mem_map.mp h
  unfold vOf
  cases hf : ts.find? (fun t' => decide (t'.1 = t.1)) with
  | none => exact absurd (List.find?_eq_none.mp hf t ht) (by simp)
  | some t' => exact ⟨t'.2, rfl⟩
def putP (ts : Poly) (e : List Int) (i : Int) : Poly := if (ts.any fun t => decide (t.1 = e)) = true then ts.map (fun t => if t.1 = e then (t.1, i) else t) else ts ++ [(e, i)]
theorem put_kv (ts : Poly) (e : List Int) (i : Int) : putK (dKV ts) (kI e) (.int i) = dKV (putP ts e i) := by
  unfold putK putP
  have h : ((dKV ts).any fun kv => decide (kv.1 = kI e)) = (ts.any fun t => decide (t.1 = e)) := by
    unfold dKV
    rw [List.any_map]
    congr 1
    funext t
    show decide (kI t.1 = kI e) = decide (t.1 = e)
    rw [decide_eq_decide]; exact kI_iff
  rw [h]
  by_cases hc : (ts.any fun t => decide (t.1 = e)) = true
  · rw [if_pos hc, if_pos hc]
    unfold dKV
    rw [List.map_map, List.map_map]
    refine List.map_congr_left fun t _ => ?_
    show (if kI t.1 = kI e then (kI t.1, V.int i) else (kI t.1, V.int t.2)) = (fun t => (kI t.1, V.int t.2)) (if t.1 = e then (t.1, i) else t)
    by_cases ht : t.1 = e
    · rw [if_pos ht, if_pos (kI_iff.mpr ht)]
    · rw [if_neg ht, if_neg (fun z => ht (kI_inj z))]
  · rw [if_neg hc, if_neg hc]
    unfold dKV
    rw [List.map_append]; rfl
theorem putP_len (ts : Poly) (e : List Int) (i : Int) : (putP ts e i).length ≤ ts.length + 1 := by
  unfold putP
  split
  · rw [List.length_map]; exact Nat.le_succ _
  · rw [List.length_append]; exact Nat.le_refl _
theorem putP_ok {n : Nat} {p : Int} {ts : Poly} {e : List Int} {i : Int} (h : KOK n p ts) (he : e.length = n ∧ ∀ a ∈ e, 0 ≤ a ∧ a < p) : KOK n p (putP ts e i) := fun t ht => by
  unfold putP at ht
  split at ht
  · obtain ⟨t0, h0, rfl⟩ := List.mem_map.mp ht
    by_cases h1 : t0.1 = e
    · rw [if_pos h1]; exact h t0 h0
    · rw [if_neg h1]; exact h t0 h0
  · rcases List.mem_append.mp ht with ht | ht
    · exact h t ht
    · rw [List.mem_singleton.mp ht]; exact he
theorem keysI {n : Nat} {p : Int} {ts : Poly} (h : KOK n p ts) (hn : 1 ≤ n) : KeysI (dKV ts) (ts.map (·.1)) := by
  refine ⟨by unfold dKV; rw [List.map_map, List.map_map]; rfl, fun e he => ?_⟩
  obtain ⟨t, ht, rfl⟩ := List.mem_map.mp he
  intro z
  have := (h t ht).1
  rw [z] at this
  simp at this
  omega
/-- v is the dict -/
def DTV (K : PySem.W.Frag) (ts : Poly) : VP := fun v H => ∃ a, v = .ref a ∧ H a = some (.dT (dKV ts))
instance (K : PySem.W.Frag) (ts : Poly) : Mono (DTV K ts) := ⟨fun e h => by
  obtain ⟨a, rfl, h⟩ := h
  exact ⟨a, rfl, e _ _ h⟩⟩
section
variable {K : PySem.W.Frag} {σ : Slots} {H H' H0 : Hp} {ta tb tc te tl td ty tx tv : TE} {P R S : VP} {Ps : List VP} {L : Addr} {ds es : List PyData} {d : PyData} {i : Nat} {ts : Poly} {e : List Int}
variable {E : Ends} {tu tz : TS} {g : TG}
/-- a reading that evaluates tl first -/
theorem ev_strict {F : TE → TE} (hF : ∀ σ H Q, tl σ H (fun v H2 => F (tC v) σ H2 Q) → F tl σ H Q) (h : EV tl σ H P) (k : ∀ v H1, Same H H1 → P v H1 → EV (F (tC v)) σ H1 S) : EV (F tl) σ H S := fun H1 e Q q =>
  hF _ _ _ (h H1 e _ fun v H2 e2 p => k v H2 (e.trans e2) p H2 (Same.refl _) Q fun w H3 e3 s => q w H3 (e2.trans e3) s)
theorem ev_v {v : V} [m : Mono P] (p : P v H) : EV (tC v) σ H P := ev_c fun _ e => m.go e p
theorem ev_lcDS {α : Type} {C : α → Prop} {enc : α → PyData} {g : TG} {tt : TT} {vs : List Nat} (h : EV tl σ H (DS K C enc)) (k : ∀ a, C a → ∀ v H1, Same H H1 → EV (tC v) σ H1 (D K (enc a)) → EV (tLc (iList K (tC v)) g tt te vs) σ H1 S) : EV (tLc (iList K tl) g tt te vs) σ H S :=
  ev_strict (F := fun t => tLc (iList K t) g tt te vs) (fun _ _ _ h => h) h fun v H1 e p => by
    obtain ⟨a, hc, dp⟩ := p
    exact k a hc v H1 e (ev_v (P := D K (enc a)) dp)
theorem ev_dget {v : Int} (h1 : EV td σ H (DTV K ts)) (h2 : EV ty σ H (D K (dI e))) (hv : vOf ts e = some v) : EV (tDGet td ty) σ H (D K (.int v)) := fun H1 e1 Q q =>
  h1 H1 e1 _ fun x H2 e2 p => h2 H2 (e1.trans e2) _ fun y H3 e3 py => by
    obtain ⟨a, rfl, ha⟩ := p
    obtain ⟨b, rfl, hb⟩ := dp_dI py
    refine ⟨a, .int v, rfl, ?_, q _ H3 (e2.trans e3) (.int v)⟩
    have := DGet.t (k := kI e) (e3 _ _ ha) (by rw [kI_V]; exact hb)
    rw [val_kv, hv] at this
    exact this
theorem ev_dget2 {z : Int} (h1 : EV td σ H (DTV K ts)) (h2 : EV ty σ H (D K (dI e))) (h3 : EV tx σ H (D K (.int z))) : EV (tDGet2 td ty tx) σ H (D K (.int ((vOf ts e).getD z))) := fun H1 e1 Q q =>
  h1 H1 e1 _ fun x H2 e2 p => by
    obtain ⟨a, rfl, ha⟩ := p
    refine ⟨a, rfl, .inr ⟨_, .inl ha⟩, h2 H2 (e1.trans e2) _ fun y H3 e3 py => h3 H3 ((e1.trans e2).trans e3) _ fun w H4 e4 pw => ?_⟩
    obtain ⟨b, rfl, hb⟩ := dp_dI py
    refine ⟨(vOf ts e).map V.int, ?_, ?_⟩
    · have := DGet.t (k := kI e) (e4 _ _ (e3 _ _ ha)) (by rw [kI_V]; exact e4 _ _ hb)
      rw [val_kv] at this
      exact this
    · rw [dp_int pw]
      refine q _ H4 ((e2.trans e3).trans e4) ?_
      cases vOf ts e with
      | none => exact .int z
      | some v => exact .int v
/-- a new dict that is filled -/
def MadeD (K : PySem.W.Frag) (H0 : Hp) (L : Addr) (ts : Poly) (H : Hp) : Prop := H0 L = none ∧ Same H0 H ∧ H L = some (.dT (dKV ts))
theorem MadeD.up (m : MadeD K H0 L ts H) (e : Same H H') : MadeD K H0 L ts H' := ⟨m.1, m.2.1.trans e, e _ _ m.2.2⟩
theorem MadeD.v (m : MadeD K H0 L ts H) : DTV K ts (.ref L) H := ⟨L, rfl, m.2.2⟩
theorem MadeD.no (m : MadeD K H0 L ts H) (e : Same H H') : ∀ ys, ¬ Rd H' L (.tup ys) := notup_dT (e _ _ m.2.2)
theorem ev_newT : EV tDNewT σ H (fun v H' => ∃ a, v = .ref a ∧ MadeD K H a [] H') := fun H1 e _ q p np => by
  have nH : H p = none := by
    cases h : H p with
    | none => rfl
    | some u => rw [e _ _ h] at np; cases np
  exact q _ _ (same_new np) ⟨p, rfl, nH, e.trans (same_new np), upd_same⟩
theorem s_dput {v : Int} (m : MadeD K H0 L ts H) (hv : EV tv σ H (D K (.int v))) (hd : σ[i]? = some (some (.ref L))) (hy : EV ty σ H (D K (dI e))) (hz : ts.length < 1000000) (k : ∀ H2, MadeD K H0 L (putP ts e v) H2 → SameO L H H2 → E.nx σ H2) : sDPut (tVar i) ty tv E σ H :=
  hv.go fun w H1 e1 pw => ⟨_, hd, (hy.up e1).go fun y H2 e2 py => by
    obtain ⟨b, rfl, hb⟩ := dp_dI py
    obtain ⟨m1, m2, m3⟩ := m
    have h2 : H2 L = some (.dT (dKV ts)) := e2 _ _ (e1 _ _ m3)
    obtain rfl := dp_int pw
    refine ⟨L, _, rfl, DPut.t (k := kI e) h2 (by rw [kI_V]; exact hb) (Nat.lt_of_lt_of_le (by unfold dKV; rw [List.length_map]; exact hz) sizeL), k _ ⟨m1, same_mut ((m2.trans e1).trans e2) m1, ?_⟩ ((same_O (e1.trans e2)).trans upd_O)⟩
    rw [put_kv]; exact upd_same⟩
theorem q_dput {v : Int} (m : MadeD K H0 L ts H) (hv : EV tv σ H (D K (.int v))) (hd : σ[i]? = some (some (.ref L))) (hy : EV ty σ H (D K (dI e))) (hz : ts.length < 1000000) (k : ∀ H2, MadeD K H0 L (putP ts e v) H2 → SameO L H H2 → tz E σ H2) : tSeq (sDPut (tVar i) ty tv) tz E σ H :=
  s_dput (E := { E with nx := tz E }) m hv hd hy hz k
theorem atKeys_dp : ∀ {bs : List Addr} {fs : List (List Int)}, AtKeys H bs fs → TpAll K H (bs.map V.ref) (fs.map dI)
  | _, _, .nil => .nil
  | _, _, .cons h t => .cons (dI_dp h) (atKeys_dp t)
theorem ev_sortT {n : Nat} {p : Int} (h : EV td σ H (DTV K ts)) (hk : KOK n p ts) (hn : 1 ≤ n) : EV (tCB rSortT (tCons td tNil)) σ H (DS K (fun fs => fs.Perm (ts.map (·.1))) dPts) :=
  ev_cb (eva_cons h eva_nil) fun vs H1 _ ps Q q => by
    obtain ⟨v, rfl, p⟩ := allP1 ps
    obtain ⟨a, rfl, ha⟩ := p
    refine ⟨a, _, _, rfl, ha, keysI hk hn, fun p bs fs hp hA np => q _ _ (same_new np) ⟨fs, hp, dp_new_list upd_same ((atKeys_dp hA).same (same_new np))⟩⟩
/-- a loop over a tuple of data while L changes -/
theorem s_forTo (h : EV te σ H (D K (.tuple ds))) (hn : nlAll ds = true) (hL : ∀ H1, Same H H1 → ∀ ys, ¬ Rd H1 L (.tup ys)) (Pv : Nat → Slots → Hp → Prop)
    (hs : ∀ H0, Same H H0 → ∀ (i : Nat) d x σ' H', ds[i]? = some d → SameO L H0 H' → Pv i σ' H' → Tp K H' x d → g x σ' H' fun σ2 H2 => tu { E with nx := fun a b => SameO L H0 b ∧ Pv (i + 1) a b, ct := fun a b => SameO L H0 b ∧ Pv (i + 1) a b, bk := E.nx } σ2 H2)
    (h0 : ∀ H1, Same H H1 → Pv 0 σ H1) (hd : ∀ σ' H', SameO L H H' → Pv ds.length σ' H' → E.nx σ' H') : tFor (iTup K te) g tu E σ H :=
  h.go fun v H1 e p => by
    obtain ⟨a, xs, rfl, hq, hA⟩ := dp_tupT p
    have hl := hA.len
    have hL1 := hL H1 e
    have ne : a ≠ L := fun z => hL1 xs (z ▸ .inl hq)
    refine ⟨a, rfl, ⟨xs, SqT.of hq⟩, for_tup (xs := xs) (fun i a b => SameO L H1 b ∧ Pv i a b) ⟨SameO.refl _ _, h0 H1 e⟩ (fun i σ' H' hi pv => SqT.of (pv.1 _ _ ne hq)) (fun i x σ' H' hx pv => ?_) (fun σ' H' pv => hd σ' H' ((same_O e).trans pv.1) (by rw [← hl]; exact pv.2))⟩
    obtain ⟨d, hd', dx⟩ := (dpAll_O hL1 pv.1 _ _ hn hA).at hx
    exact hs H1 e i d x σ' H' hd' pv.1 pv.2 dx
theorem q_forTo (h : EV te σ H (D K (.tuple ds))) (hn : nlAll ds = true) (hL : ∀ H1, Same H H1 → ∀ ys, ¬ Rd H1 L (.tup ys)) (Pv : Nat → Slots → Hp → Prop)
    (hs : ∀ H0, Same H H0 → ∀ (i : Nat) d x σ' H', ds[i]? = some d → SameO L H0 H' → Pv i σ' H' → Tp K H' x d → g x σ' H' fun σ2 H2 => tu { E with nx := fun a b => SameO L H0 b ∧ Pv (i + 1) a b, ct := fun a b => SameO L H0 b ∧ Pv (i + 1) a b, bk := tz E } σ2 H2)
    (h0 : ∀ H1, Same H H1 → Pv 0 σ H1) (hd : ∀ σ' H', SameO L H H' → Pv ds.length σ' H' → tz E σ' H') : tSeq (tFor (iTup K te) g tu) tz E σ H :=
  s_forTo (E := { E with nx := tz E }) h hn hL Pv hs h0 hd
end
end SPw
namespace SPw
open PySem PySem.Spec PyProof.Rows L2
def preMade (K : PySem.W.Frag) (vs : List V) (H : Hp) (S : VP) : Prop := ∃ (p : Int) (n L : Nat) (ts : Poly) (v : V), vs = [.int p, v] ∧ Sm p n ∧ 1 ≤ n ∧ DTV K ts v H ∧ KOK n p ts ∧ ts.length ≤ L ∧ L ≤ 1000 ∧ S = DS K (Wf p n L) dPoly
def prePlus (K : PySem.W.Frag) (vs : List V) (H : Hp) (S : VP) : Prop := ∃ (p : Int) (n L1 L2 : Nat) (ts us : Poly) (v2 v3 : V), vs = [.int p, v2, v3] ∧ Sm p n ∧ 1 ≤ n ∧ D K (dPoly ts) v2 H ∧ D K (dPoly us) v3 H ∧ Wf p n L1 ts ∧ Wf p n L2 us ∧ L1 + L2 ≤ 1000 ∧ S = DS K (Wf p n (L1 + L2)) dPoly
def preScaled (K : PySem.W.Frag) (vs : List V) (H : Hp) (S : VP) : Prop := ∃ (p c : Int) (n L : Nat) (ts : Poly) (v2 : V), vs = [.int p, v2, .int c] ∧ Sm p n ∧ D K (dPoly ts) v2 H ∧ Wf p n L ts ∧ L ≤ 1000 ∧ S = DS K (Wf p n L) dPoly
def preConst (K : PySem.W.Frag) (vs : List V) (H : Hp) (S : VP) : Prop := ∃ (p c : Int) (n : Nat), vs = [.int p, .int (n : Int), .int c] ∧ Sm p n ∧ 1 ≤ n ∧ S = DS K (Wf p n 1) dPoly
def less (p r : Int) : Int := if p ≤ r then r - (p - 1) else r
theorem less_lo {p r : Int} (h1 : 1 < p) (h2 : 0 ≤ r) (h3 : r ≤ 2 * (p - 1)) : 0 ≤ less p r ∧ less p r < p := by unfold less; split <;> omega
theorem less_id {p r : Int} (h : r < p) : less p r = r := by unfold less; split <;> omega
def preLess (K : PySem.W.Frag) (vs : List V) (H : Hp) (S : VP) : Prop := ∃ (p r : Int), vs = [.int p, .int r] ∧ 1 < p ∧ 0 ≤ r ∧ r ≤ 2 * (p - 1) ∧ S = D K (.int (less p r))
def preDrawn (K : PySem.W.Frag) (vs : List V) (H : Hp) (S : VP) : Prop := ∃ (p c : Int) (n : Nat), vs = [.int p, .int (n : Int), .int c] ∧ Sm p n ∧ 1 ≤ n ∧ S = DS K (Wf p n 6) dPoly
section
variable {K : PySem.W.Frag} {σ : Slots} {H : Hp} {ta tb tk tv : TE}
theorem ev_dispT {e : List Int} {z : Int} (hk : EV tk σ H (D K (dI e))) (hv : EV tv σ H (D K (.int z))) : EV (tDispT tk tv) σ H (DTV K [(e, z)]) := fun H1 e1 Q q p np =>
  hk _ (e1.trans (same_new np)) _ fun y H2 e2 py => hv _ ((e1.trans (same_new np)).trans e2) _ fun w H3 e3 pw => by
    obtain ⟨b, rfl, hb⟩ := dp_dI py
    obtain rfl := dp_int pw
    refine ⟨e3 _ _ (e2 _ _ upd_same), b, e, rfl, e3 _ _ hb, q _ _ (same_mut (((same_new np).trans e2).trans e3) np) ⟨p, rfl, upd_same⟩⟩
theorem ev_rep0 {n : Nat} (ha : EV ta σ H (D K (dI [0]))) (hb : EV tb σ H (D K (.int (n : Int)))) (h1 : 1 ≤ n) (h2 : n ≤ 1000) : EV (tOp (rRepA K) ta tb) σ H (D K (dI (List.replicate n 0))) :=
  ev_op ha hb fun x y H1 _ p q Q k => by
    obtain ⟨a, rfl, hA⟩ := dp_dI p
    obtain rfl := dp_int q
    refine ⟨a, n, [.int 0], rfl, rfl, SqT.of hA, by simp, by omega, by omega, by simp, fun e => ?_, fun _ l nl => ?_⟩
    · have : n = 1 := by omega
      subst this
      exact k _ H1 (Same.refl _) (dI_dp hA)
    · refine k _ _ (same_new nl) (dI_dp ?_)
      rw [Int.toNat_natCast, upd_same]
      congr 1
      congr 1
      induction n with
      | zero => rfl
      | succ m ih => rw [List.replicate_succ, List.flatten_cons, List.replicate_succ, List.map_cons]; simp
end
theorem sc__law_made : FnScope ["_law_prime", "_law_numbers", "_law_rows", "_law_power", "_law_row"] ["_law_prime", "_law_numbers"] (defScope (top 41)) := ⟨rfl, rfl, rfl, by decide +kernel, rfl, by decide +kernel, by decide +kernel⟩
theorem sc__law_plus : FnScope ["_law_prime", "_law_one", "_law_other", "_law_numbers", "_law_power", "_law_number"] ["_law_prime", "_law_one", "_law_other"] (defScope (top 45)) := ⟨rfl, rfl, rfl, by decide +kernel, rfl, by decide +kernel, by decide +kernel⟩
theorem sc__law_scaled : FnScope ["_law_prime", "_law_one", "_law_number", "_law_rows", "_law_power", "_law_each", "_law_row"] ["_law_prime", "_law_one", "_law_number"] (defScope (top 46)) := ⟨rfl, rfl, rfl, by decide +kernel, rfl, by decide +kernel, by decide +kernel⟩
theorem sc__law_minus : FnScope ["_law_prime", "_law_one", "_law_other"] ["_law_prime", "_law_one", "_law_other"] (defScope (top 47)) := ⟨rfl, rfl, rfl, by decide +kernel, rfl, by decide +kernel, by decide +kernel⟩
theorem sc__law_constant : FnScope ["_law_prime", "_law_count", "_law_number"] ["_law_prime", "_law_count", "_law_number"] (defScope (top 50)) := ⟨rfl, rfl, rfl, by decide +kernel, rfl, by decide +kernel, by decide +kernel⟩
theorem sc__law_lessened : FnScope ["_law_prime", "_law_exponent", "_law_turn"] ["_law_prime", "_law_exponent"] (defScope (top 48)) := ⟨rfl, rfl, rfl, by decide +kernel, rfl, by decide +kernel, by decide +kernel⟩
theorem sc__law_drawn : FnScope ["_law_prime", "_law_count", "_law_cell_here", "_law_digits_here", "_law_numbers", "_law_k", "_law_part", "_law_power", "_law_j"] ["_law_prime", "_law_count", "_law_cell_here"] (defScope (top 42)) := ⟨rfl, rfl, rfl, by decide +kernel, rfl, by decide +kernel, by decide +kernel⟩
section
variable {P : Program} {w : World} {K : PySem.W.Frag} {mg : Str → Option Value} {base : Heap} {CS : Addr}
theorem cl_made (T : Txt mg) (d : DefAt K mg "_law_made" (top 41)) : Cl P w K mg base 1 "_law_made" (Prom (preMade K)) := by
  refine mkCl d (ps := ["_law_prime", "_law_numbers"]) (fun _ _ _ _ _ _ us hl => match us, hl with | [_, _], _ => rfl) sc__law_made ?_ fun f cdv A outer s H vs S Q E hr h q => ?_
  · rintro vs H S ⟨_, _, _, _, _, rfl, _⟩; rfl
  · obtain ⟨p, n, L, ts, v2, rfl, sm, hn, hd, hk, hl, hL, rfl⟩ := h
    refine ⟨_, pss_cons (ps_setLc (i := 2) rfl sc__law_made.nd rfl rfl (sw_true rfl rfl rfl (by decide +kernel)) (pi_listK K (pe_callB (cr_sortT rfl hr.units) rfl T.sorted rfl (pa_cons (pv 1) pa_nil))) (blkOk_by (own := [("_law_power", 3)]) (N := ["_law_prime", "_law_numbers", "_law_rows", "_law_power", "_law_row"]) (sc := (defScope (top 41))) (by decide +kernel)) (fun _ _ _ _ _ => (pg_name (i := 3) sc__law_made.nd rfl (.inl rfl))) (fun _ _ _ _ _ => pts_nil) (fun _ _ _ _ _ => (pe_tup (pa_cons (pv 3) (pa_cons (pe_op op_mod (pe_callTy cr_int rfl T.int rfl (pa_cons (pe_dget (hu_of hr) (pv 1) (pv 3) (fun _ _ => rfl)) pa_nil)) (pv 0)) pa_nil)))))
      (pss_one (ps_ret (pe_callTy (cr_tupleK K) rfl T.tuple rfl (pa_cons (pe_lc rfl sc__law_made.nd (pi_listK K (pe_revL (pv 2))) (blkOk_by (own := [("_law_row", 4)]) (N := ["_law_prime", "_law_numbers", "_law_rows", "_law_power", "_law_row"]) (sc := (defScope (top 41))) (by decide +kernel)) (fun _ _ _ _ _ => (pg_name (i := 4) sc__law_made.nd rfl (.inl rfl))) (fun _ _ _ _ _ => (pts_one (pt_cmpR op_ne (pe_ix (ix_tupK K) (pv 4) pe_int (fun _ _ => rfl)) pe_int rfl))) (fun _ _ _ _ _ => (pv 4))) pa_nil)))), ?_⟩
    have := sm.lo
    refine q_asg (P := DS K (fun fs : List (List Int) => fs.Perm (ts.map (·.1))) (fun fs => .list ((fs.map fun f => (f, (vOf ts f).getD 0 % p)).map dTerm))) (ev_lcDS (ev_sortT (ev_var rfl hd) hk hn) fun fs hfs v H1 s1 hev => ?_) fun v H1 s1 hv => ?_
    · have hfl := hfs.length_eq
      rw [List.length_map] at hfl
      refine EV.ds (a := fs) ((ev_lcL (xs := fs) (enc := dI) (p := fun _ => true) (e := fun f => dTerm (f, (vOf ts f).getD 0 % p)) hev (by omega) (fun _ => nl_dTerm _) ?_).eqD (by rw [gath_all, List.map_map]; rfl)) hfs
      intro f hf x H2 s2 hx
      obtain ⟨c, hc⟩ := vOf_some (hfs.mem_iff.mp hf)
      refine item_name rfl evt_yes fun _ => ?_
      refine (ev_tup (ds := [dI f, .int (c % p)]) (eva_cons (P := D K (dI f)) (ev_var rfl hx) (eva_cons (P := D K (.int (c % p))) (ev_iiC (f := fun i j => i % j) (ev_intI (ev_dget (ev_var rfl (Mono.go (s1.trans s2) hd)) (ev_var rfl hx) hc)) (ev_vi rfl) (by omega)) eva_nil)) (by simp)).eqD ?_
      rw [hc]; rfl
    · obtain ⟨fs, hfs, hrows⟩ := hv
      have hfl := hfs.length_eq
      rw [List.length_map] at hfl
      refine s_ret (P := DS K (Wf p n L) dPoly) (EV.ds (a := ((fs.map fun f => (f, (vOf ts f).getD 0 % p)).reverse).filter fun t => !decide (t.2 = 0)) (ev_tupL ?_) ⟨?_, ?_⟩) fun v H2 s2 hv2 => q v H2 (s1.trans s2) hv2
      · refine (ev_lcL (xs := (fs.map fun f => (f, (vOf ts f).getD 0 % p)).reverse) (enc := dTerm) (p := fun t => !decide (t.2 = 0)) (e := dTerm) ((ev_revL (ev_var rfl hrows)).eqD (by rw [List.map_reverse])) (by rw [List.length_reverse, List.length_map]; omega) (fun _ => nl_dTerm _) ?_)
        intro t ht x H2 s2 hx
        exact item_name rfl (evt_test (ev_neI (ev_ixT (ds := [dI t.1, .int t.2]) (k := 1) (ev_var rfl hx) ev_int rfl rfl) ev_int)) fun _ => ev_var rfl hx
      · refine Nat.le_trans (List.length_filter_le _ _) ?_
        rw [List.length_reverse, List.length_map]; omega
      · intro t ht
        have ht := (List.mem_filter.mp ht).1
        obtain ⟨f, hf, rfl⟩ := List.mem_map.mp (List.mem_reverse.mp ht)
        obtain ⟨t0, h0, rfl⟩ := List.mem_map.mp (hfs.mem_iff.mp hf)
        exact ⟨(hk t0 h0).1, (hk t0 h0).2, Int.emod_nonneg _ (by omega), Int.emod_lt_of_pos _ (by omega)⟩
theorem cl_plus (T : Txt mg) (d : DefAt K mg "_law_plus" (top 45)) (c__law_made : Cl P w K mg base 1 "_law_made" (Prom (preMade K))) : Cl P w K mg base 2 "_law_plus" (Prom (prePlus K)) := by
  refine mkCl d (ps := ["_law_prime", "_law_one", "_law_other"]) (fun _ _ _ _ _ _ us hl => match us, hl with | [_, _, _], _ => rfl) sc__law_plus ?_ fun f cdv A outer s H vs S Q E hr h q => ?_
  · rintro vs H S ⟨_, _, _, _, _, _, _, _, rfl, _⟩; rfl
  · obtain ⟨p, n, L1, L2, ts, us, v2, v3, rfl, sm, hn, h2, h3, w2, w3, hL, rfl⟩ := h
    refine ⟨_, pss_cons (ps_set (i := 3) sc__law_plus.nd rfl (.inl rfl) pe_dnewT)
      (pss_cons (ps_for PassesOwn.never rfl (pi_tupK K (pe_op (op_catK K) (pv 1) (pv 2))) (pg_tupK K (n := 2) (pgs_cons (pg_name (i := 4) sc__law_plus.nd rfl (.inl rfl)) (pgs_cons (pg_name (i := 5) sc__law_plus.nd rfl (.inl rfl)) pgs_nil)))
        (pss_one (ps_dput (hu_of hr) (pv 3) (pv 4) (pe_op op_add (pe_dget2 (hu_of hr) (pv 3) (pv 4) pe_int ⟨rfl, rfl, rfl, rfl⟩) (pv 5)) rfl)))
      (pss_one (ps_ret (pe_k c__law_made hr (by decide) rfl (pa_cons (pv 0) (pa_cons (pv 3) pa_nil)))))), ?_⟩
    have := w2.len
    have := w3.len
    refine q_asg (ev_newT (K := K)) fun v H1 s1 hv => ?_
    obtain ⟨a, rfl, ma⟩ := hv
    refine q_forTo (K := K) (L := a) (ds := (ts ++ us).map dTerm) ((ev_catT (ds := ts.map dTerm) (es := us.map dTerm) (ev_var rfl (Mono.go (P := D K (dPoly ts)) s1 h2)) (ev_var rfl (Mono.go (P := D K (dPoly us)) s1 h3)) (by rw [List.length_map, List.length_map]; omega)).eqD (by rw [List.map_append])) (nl_terms _) (fun H2 s2 => ma.no s2)
      (fun i σ' H' => ∃ (y z : Option V) (kts : Poly), MadeD K H a kts H' ∧ KOK n p kts ∧ kts.length ≤ i ∧ σ' = [some (.int p), some v2, some v3, some (.ref a), y, z]) ?_ (fun H2 s2 => ⟨_, _, [], ma.up s2, (fun t h => by cases h), Nat.le_refl _, rfl⟩) ?_
    · rintro H0 s0 i dd x σ' H' hx sO ⟨y, z, kts, md, hk, hl, rfl⟩ dx
      have hi := (List.getElem?_eq_some_iff.mp hx).1
      rw [List.length_map, List.length_append] at hi
      rw [List.getElem?_map] at hx
      obtain ⟨t, ht, rfl⟩ := Option.map_eq_some_iff.mp hx
      have wt : WfT p n t := by
        rcases List.mem_append.mp (List.mem_of_getElem? ht) with h | h
        · exact w2.tm t h
        · exact w3.tm t h
      obtain ⟨b, yb, rfl, hq, hyb⟩ := dp_term dx
      refine g_two hq ?_
      refine s_dput (e := t.1) (v := (vOf kts t.1).getD 0 + t.2) md (ev_ii (f := fun i j => i + j) (ev_dget2 (ev_var rfl md.v) (ev_var rfl hyb) ev_int) (ev_vi rfl)) rfl (ev_var rfl hyb) (by omega) fun H2 m2 sO2 => ?_
      exact ⟨sO.trans sO2, _, _, _, m2, putP_ok hk ⟨wt.len, wt.ex⟩, Nat.le_trans (putP_len _ _ _) (by omega), rfl⟩
    · rintro σ' H' sO ⟨y, z, kts, md, hk, hl, rfl⟩
      rw [List.length_map, List.length_append] at hl
      refine s_ret (P := DS K (Wf p n (L1 + L2)) dPoly) (ev_call (eva_cons (P := D K (.int p)) (ev_vi rfl) (eva_cons (P := DTV K kts) (ev_var rfl md.v) eva_nil)) ?_) fun v H2 s2 hv2 => q v H2 (md.2.1.trans s2) hv2
      intro vs H2 s2 ps
      obtain ⟨u1, u2, rfl, a1, a2⟩ := allP2 ps
      rw [dp_int a1]
      exact ⟨p, n, L1 + L2, kts, u2, rfl, sm, hn, a2, hk, by omega, hL, rfl⟩
theorem cl_scaled (T : Txt mg) (d : DefAt K mg "_law_scaled" (top 46)) : Cl P w K mg base 1 "_law_scaled" (Prom (preScaled K)) := by
  refine mkCl d (ps := ["_law_prime", "_law_one", "_law_number"]) (fun _ _ _ _ _ _ us hl => match us, hl with | [_, _, _], _ => rfl) sc__law_scaled ?_ fun f cdv A outer s H vs S Q E hr h q => ?_
  · rintro vs H S ⟨_, _, _, _, _, _, rfl, _⟩; rfl
  · obtain ⟨p, c, n, L, ts, v2, rfl, sm, h2, wf, hL, rfl⟩ := h
    refine ⟨_, pss_cons (ps_setLc (i := 3) rfl sc__law_scaled.nd rfl rfl (sw_true rfl rfl rfl (by decide +kernel)) (pi_tupK K (pv 1)) (blkOk_by (own := [("_law_power", 4), ("_law_each", 5)]) (N := ["_law_prime", "_law_one", "_law_number", "_law_rows", "_law_power", "_law_each", "_law_row"]) (sc := (defScope (top 46))) (by decide +kernel)) (fun _ _ _ _ _ => (pg_tupK K (n := 2) (pgs_cons (pg_name (i := 4) sc__law_scaled.nd rfl (.inl rfl)) (pgs_cons (pg_name (i := 5) sc__law_scaled.nd rfl (.inl rfl)) pgs_nil)))) (fun _ _ _ _ _ => pts_nil) (fun _ _ _ _ _ => (pe_tup (pa_cons (pv 4) (pa_cons (pe_op op_mod (pe_callTy cr_int rfl T.int rfl (pa_cons (pe_op op_mul (pv 5) (pv 2)) pa_nil)) (pv 0)) pa_nil)))))
      (pss_one (ps_ret (pe_callTy (cr_tupleK K) rfl T.tuple rfl (pa_cons (pe_lc rfl sc__law_scaled.nd (pi_listK K (pv 3)) (blkOk_by (own := [("_law_row", 6)]) (N := ["_law_prime", "_law_one", "_law_number", "_law_rows", "_law_power", "_law_each", "_law_row"]) (sc := (defScope (top 46))) (by decide +kernel)) (fun _ _ _ _ _ => (pg_name (i := 6) sc__law_scaled.nd rfl (.inl rfl))) (fun _ _ _ _ _ => (pts_one (pt_cmpR op_ne (pe_ix (ix_tupK K) (pv 6) pe_int (fun _ _ => rfl)) pe_int rfl))) (fun _ _ _ _ _ => (pv 6))) pa_nil)))), ?_⟩
    have := sm.lo
    have := sm.hi
    have := wf.len
    refine q_asg (P := D K (.list ((ts.map fun t => (t.1, t.2 * c % p)).map dTerm))) ((ev_lcT (xs := ts) (enc := dTerm) (p := fun _ => true) (e := fun t => dTerm (t.1, t.2 * c % p)) (ev_var rfl h2) (by omega) (fun _ => nl_dTerm _) ?_).eqD (by rw [gath_all, List.map_map]; rfl)) fun v H1 s1 hv => ?_
    · intro t ht v H1 s1 hv
      have wt := wf.tm t ht
      have := wt.c
      obtain ⟨b, yb, rfl, hq, hyb⟩ := dp_term hv
      exact item_two hq rfl evt_yes fun _ => ev_tup (ds := [dI t.1, .int (t.2 * c % p)]) (eva_cons (P := D K (dI t.1)) (ev_var rfl hyb) (eva_cons (P := D K (.int (t.2 * c % p))) (ev_iiC (f := fun i j => i % j) (ev_intI (ev_iiC (f := fun i j => i * j) (ev_vi rfl) (ev_vi rfl) (.inl (by omega)))) (ev_vi rfl) (by omega)) eva_nil)) (by simp)
    · refine s_ret (P := DS K (Wf p n L) dPoly) (EV.ds (a := (ts.map fun t => (t.1, t.2 * c % p)).filter fun t => !decide (t.2 = 0)) (ev_tupL ?_) ⟨?_, ?_⟩) fun v H2 s2 hv2 => q v H2 (s1.trans s2) hv2
      · show EV _ _ _ (D K (.list (gath (fun t => !decide (t.2 = 0)) dTerm (ts.map fun t => (t.1, t.2 * c % p)))))
        refine (ev_lcL (xs := ts.map fun t => (t.1, t.2 * c % p)) (enc := dTerm) (p := fun t => !decide (t.2 = 0)) (e := dTerm) ?_ (by rw [List.length_map]; omega) (fun _ => nl_dTerm _) ?_)
        · exact ev_var rfl hv
        intro t ht x H2 s2 hx
        exact item_name rfl (evt_test (ev_neI (ev_ixT (ds := [dI t.1, .int t.2]) (k := 1) (ev_var rfl hx) ev_int rfl rfl) ev_int)) fun _ => ev_var rfl hx
      · refine Nat.le_trans (List.length_filter_le _ _) ?_
        rw [List.length_map]; omega
      · intro t ht
        have ht := (List.mem_filter.mp ht).1
        obtain ⟨t0, h0, rfl⟩ := List.mem_map.mp ht
        have wt := wf.tm t0 h0
        exact ⟨wt.len, wt.ex, Int.emod_nonneg _ (by omega), Int.emod_lt_of_pos _ (by omega)⟩
theorem cl_minus (T : Txt mg) (d : DefAt K mg "_law_minus" (top 47)) (c__law_plus : Cl P w K mg base 2 "_law_plus" (Prom (prePlus K))) (c__law_scaled : Cl P w K mg base 1 "_law_scaled" (Prom (preScaled K))) : Cl P w K mg base 3 "_law_minus" (Prom (prePlus K)) := by
  refine mkCl d (ps := ["_law_prime", "_law_one", "_law_other"]) (fun _ _ _ _ _ _ us hl => match us, hl with | [_, _, _], _ => rfl) sc__law_minus ?_ fun f cdv A outer s H vs S Q E hr h q => ?_
  · rintro vs H S ⟨_, _, _, _, _, _, _, _, rfl, _⟩; rfl
  · obtain ⟨p, n, L1, L2, ts, us, v2, v3, rfl, sm, hn, h2, h3, w2, w3, hL, rfl⟩ := h
    refine ⟨_, pss_one (ps_ret (pe_k c__law_plus hr (by decide) rfl (pa_cons (pv 0) (pa_cons (pv 1) (pa_cons (pe_k c__law_scaled hr (by decide) rfl (pa_cons (pv 0) (pa_cons (pv 2) (pa_cons (pe_op op_sub (pv 0) pe_int) pa_nil)))) pa_nil))))), ?_⟩
    refine s_ret (P := DS K (Wf p n (L1 + L2)) dPoly) (ev_call (eva_cons (P := D K (.int p)) (ev_vi rfl) (eva_cons (P := D K (dPoly ts)) (ev_var rfl h2) (eva_cons (P := DS K (Wf p n L2) dPoly) (ev_call (eva_cons (P := D K (.int p)) (ev_vi rfl) (eva_cons (P := D K (dPoly us)) (ev_var rfl h3) (eva_cons (P := D K (.int (p - 1))) (ev_ii (f := fun i j => i - j) (ev_vi rfl) ev_int) eva_nil))) ?_) eva_nil))) ?_) fun v H2 s2 hv2 => q v H2 s2 hv2
    · intro vs H2 s2 ps
      obtain ⟨u1, u2, u3, rfl, a1, a2, a3⟩ := allP3 ps
      rw [dp_int a1, dp_int a3]
      exact ⟨p, p - 1, n, L2, us, u2, rfl, sm, a2, w3, by omega, rfl⟩
    · intro vs H2 s2 ps
      obtain ⟨u1, u2, u3, rfl, a1, a2, us', w', a3⟩ := allP3 ps
      rw [dp_int a1]
      exact ⟨p, n, L1, L2, ts, us', u2, u3, rfl, sm, hn, a2, a3, w2, w', hL, rfl⟩
theorem cl_const (T : Txt mg) (d : DefAt K mg "_law_constant" (top 50)) (c__law_made : Cl P w K mg base 1 "_law_made" (Prom (preMade K))) : Cl P w K mg base 2 "_law_constant" (Prom (preConst K)) := by
  refine mkCl d (ps := ["_law_prime", "_law_count", "_law_number"]) (fun _ _ _ _ _ _ us hl => match us, hl with | [_, _, _], _ => rfl) sc__law_constant ?_ fun f cdv A outer s H vs S Q E hr h q => ?_
  · rintro vs H S ⟨_, _, _, rfl, _⟩; rfl
  · obtain ⟨p, c, n, rfl, sm, hn, rfl⟩ := h
    refine ⟨_, pss_one (ps_ret (pe_k c__law_made hr (by decide) rfl (pa_cons (pv 0) (pa_cons (pe_dispT hr.units (pe_op op_repA (pe_tup (pa_cons pe_int pa_nil)) (pv 1)) (pv 2)) pa_nil)))), ?_⟩
    have := sm.lo
    have := sm.n
    refine s_ret (P := DS K (Wf p n 1) dPoly) (ev_call (eva_cons (P := D K (.int p)) (ev_vi rfl) (eva_cons (P := DTV K [(List.replicate n 0, c)]) (ev_dispT (ev_rep0 (ev_tup (ds := [.int 0]) (eva_cons ev_int eva_nil) (by decide)) (ev_vi rfl) hn (by omega)) (ev_vi rfl)) eva_nil)) ?_) fun v H2 s2 hv2 => q v H2 s2 hv2
    intro vs H2 s2 ps
    obtain ⟨u1, u2, rfl, a1, a2⟩ := allP2 ps
    rw [dp_int a1]
    refine ⟨p, n, 1, _, u2, rfl, sm, hn, a2, fun t ht => ?_, Nat.le_refl _, by decide, rfl⟩
    rw [List.mem_singleton.mp ht]
    refine ⟨List.length_replicate, fun a ha => ?_⟩
    rw [(List.mem_replicate.mp ha).2]; omega
theorem cl_less (T : Txt mg) (d : DefAt K mg "_law_lessened" (top 48)) : Cl P w K mg base 1 "_law_lessened" (Prom (preLess K)) := by
  refine mkCl d (ps := ["_law_prime", "_law_exponent"]) (fun _ _ _ _ _ _ us hl => match us, hl with | [_, _], _ => rfl) sc__law_lessened ?_ fun f cdv A outer s H vs S Q E hr h q => ?_
  · rintro vs H S ⟨_, _, rfl, _⟩; rfl
  · obtain ⟨p, r, rfl, hp, h1, h2, rfl⟩ := h
    refine ⟨_, pss_cons (ps_for PassesOwn.never rfl (pi_range1 rfl T.range (pa_cons pe_int pa_nil)) (pg_name (i := 2) sc__law_lessened.nd rfl (.inl rfl))
        (pss_one (ps_if (pt_cmpR op_ge (pv 1) (pv 0) rfl)
          (pss_one (ps_set (i := 1) sc__law_lessened.nd rfl (.inl rfl) (pe_op op_sub (pv 1) (pe_op op_sub (pv 0) pe_int))))
          pss_nil)))
      (pss_one (ps_ret (pv 1))), ?_⟩
    have hlo := less_lo hp h1 h2
    refine q_forR (K := K) (n := 20) (eva_cons ev_int eva_nil) (by decide) (by decide)
      (fun i σ' H' => ∃ (y : Option V) (e : Int), (i = 0 → e = r) ∧ (i ≠ 0 → e = less p r) ∧ Same H H' ∧ σ' = [some (.int p), some (.int e), y]) (fun H2 s2 => ⟨_, r, fun _ => rfl, fun z => absurd rfl z, s2, rfl⟩) ?_ ?_
    · rintro i σ' H' hi ⟨y, e, e0, e1, sm, rfl⟩
      have hn : less p e = less p r := by
        by_cases h : i = 0
        · rw [e0 h]
        · rw [e1 h]; exact less_id hlo.2
      refine s_if (evt_test (K := K) (ev_cmp (f := fun i j => decide (j ≤ i)) (ev_vi rfl) (ev_vi rfl))) (fun hb H3 s3 => ?_) (fun hb H3 s3 => ?_)
      · have hb := of_decide_eq_true hb
        refine s_asg (P := D K (.int (e - (p - 1)))) (ev_ii (f := fun i j => i - j) (ev_vi rfl) (ev_ii (f := fun i j => i - j) (ev_vi rfl) ev_int)) fun v H4 s4 hv4 => ?_
        obtain rfl := dp_int hv4
        refine ⟨_, e - (p - 1), fun z => by omega, fun _ => ?_, (sm.trans s3).trans s4, rfl⟩
        rw [← hn]; unfold less; rw [if_pos hb]
      · have hb := of_decide_eq_false hb
        refine ⟨_, e, fun z => by omega, fun _ => ?_, sm.trans s3, rfl⟩
        rw [← hn]; unfold less; rw [if_neg hb]
    · rintro σ' H' ⟨y, e, e0, e1, sm, rfl⟩
      rw [e1 (by decide)]
      exact s_ret (P := D K (.int (less p r))) (ev_vi rfl) fun v H3 s3 hv2 => q v H3 (sm.trans s3) hv2
theorem cl_drawn (T : Txt mg) (d : DefAt K mg "_law_drawn" (top 42)) (c__law_digits : Cl P w K mg base 1 "_law_digits" (Prom (preDig K))) (c__law_made : Cl P w K mg base 1 "_law_made" (Prom (preMade K))) : Cl P w K mg base 2 "_law_drawn" (Prom (preDrawn K)) := by
  refine mkCl d (ps := ["_law_prime", "_law_count", "_law_cell_here"]) (fun _ _ _ _ _ _ us hl => match us, hl with | [_, _, _], _ => rfl) sc__law_drawn ?_ fun f cdv A outer s H vs S Q E hr h q => ?_
  · rintro vs H S ⟨_, _, _, rfl, _⟩; rfl
  · obtain ⟨p, c, n, rfl, sm, hn, rfl⟩ := h
    refine ⟨_, pss_cons (ps_set (i := 3) sc__law_drawn.nd rfl (.inl rfl) (pe_k c__law_digits hr (by decide) rfl (pa_cons (pv 2) (pa_cons pe_int (pa_cons (pe_op op_add (pe_op op_mul pe_int (pe_op op_add (pv 1) pe_int)) pe_int) pa_nil)))))
      (pss_cons (ps_set (i := 4) sc__law_drawn.nd rfl (.inl rfl) pe_dnewT)
      (pss_cons (ps_for PassesOwn.never rfl (pi_range1 rfl T.range (pa_cons (pe_op op_mod (pe_callTy cr_int rfl T.int rfl (pa_cons (pe_ix (ix_listK K) (pv 3) pe_int (fun _ _ => rfl)) pa_nil)) pe_int) pa_nil)) (pg_name (i := 5) sc__law_drawn.nd rfl (.inl rfl))
        (pss_cons (ps_set (i := 6) sc__law_drawn.nd rfl (.inr rfl) (pe_slice (sl_listK K) (pv 3) (po_some (pe_op op_add pe_int (pe_op op_mul (pv 5) (pe_op op_add (pv 1) pe_int)))) (po_some (pe_op op_add pe_int (pe_op op_mul (pe_op op_add (pv 5) pe_int) (pe_op op_add (pv 1) pe_int))))))
        (pss_cons (ps_set (i := 7) sc__law_drawn.nd rfl (.inl rfl) (pe_callTy (cr_tupleK K) rfl T.tuple rfl (pa_cons (pe_lc rfl sc__law_drawn.nd (pi_range1 rfl T.range (pa_cons (pv 1) pa_nil)) (blkOk_by (own := [("_law_j", 8)]) (N := ["_law_prime", "_law_count", "_law_cell_here", "_law_digits_here", "_law_numbers", "_law_k", "_law_part", "_law_power", "_law_j"]) (sc := (defScope (top 42))) (by decide +kernel)) (fun _ _ _ _ _ => (pg_name (i := 8) sc__law_drawn.nd rfl (.inl rfl))) (fun _ _ _ _ _ => pts_nil) (fun _ _ _ _ _ => (pe_op op_mod (pe_callTy cr_int rfl T.int rfl (pa_cons (pe_ix (ix_listK K) (pv 6) (pv 8) (fun _ _ => rfl)) pa_nil)) (pv 0)))) pa_nil)))
        (pss_one (ps_dput (hu_of hr) (pv 4) (pv 7) (pe_op op_add pe_int (pe_op op_mod (pe_callTy cr_int rfl T.int rfl (pa_cons (pe_ix (ix_listK K) (pv 6) (pv 1) (fun _ _ => rfl)) pa_nil)) (pe_op op_sub (pv 0) pe_int))) rfl)))))
      (pss_one (ps_ret (pe_k c__law_made hr (by decide) rfl (pa_cons (pv 0) (pa_cons (pv 4) pa_nil))))))), ?_⟩
    have := sm.lo
    have := sm.n
    refine q_asg (P := DS K (Dig 420 (6 * (n + 1) + 1)) dL) (ev_call (eva_cons (P := D K (.int c)) (ev_vi rfl) (eva_cons (P := D K (.int 420)) ev_int (eva_cons (P := D K (.int (6 * ((n : Int) + 1) + 1))) (ev_ii (f := fun i j => i + j) (ev_iiC (f := fun i j => i * j) ev_int (ev_ii (f := fun i j => i + j) (ev_vi rfl) ev_int) (.inl (by decide))) ev_int) eva_nil))) ?_) fun v H1 s1 hv => ?_
    · intro vs H2 s2 ps
      obtain ⟨u1, u2, u3, rfl, a1, a2, a3⟩ := allP3 ps
      rw [dp_int a1, dp_int a2, dp_int a3]
      exact ⟨c, 420, 6 * (n + 1) + 1, by simp, by decide, by decide, by omega, rfl⟩
    obtain ⟨ds, dg, hds⟩ := hv
    have dl := dg.1
    refine q_asg (ev_newT (K := K)) fun v2 H2 s2 hv2 => ?_
    obtain ⟨a, rfl, ma⟩ := hv2
    have h0 : ds[0]? = some (ds.getD 0 0) := by rw [getD_in (by omega), List.getElem?_eq_getElem]
    have hm7 : 0 ≤ ds.getD 0 0 % 7 ∧ ds.getD 0 0 % 7 < 7 := ⟨Int.emod_nonneg _ (by decide), Int.emod_lt_of_pos _ (by decide)⟩
    refine q_forR (K := K) (n := ds.getD 0 0 % 7) (eva_cons (P := D K (.int (ds.getD 0 0 % 7))) (ev_iiC (f := fun i j => i % j) (ev_intI (ev_ixL (ds := ds.map .int) (k := 0) (ev_var rfl (Mono.go (P := D K (dL ds)) s2 hds)) ev_int rfl (by rw [List.getElem?_map, h0]; rfl))) ev_int (by decide)) eva_nil) (by omega) (by omega)
      (fun i σ' H' => ∃ (y z u : Option V) (kts : Poly), MadeD K H1 a kts H' ∧ KOK n p kts ∧ kts.length ≤ i ∧ σ' = [some (.int p), some (.int (n : Int)), some (.int c), some v, some (.ref a), y, z, u, none]) (fun H3 s3 => ⟨_, _, _, [], ma.up s3, (fun t h => by cases h), Nat.le_refl _, rfl⟩) ?_ ?_
    · rintro i σ' H' hi ⟨y, z, u, kts, md, hk, hl, rfl⟩
      have hi7 : i < 7 := by omega
      have hi6 : i < 6 := by omega
      have hmul : (i + 1) * (n + 1) ≤ 6 * (n + 1) := Nat.mul_le_mul_right _ (by omega)
      have hmul2 : (i + 1) * (n + 1) = i * (n + 1) + (n + 1) := by rw [Nat.add_mul, Nat.one_mul]
      have hcut : cutD (ds.map .int) (some (1 + (i : Int) * ((n : Int) + 1))) (some (1 + ((i : Int) + 1) * ((n : Int) + 1))) = ((ds.drop (1 + i * (n + 1))).take (n + 1)).map .int := by
        have e1 : (1 + (i : Int) * ((n : Int) + 1)) = ((1 + i * (n + 1) : Nat) : Int) := by simp
        have e2 : (1 + ((i : Int) + 1) * ((n : Int) + 1)) = ((1 + (i + 1) * (n + 1) : Nat) : Int) := by simp
        rw [e1, e2, cutD_two _ _ _ (by omega) (by rw [List.length_map]; omega), List.map_take, List.map_drop]
        congr 1
        omega
      have hpl : ((ds.drop (1 + i * (n + 1))).take (n + 1)).length = n + 1 := by rw [List.length_take, List.length_drop]; omega
      refine q_asg (P := D K (dL ((ds.drop (1 + i * (n + 1))).take (n + 1)))) ((ev_slL (ds := ds.map .int) (lo := some (1 + (i : Int) * ((n : Int) + 1))) (hi := some (1 + ((i : Int) + 1) * ((n : Int) + 1))) (ev_var rfl (Mono.go (P := D K (dL ds)) md.2.1 hds)) (evo_some (K := K) (ev_ii (f := fun i j => i + j) ev_int (ev_iiC (f := fun i j => i * j) (ev_vi rfl) (ev_ii (f := fun i j => i + j) (ev_vi rfl) ev_int) (.inl (by omega))))) (evo_some (K := K) (ev_ii (f := fun i j => i + j) ev_int (ev_iiC (f := fun i j => i * j) (ev_ii (f := fun i j => i + j) (ev_vi rfl) ev_int) (ev_ii (f := fun i j => i + j) (ev_vi rfl) ev_int) (.inl (by omega)))))).ld.eqD (by rw [hcut]; rfl)) fun vp H3 s3 hv3 => ?_
      generalize (ds.drop (1 + i * (n + 1))).take (n + 1) = part at hpl hv3
      have hpj : ∀ j, j ≤ n → part[j]? = some (part.getD j 0) := fun j hj => by rw [getD_in (by omega), List.getElem?_eq_getElem]
      refine q_asg (P := D K (dI ((List.range n).map fun j => part.getD j 0 % p))) (ev_tupL ((ev_lcR (n := (n : Int)) (p := fun _ => true) (e := fun j => .int (part.getD j 0 % p)) (eva_cons (ev_vi rfl) eva_nil) (by omega) (by omega) (fun _ => rfl) ?_).eqD (by rw [gath_all, Int.toNat_natCast, List.map_map]; rfl))) fun ve H4 s4 hv4 => ?_
      · intro j hj H4 s4
        exact item_name rfl evt_yes fun _ => ev_iiC (f := fun i j => i % j) (ev_intI (ev_ixL (ds := part.map .int) (k := j) (ev_var rfl (Mono.go (P := D K (dL part)) s4 hv3)) (ev_vi rfl) rfl (by rw [List.getElem?_map, hpj j (by omega)]; rfl))) (ev_vi rfl) (by omega)
      · refine s_dput (e := (List.range n).map fun j => part.getD j 0 % p) (v := 1 + part.getD n 0 % (p - 1)) (md.up (s3.trans s4)) (ev_ii (f := fun i j => i + j) ev_int (ev_iiC (f := fun i j => i % j) (ev_intI (ev_ixL (ds := part.map .int) (k := n) (ev_var rfl (Mono.go (P := D K (dL part)) s4 hv3)) (ev_vi rfl) rfl (by rw [List.getElem?_map, hpj n (Nat.le_refl _)]; rfl))) (ev_ii (f := fun i j => i - j) (ev_vi rfl) ev_int) (by omega))) rfl (ev_var rfl hv4) (by omega) fun H5 m5 sO5 => ?_
        refine ⟨_, _, _, _, m5, putP_ok hk ⟨by rw [List.length_map, List.length_range], fun x hx => ?_⟩, Nat.le_trans (putP_len _ _ _) (by omega), rfl⟩
        obtain ⟨j, _, rfl⟩ := List.mem_map.mp hx
        exact ⟨Int.emod_nonneg _ (by omega), Int.emod_lt_of_pos _ (by omega)⟩
    · rintro σ' H' ⟨y, z, u, kts, md, hk, hl, rfl⟩
      refine s_ret (P := DS K (Wf p n 6) dPoly) (ev_call (eva_cons (P := D K (.int p)) (ev_vi rfl) (eva_cons (P := DTV K kts) (ev_var rfl md.v) eva_nil)) ?_) fun v H2 s2 hv2 => q v H2 ((s1.trans md.2.1).trans s2) hv2
      intro vs H2 s2 ps
      obtain ⟨u1, u2, rfl, a1, a2⟩ := allP2 ps
      rw [dp_int a1]
      exact ⟨p, n, 6, kts, u2, rfl, sm, hn, a2, hk, by omega, by decide, rfl⟩
end
end SPw
namespace SPw
open PySem PySem.Spec PyProof.Rows L2
theorem Wf.mono {p : Int} {n L L2 : Nat} {ts : Poly} (h : Wf p n L ts) (e : L ≤ L2) : Wf p n L2 ts := ⟨Nat.le_trans h.len e, h.tm⟩
def EqsOk (p : Int) (n M L : Nat) (fs : List Poly) : Prop := fs.length ≤ M ∧ ∀ f ∈ fs, Wf p n L f
def preTimes (K : PySem.W.Frag) (vs : List V) (H : Hp) (S : VP) : Prop := ∃ (p : Int) (n L1 L2 : Nat) (ts us : Poly) (v2 v3 : V), vs = [.int p, v2, v3] ∧ Sm p n ∧ 1 ≤ n ∧ D K (dPoly ts) v2 H ∧ D K (dPoly us) v3 H ∧ Wf p n L1 ts ∧ Wf p n L2 us ∧ L1 * L2 ≤ 1000 ∧ S = DS K (Wf p n (L1 * L2)) dPoly
def sols (p : Int) (n : Nat) (fs : List Poly) : List (List Int) := (pts p n).filter fun x => fs.all fun f => decide (val p f x = 0)
def preSols (K : PySem.W.Frag) (vs : List V) (H : Hp) (S : VP) : Prop := ∃ (p : Int) (n M L : Nat) (fs : List Poly) (v3 : V), vs = [.int p, .int (n : Int), v3] ∧ Sm p n ∧ D K (dEqs fs) v3 H ∧ EqsOk p n M L fs ∧ M ≤ 1000 ∧ L ≤ 1000 ∧ S = D K (dPts (sols p n fs))
def ndl (p : Int) (n : Nat) (fs : List Poly) (i : Nat) : Bool := (sols p n (fs.take i ++ fs.drop (i + 1))).all fun x => decide (val p (fs.getD i []) x = 0)
def preNdl (K : PySem.W.Frag) (vs : List V) (H : Hp) (S : VP) : Prop := ∃ (p : Int) (n M L i : Nat) (fs : List Poly) (v3 : V), vs = [.int p, .int (n : Int), v3, .int (i : Int)] ∧ Sm p n ∧ D K (dEqs fs) v3 H ∧ EqsOk p n M L fs ∧ M ≤ 1000 ∧ L ≤ 1000 ∧ i < fs.length ∧ S = D K (.bool (ndl p n fs i))
def preEqs (K : PySem.W.Frag) (vs : List V) (H : Hp) (S : VP) : Prop := ∃ (p c : Int) (n : Nat), vs = [.int p, .int (n : Int), .int c] ∧ Sm p n ∧ 1 ≤ n ∧ S = DS K (EqsOk p n 4 7) dEqs
def preMore (K : PySem.W.Frag) (vs : List V) (H : Hp) (S : VP) : Prop := ∃ (p c c2 : Int) (n : Nat), vs = [.int p, .int (n : Int), .int c, .int c2] ∧ Sm p n ∧ 1 ≤ n ∧ S = DS K (EqsOk p n 6 252) dEqs
theorem nl_dEqs (fs : List Poly) : nlAll (fs.map dPoly) = true := nlAll_iff.mpr fun d hd => by obtain ⟨a, _, rfl⟩ := List.mem_map.mp hd; exact nl_dPoly a
theorem nl_dPts (fs : List (List Int)) : nlAll (fs.map dI) = true := nlAll_iff.mpr fun d hd => by obtain ⟨a, _, rfl⟩ := List.mem_map.mp hd; exact nl_dI a
section
variable {σ : Slots} {H : Hp} {b : Bool} {E : Ends} {tu tw tz : TS} {t : TT}
/-- an if whose arms meet at Pm -/
theorem q_ifR (Pm : Slots → Hp → Prop) (h : EVT t σ H b) (h1 : b = true → ∀ H1, Same H H1 → ∀ N : Slots → Hp → Prop, (∀ σ' H', Pm σ' H' → N σ' H') → tu { E with nx := N } σ H1)
    (h2 : b = false → ∀ H1, Same H H1 → ∀ N : Slots → Hp → Prop, (∀ σ' H', Pm σ' H' → N σ' H') → tw { E with nx := N } σ H1) (k : ∀ σ' H', Pm σ' H' → tz E σ' H') : tSeq (tIfS t tu tw) tz E σ H :=
  q_if h (fun hb H1 s => h1 hb H1 s _ k) fun hb H1 s => h2 hb H1 s _ k
end
theorem sc__law_times : FnScope ["_law_prime", "_law_one", "_law_other", "_law_numbers", "_law_power", "_law_number", "_law_second", "_law_factor", "_law_both", "_law_k"] ["_law_prime", "_law_one", "_law_other"] (defScope (top 49)) := ⟨rfl, rfl, rfl, by decide +kernel, rfl, by decide +kernel, by decide +kernel⟩
theorem sc__law_solutions : FnScope ["_law_prime", "_law_count", "_law_equations_here", "_law_found", "_law_point", "_law_one"] ["_law_prime", "_law_count", "_law_equations_here"] (defScope (top 52)) := ⟨rfl, rfl, rfl, by decide +kernel, rfl, by decide +kernel, by decide +kernel⟩
theorem sc__law_needless : FnScope ["_law_prime", "_law_count", "_law_equations_here", "_law_index", "_law_others", "_law_points_here", "_law_point"] ["_law_prime", "_law_count", "_law_equations_here", "_law_index"] (defScope (top 54)) := ⟨rfl, rfl, rfl, by decide +kernel, rfl, by decide +kernel, by decide +kernel⟩
section
variable {P : Program} {w : World} {K : PySem.W.Frag} {mg : Str → Option Value} {base : Heap} {CS : Addr}
theorem cl_times (T : Txt mg) (d : DefAt K mg "_law_times" (top 49)) (c__law_lessened : Cl P w K mg base 1 "_law_lessened" (Prom (preLess K))) (c__law_made : Cl P w K mg base 1 "_law_made" (Prom (preMade K))) : Cl P w K mg base 2 "_law_times" (Prom (preTimes K)) := by
  refine mkCl d (ps := ["_law_prime", "_law_one", "_law_other"]) (fun _ _ _ _ _ _ us hl => match us, hl with | [_, _, _], _ => rfl) sc__law_times ?_ fun f cdv A outer s H vs S Q E hr h q => ?_
  · rintro vs H S ⟨_, _, _, _, _, _, _, _, rfl, _⟩; rfl
  · obtain ⟨p, n, L1, L2, ts, us, v2, v3, rfl, sm, hn, h2, h3, w2, w3, hL, rfl⟩ := h
    refine ⟨_, pss_cons (ps_set (i := 3) sc__law_times.nd rfl (.inl rfl) pe_dnewT)
      (pss_cons (ps_for PassesOwn.never rfl (pi_tupK K (pv 1)) (pg_tupK K (n := 2) (pgs_cons (pg_name (i := 4) sc__law_times.nd rfl (.inr rfl)) (pgs_cons (pg_name (i := 5) sc__law_times.nd rfl (.inl rfl)) pgs_nil)))
        (pss_one (ps_for PassesOwn.never rfl (pi_tupK K (pv 2)) (pg_tupK K (n := 2) (pgs_cons (pg_name (i := 6) sc__law_times.nd rfl (.inr rfl)) (pgs_cons (pg_name (i := 7) sc__law_times.nd rfl (.inl rfl)) pgs_nil)))
          (pss_cons (ps_set (i := 8) sc__law_times.nd rfl (.inl rfl) (pe_callTy (cr_tupleK K) rfl T.tuple rfl (pa_cons (pe_lc rfl sc__law_times.nd (pi_range1 rfl T.range (pa_cons (pe_callB (cr_lenK K) rfl T.len rfl (pa_cons (pv 4) pa_nil)) pa_nil)) (blkOk_by (own := [("_law_k", 9)]) (N := ["_law_prime", "_law_one", "_law_other", "_law_numbers", "_law_power", "_law_number", "_law_second", "_law_factor", "_law_both", "_law_k"]) (sc := (defScope (top 49))) (by decide +kernel)) (fun _ _ _ _ _ => (pg_name (i := 9) sc__law_times.nd rfl (.inl rfl))) (fun _ _ _ _ _ => pts_nil) (fun _ _ _ _ _ => (pe_k c__law_lessened hr (by decide) rfl (pa_cons (pv 0) (pa_cons (pe_op op_add (pe_ix (ix_tupK K) (pv 4) (pv 9) (fun _ _ => rfl)) (pe_ix (ix_tupK K) (pv 6) (pv 9) (fun _ _ => rfl))) pa_nil))))) pa_nil)))
          (pss_one (ps_dput (hu_of hr) (pv 3) (pv 8) (pe_op op_add (pe_dget2 (hu_of hr) (pv 3) (pv 8) pe_int ⟨rfl, rfl, rfl, rfl⟩) (pe_op op_mul (pv 5) (pv 7))) rfl))))))
      (pss_one (ps_ret (pe_k c__law_made hr (by decide) rfl (pa_cons (pv 0) (pa_cons (pv 3) pa_nil)))))), ?_⟩
    have := sm.lo
    have := sm.hi
    have := sm.n
    have l2 := w2.len
    have l3 := w3.len
    have hll : ts.length * us.length ≤ L1 * L2 := Nat.mul_le_mul l2 l3
    refine q_asg (ev_newT (K := K)) fun v H1 s1 hv => ?_
    obtain ⟨a, rfl, ma⟩ := hv
    refine q_forTo (K := K) (L := a) (ds := ts.map dTerm) (ev_var rfl (Mono.go (P := D K (dPoly ts)) s1 h2)) (nl_terms _) (fun H2 s2 => ma.no s2)
      (fun i σ' H' => ∃ (y z x1 x2 x3 : Option V) (kts : Poly), MadeD K H a kts H' ∧ KOK n p kts ∧ kts.length ≤ i * us.length ∧ σ' = [some (.int p), some v2, some v3, some (.ref a), y, z, x1, x2, x3, none]) ?_ (fun H2 s2 => ⟨_, _, _, _, _, [], ma.up s2, (fun t h => by cases h), by simp, rfl⟩) ?_
    · rintro H0 s0 i dd x σ' H' hx sO ⟨y, z, x1, x2, x3, kts, md, hk, hl, rfl⟩ dx
      have hi := (List.getElem?_eq_some_iff.mp hx).1
      rw [List.length_map] at hi
      rw [List.getElem?_map] at hx
      obtain ⟨t, ht, rfl⟩ := Option.map_eq_some_iff.mp hx
      have wt := w2.tm t (List.mem_of_getElem? ht)
      obtain ⟨b, yb, rfl, hq, hyb⟩ := dp_term dx
      have him : (i + 1) * us.length ≤ ts.length * us.length := Nat.mul_le_mul_right _ (by omega)
      have him2 : (i + 1) * us.length = i * us.length + us.length := by rw [Nat.add_mul, Nat.one_mul]
      refine g_two hq ?_
      refine s_forTo (K := K) (L := a) (ds := us.map dTerm) (ev_var rfl (Mono.go (P := D K (dPoly us)) md.2.1 h3)) (nl_terms _) (fun H2 s2 => md.no s2)
        (fun j σ' H2 => ∃ (x1 x2 x3 : Option V) (kts : Poly), SameO a H' H2 ∧ MadeD K H a kts H2 ∧ KOK n p kts ∧ kts.length ≤ i * us.length + j ∧ σ' = [some (.int p), some v2, some v3, some (.ref a), some yb, some (.int t.2), x1, x2, x3, none]) ?_ (fun H2 s2 => ⟨_, _, _, kts, same_O s2, md.up s2, hk, hl, rfl⟩) ?_
      · rintro H02 s02 j dd2 x σ' H2 hx2 sO2 ⟨x1, x2, x3, kts, sO3, md2, hk2, hl2, rfl⟩ dx2
        have hj := (List.getElem?_eq_some_iff.mp hx2).1
        rw [List.length_map] at hj
        rw [List.getElem?_map] at hx2
        obtain ⟨u, hu, rfl⟩ := Option.map_eq_some_iff.mp hx2
        have wu := w3.tm u (List.mem_of_getElem? hu)
        obtain ⟨b2, yb2, rfl, hq2, hyb2⟩ := dp_term dx2
        have hyb' : Tp K H2 yb (dI t.1) := dp_O (notup_dT md.2.2) sO3 _ _ (nl_dI _) hyb
        have ct := wt.c
        refine g_two hq2 ?_
        have gt : ∀ j, j < n → t.1[j]? = some (t.1.getD j 0) := fun j hj => by rw [getD_in (by rw [wt.len]; exact hj), List.getElem?_eq_getElem]
        have gu : ∀ j, j < n → u.1[j]? = some (u.1.getD j 0) := fun j hj => by rw [getD_in (by rw [wu.len]; exact hj), List.getElem?_eq_getElem]
        have bt : ∀ j, j < n → 0 ≤ t.1.getD j 0 ∧ t.1.getD j 0 < p := fun j hj => wt.ex _ (List.mem_of_getElem? (gt j hj))
        have bu : ∀ j, j < n → 0 ≤ u.1.getD j 0 ∧ u.1.getD j 0 < p := fun j hj => wu.ex _ (List.mem_of_getElem? (gu j hj))
        refine q_asg (P := D K (dI ((List.range n).map fun j => less p (t.1.getD j 0 + u.1.getD j 0)))) (ev_tupL ((ev_lcR (n := (n : Int)) (p := fun _ => true) (e := fun j => .int (less p (t.1.getD j 0 + u.1.getD j 0))) (eva_cons (P := D K (.int (n : Int))) ((ev_lenT (ds := t.1.map .int) (ev_var rfl hyb')).eqD (by rw [List.length_map, wt.len])) eva_nil) (by omega) (by omega) (fun _ => rfl) ?_).eqD (by rw [gath_all, Int.toNat_natCast, List.map_map]; rfl))) fun ve H3 s3 hv3 => ?_
        · intro j hj H3 s3
          have hj' : j < n := by omega
          have b1 := bt j hj'
          have b2 := bu j hj'
          refine item_name rfl evt_yes fun _ => ev_call (eva_cons (P := D K (.int p)) (ev_vi rfl) (eva_cons (P := D K (.int (t.1.getD j 0 + u.1.getD j 0))) (ev_ii (f := fun i j => i + j) (ev_ixT (ds := t.1.map .int) (k := j) (ev_var rfl (Mono.go (P := D K (dI t.1)) s3 hyb')) (ev_vi rfl) rfl (by rw [List.getElem?_map, gt j hj']; rfl)) (ev_ixT (ds := u.1.map .int) (k := j) (ev_var rfl (Mono.go (P := D K (dI u.1)) s3 hyb2)) (ev_vi rfl) rfl (by rw [List.getElem?_map, gu j hj']; rfl))) eva_nil)) ?_
          intro vs H4 s4 ps
          obtain ⟨u1, u2, rfl, a1, a2⟩ := allP2 ps
          rw [dp_int a1, dp_int a2]
          exact ⟨p, _, rfl, by omega, by omega, by omega, rfl⟩
        · have md3 := md2.up s3
          refine s_dput (e := (List.range n).map fun j => less p (t.1.getD j 0 + u.1.getD j 0)) (v := (vOf kts ((List.range n).map fun j => less p (t.1.getD j 0 + u.1.getD j 0))).getD 0 + t.2 * u.2) md3 (ev_ii (f := fun i j => i + j) (ev_dget2 (ev_var rfl md3.v) (ev_var rfl hv3) ev_int) (ev_iiC (f := fun i j => i * j) (ev_vi rfl) (ev_vi rfl) (.inl (by omega)))) rfl (ev_var rfl hv3) (by omega) fun H5 m5 sO5 => ?_
          refine ⟨(sO2.trans (same_O s3)).trans sO5, _, _, _, _, (sO3.trans (same_O s3)).trans sO5, m5, putP_ok hk2 ⟨by rw [List.length_map, List.length_range], fun x hx => ?_⟩, Nat.le_trans (putP_len _ _ _) (by omega), rfl⟩
          obtain ⟨j, hj, rfl⟩ := List.mem_map.mp hx
          have hj' := List.mem_range.mp hj
          have b1 := bt j hj'
          have b2 := bu j hj'
          exact less_lo sm.lo (by omega) (by omega)
      · rintro σ' H2 sO2 ⟨x1, x2, x3, kts, sO3, md2, hk2, hl2, rfl⟩
        rw [List.length_map] at hl2
        exact ⟨sO.trans sO3, _, _, _, _, _, kts, md2, hk2, by omega, rfl⟩
    · rintro σ' H' sO ⟨y, z, x1, x2, x3, kts, md, hk, hl, rfl⟩
      rw [List.length_map] at hl
      refine s_ret (P := DS K (Wf p n (L1 * L2)) dPoly) (ev_call (eva_cons (P := D K (.int p)) (ev_vi rfl) (eva_cons (P := DTV K kts) (ev_var rfl md.v) eva_nil)) ?_) fun v H2 s2 hv2 => q v H2 (md.2.1.trans s2) hv2
      intro vs H2 s2 ps
      obtain ⟨u1, u2, rfl, a1, a2⟩ := allP2 ps
      rw [dp_int a1]
      exact ⟨p, n, L1 * L2, kts, u2, rfl, sm, hn, a2, hk, by omega, hL, rfl⟩
theorem cl_sols (T : Txt mg) (d : DefAt K mg "_law_solutions" (top 52)) (c__law_points : Cl P w K mg base 1 "_law_points" (Prom (prePts K))) (c__law_value : Cl P w K mg base 2 "_law_value" (Prom (preLV K))) : Cl P w K mg base 3 "_law_solutions" (Prom (preSols K)) := by
  refine mkCl d (ps := ["_law_prime", "_law_count", "_law_equations_here"]) (fun _ _ _ _ _ _ us hl => match us, hl with | [_, _, _], _ => rfl) sc__law_solutions ?_ fun f cdv A outer s H vs S Q E hr h q => ?_
  · rintro vs H S ⟨_, _, _, _, _, _, rfl, _⟩; rfl
  · obtain ⟨p, n, M, L, fs, v3, rfl, sm, h3, ok, hM, hL, rfl⟩ := h
    refine ⟨_, pss_cons (ps_set (i := 3) sc__law_solutions.nd rfl (.inl rfl) (pe_lst pa_nil))
      (pss_cons (ps_for PassesOwn.never rfl (pi_listK K (pe_k c__law_points hr (by decide) rfl (pa_cons (pv 0) (pa_cons (pv 1) pa_nil)))) (pg_name (i := 4) sc__law_solutions.nd rfl (.inr rfl))
        (pss_one (ps_if (pt_val (pe_callB (cr_allK K) rfl T.all rfl (pa_cons (pe_lc rfl sc__law_solutions.nd (pi_listK K (pv 2)) (blkOk_by (own := [("_law_one", 5)]) (N := ["_law_prime", "_law_count", "_law_equations_here", "_law_found", "_law_point", "_law_one"]) (sc := (defScope (top 52))) (by decide +kernel)) (fun _ _ _ _ _ => (pg_name (i := 5) sc__law_solutions.nd rfl (.inl rfl))) (fun _ _ _ _ _ => pts_nil) (fun _ _ _ _ _ => (pe_cmpR op_eq (pe_k c__law_value hr (by decide) rfl (pa_cons (pv 0) (pa_cons (pv 5) (pa_cons (pv 4) pa_nil)))) pe_int rfl))) pa_nil)))
          (pss_one (ps_expr (pe_bm PySem.F.plainAttrs_list PySem.F.slot_list_append PySem.F.type_list_append mt_append (pv 3) (pa_cons (pv 4) pa_nil))))
          pss_nil)))
      (pss_one (ps_ret (pv 3)))), ?_⟩
    have := sm.lo
    have := sm.hi
    have := ok.1
    have lp := pts_small sm
    refine q_asg (ev_nilM (K := K)) fun v H1 s1 hv => ?_
    obtain ⟨a, rfl, ma⟩ := hv
    have ma' := ma
    obtain ⟨n1, n2, ys, n3, n4⟩ := ma'
    have hys : ys.length = 0 := n4.len
    have hpos : (pts p n).length ≠ 0 := by
      rw [pts_len]
      have : 0 < p.toNat ^ n := Nat.pow_pos (by omega)
      omega
    refine q_forLo (K := K) (L := a) (ds := (pts p n).map dI) (ev_call (S := D K (dPts (pts p n))) (eva_cons (P := D K (.int p)) (ev_vi rfl) (eva_cons (P := D K (.int (n : Int))) (ev_vi rfl) eva_nil)) ?_) (nl_dPts _) n3 (by rw [List.length_map, hys]; exact hpos)
      (fun i σ' H' => ∃ (y : Option V), Made K H a ((((pts p n).take i).filter fun x => fs.all fun f => decide (val p f x = 0)).map dI) H' ∧ σ' = [some (.int p), some (.int (n : Int)), some v3, some (.ref a), y, none]) ?_ (fun H2 s2 => ⟨_, ma.up s2, rfl⟩) ?_
    · intro vs H2 s2 ps
      obtain ⟨u1, u2, rfl, a1, a2⟩ := allP2 ps
      rw [dp_int a1, dp_int a2]
      exact ⟨p, n, rfl, sm, rfl⟩
    · rintro H0 s0 i dd x σ' H' hx sO ⟨y, md, rfl⟩ dx
      have hi := (List.getElem?_eq_some_iff.mp hx).1
      rw [List.length_map] at hi
      rw [List.getElem?_map] at hx
      obtain ⟨b, hb, rfl⟩ := Option.map_eq_some_iff.mp hx
      have hbl := (pts_mem p n b (List.mem_of_getElem? hb)).1
      have hlen : ((((pts p n).take i).filter fun x => fs.all fun f => decide (val p f x = 0)).map dI).length < 1000000 := by
        rw [List.length_map]
        have h1 := List.length_filter_le (fun x => fs.all fun f => decide (val p f x = 0)) ((pts p n).take i)
        rw [List.length_take] at h1
        omega
      have hstep : (((pts p n).take (i + 1)).filter fun x => fs.all fun f => decide (val p f x = 0)) = (((pts p n).take i).filter fun x => fs.all fun f => decide (val p f x = 0)) ++ (if (fs.all fun f => decide (val p f b = 0)) = true then [b] else []) := by
        rw [List.take_add_one, hb, List.filter_append]
        congr 1
        show List.filter _ [b] = _
        by_cases h : (fs.all fun f => decide (val p f b = 0)) = true
        · rw [if_pos h, List.filter_cons, if_pos h]; rfl
        · rw [if_neg h, List.filter_cons, if_neg h]; rfl
      have hev : EVT (tB (tCB (rAll K) (tCons (tLc (iList K (tVar 2)) (gName 5) tYes (tOp rEq (tCall (Prom (preLV K)) [] E0 (tCons (tVar 0) (tCons (tVar 5) (tCons (tVar 4) tNil)))) (tC (.int 0))) [5]) tNil))) [some (.int p), some (.int (n : Int)), some v3, some (.ref a), some x, none] H' (fs.all fun f => decide (val p f b = 0)) := by
        refine (evt_B (ev_allL (ns := fs.map fun f => decide (val p f b = 0)) ?_)).to (by rw [List.all_map]; rfl)
        refine (ev_lcL (xs := fs) (enc := dPoly) (p := fun _ => true) (e := fun f => .bool (decide (val p f b = 0))) (ev_var rfl (Mono.go (P := D K (dEqs fs)) md.2.1 h3)) (by omega) (fun _ => rfl) ?_).eqD (by rw [gath_all, List.map_map]; rfl)
        intro f hf xf H2 s2 hxf
        refine item_name rfl evt_yes fun _ => ev_eqI (ev_call (S := D K (.int (val p f b))) (eva_cons (P := D K (.int p)) (ev_vi rfl) (eva_cons (P := D K (dPoly f)) (ev_var rfl hxf) (eva_cons (P := D K (dI b)) (ev_var rfl (Mono.go (P := D K (dI b)) s2 dx)) eva_nil))) ?_) ev_int
        intro vs H4 s4 ps
        obtain ⟨u1, u2, u3, rfl, a1, a2, a3⟩ := allP3 ps
        rw [dp_int a1]
        exact ⟨p, n, L, f, b, u2, u3, rfl, sm, a2, a3, hbl, ok.2 f hf, hL, rfl⟩
      refine s_if hev (fun hb2 H2 s2 => ?_) (fun hb2 H2 s2 => ?_)
      · rw [hb2, if_pos rfl] at hstep
        refine s_appM (md.up s2) rfl (nl_dPts _) (nl_dI b) hlen (ev_var rfl (Mono.go (P := D K (dI b)) s2 dx)) fun H3 m3 sO3 => ⟨(sO.trans (same_O s2)).trans sO3, _, ?_, rfl⟩
        rw [hstep, List.map_append]; exact m3
      · rw [hb2, if_neg Bool.false_ne_true, List.append_nil] at hstep
        refine ⟨sO.trans (same_O s2), _, ?_, rfl⟩
        rw [hstep]; exact md.up s2
    · rintro σ' H' sO ⟨y, md, rfl⟩
      rw [List.length_map, List.take_length] at md
      exact s_ret (P := D K (dPts (sols p n fs))) (ev_var rfl md.seq) fun v H2 s2 hv2 => q v H2 (md.2.1.trans s2) hv2
theorem cl_ndl (T : Txt mg) (d : DefAt K mg "_law_needless" (top 54)) (c__law_solutions : Cl P w K mg base 3 "_law_solutions" (Prom (preSols K))) (c__law_value : Cl P w K mg base 2 "_law_value" (Prom (preLV K))) : Cl P w K mg base 4 "_law_needless" (Prom (preNdl K)) := by
  refine mkCl d (ps := ["_law_prime", "_law_count", "_law_equations_here", "_law_index"]) (fun _ _ _ _ _ _ us hl => match us, hl with | [_, _, _, _], _ => rfl) sc__law_needless ?_ fun f cdv A outer s H vs S Q E hr h q => ?_
  · rintro vs H S ⟨_, _, _, _, _, _, _, rfl, _⟩; rfl
  · obtain ⟨p, n, M, L, i, fs, v3, rfl, sm, h3, ok, hM, hL, hi, rfl⟩ := h
    refine ⟨_, pss_cons (ps_set (i := 4) sc__law_needless.nd rfl (.inl rfl) (pe_op op_cat (pe_slice (sl_listK K) (pv 2) po_none (po_some (pv 3))) (pe_slice (sl_listK K) (pv 2) (po_some (pe_op op_add (pv 3) pe_int)) po_none)))
      (pss_cons (ps_set (i := 5) sc__law_needless.nd rfl (.inl rfl) (pe_k c__law_solutions hr (by decide) rfl (pa_cons (pv 0) (pa_cons (pv 1) (pa_cons (pv 4) pa_nil)))))
      (pss_one (ps_ret (pe_callB (cr_allK K) rfl T.all rfl (pa_cons (pe_lc rfl sc__law_needless.nd (pi_listK K (pv 5)) (blkOk_by (own := [("_law_point", 6)]) (N := ["_law_prime", "_law_count", "_law_equations_here", "_law_index", "_law_others", "_law_points_here", "_law_point"]) (sc := (defScope (top 54))) (by decide +kernel)) (fun _ _ _ _ _ => (pg_name (i := 6) sc__law_needless.nd rfl (.inl rfl))) (fun _ _ _ _ _ => pts_nil) (fun _ _ _ _ _ => (pe_cmpR op_eq (pe_k c__law_value hr (by decide) rfl (pa_cons (pv 0) (pa_cons (pe_ix (ix_listK K) (pv 2) (pv 3) (fun _ _ => rfl)) (pa_cons (pv 6) pa_nil)))) pe_int rfl))) pa_nil))))), ?_⟩
    have hfl := ok.1
    have lp := pts_small sm
    have ok2 : EqsOk p n M L (fs.take i ++ fs.drop (i + 1)) := ⟨by rw [List.length_append, List.length_take, List.length_drop]; omega, fun f hf => by
      rcases List.mem_append.mp hf with hf | hf
      · exact ok.2 f (List.mem_of_mem_take hf)
      · exact ok.2 f (List.mem_of_mem_drop hf)⟩
    refine q_asg (P := D K (dEqs (fs.take i ++ fs.drop (i + 1)))) ((ev_catL (ds := cutD (fs.map dPoly) none (some (i : Int))) (es := cutD (fs.map dPoly) (some ((i : Int) + 1)) none) (ev_slL (ev_var rfl h3) evo_none (evo_some (K := K) (ev_vi rfl))) (ev_slL (ev_var rfl h3) (evo_some (K := K) (ev_ii (f := fun i j => i + j) (ev_vi rfl) ev_int)) evo_none) ?_).ld.eqD ?_) fun v H1 s1 hv => ?_
    · have e1 : ((i : Int) + 1) = ((i + 1 : Nat) : Int) := rfl
      rw [e1, cutD_hi, cutD_lo, List.length_take, List.length_drop, List.length_map]; omega
    · have e1 : ((i : Int) + 1) = ((i + 1 : Nat) : Int) := rfl
      rw [e1, cutD_hi, cutD_lo, ← List.map_take, ← List.map_drop, ← List.map_append]; rfl
    refine q_asg (P := D K (dPts (sols p n (fs.take i ++ fs.drop (i + 1))))) (ev_call (eva_cons (P := D K (.int p)) (ev_vi rfl) (eva_cons (P := D K (.int (n : Int))) (ev_vi rfl) (eva_cons (P := D K (dEqs (fs.take i ++ fs.drop (i + 1)))) (ev_var rfl hv) eva_nil))) ?_) fun v2 H2 s2 hv2 => ?_
    · intro vs H2 s2 ps
      obtain ⟨u1, u2, u3, rfl, a1, a2, a3⟩ := allP3 ps
      rw [dp_int a1, dp_int a2]
      exact ⟨p, n, M, L, _, u3, rfl, sm, a3, ok2, hM, hL, rfl⟩
    have hsl : (sols p n (fs.take i ++ fs.drop (i + 1))).length < 1000000 := by
      have h1 := List.length_filter_le (fun x => (fs.take i ++ fs.drop (i + 1)).all fun f => decide (val p f x = 0)) (pts p n)
      unfold sols; omega
    have gi : fs[i]? = some (fs.getD i []) := by rw [getD_in hi, List.getElem?_eq_getElem]
    refine s_ret (P := D K (.bool (ndl p n fs i))) ((ev_allL (ns := (sols p n (fs.take i ++ fs.drop (i + 1))).map fun x => decide (val p (fs.getD i []) x = 0)) ?_).eqD (by rw [List.all_map]; rfl)) fun v H3 s3 hv3 => q v H3 ((s1.trans s2).trans s3) hv3
    refine (ev_lcL (xs := sols p n (fs.take i ++ fs.drop (i + 1))) (enc := dI) (p := fun _ => true) (e := fun x => .bool (decide (val p (fs.getD i []) x = 0))) (ev_var rfl hv2) hsl (fun _ => rfl) ?_).eqD (by rw [gath_all, List.map_map]; rfl)
    intro x hx xv H3 s3 hxv
    refine item_name rfl evt_yes fun _ => ev_eqI (ev_call (S := D K (.int (val p (fs.getD i []) x))) (eva_cons (P := D K (.int p)) (ev_vi rfl) (eva_cons (P := D K (dPoly (fs.getD i []))) (ev_ixL (ds := fs.map dPoly) (k := i) (ev_var rfl (Mono.go (P := D K (dEqs fs)) ((s1.trans s2).trans s3) h3)) (ev_vi rfl) rfl (by rw [List.getElem?_map, gi]; rfl)) (eva_cons (P := D K (dI x)) (ev_var rfl hxv) eva_nil))) ?_) ev_int
    intro vs H4 s4 ps
    obtain ⟨u1, u2, u3, rfl, a1, a2, a3⟩ := allP3 ps
    rw [dp_int a1]
    exact ⟨p, n, L, fs.getD i [], x, u2, u3, rfl, sm, a2, a3, (pts_mem p n x (List.mem_filter.mp hx).1).1, ok.2 _ (List.mem_of_getElem? gi), hL, rfl⟩
end
end SPw
namespace SPw
open PySem PySem.Spec PyProof.Rows L2
theorem sc__law_equations : FnScope ["_law_prime", "_law_count", "_law_cell_here", "_law_digits_here", "_law_points_here", "_law_point", "_law_found", "_law_k", "_law_one", "_law_power", "_law_number"] ["_law_prime", "_law_count", "_law_cell_here"] (defScope (top 51)) := ⟨rfl, rfl, rfl, by decide +kernel, rfl, by decide +kernel, by decide +kernel⟩
theorem sc__law_more_equations : FnScope ["_law_prime", "_law_count", "_law_cell_here", "_law_more", "_law_found", "_law_digits_here", "_law_k", "_law_one", "_law_choice", "_law_place"] ["_law_prime", "_law_count", "_law_cell_here", "_law_more"] (defScope (top 53)) := ⟨rfl, rfl, rfl, by decide +kernel, rfl, by decide +kernel, by decide +kernel⟩
section
variable {P : Program} {w : World} {K : PySem.W.Frag} {mg : Str → Option Value} {base : Heap} {CS : Addr}
theorem dig_at {m : Int} {n : Nat} {ds : List Int} (h : Dig m n ds) (k : Nat) (hk : k < n) : ds[k]? = some (ds.getD k 0) ∧ 0 ≤ ds.getD k 0 ∧ ds.getD k 0 < m := by
  have e : ds[k]? = some (ds.getD k 0) := by rw [getD_in (by rw [h.1]; exact hk), List.getElem?_eq_getElem]
  exact ⟨e, h.2 _ (List.mem_of_getElem? e)⟩
theorem cl_eqs (T : Txt mg) (d : DefAt K mg "_law_equations" (top 51)) (c__law_digits : Cl P w K mg base 1 "_law_digits" (Prom (preDig K))) (c__law_points : Cl P w K mg base 1 "_law_points" (Prom (prePts K))) (c__law_drawn : Cl P w K mg base 2 "_law_drawn" (Prom (preDrawn K)))
    (c__law_minus : Cl P w K mg base 3 "_law_minus" (Prom (prePlus K))) (c__law_constant : Cl P w K mg base 2 "_law_constant" (Prom (preConst K))) (c__law_value : Cl P w K mg base 2 "_law_value" (Prom (preLV K))) : Cl P w K mg base 4 "_law_equations" (Prom (preEqs K)) := by
  refine mkCl d (ps := ["_law_prime", "_law_count", "_law_cell_here"]) (fun _ _ _ _ _ _ us hl => match us, hl with | [_, _, _], _ => rfl) sc__law_equations ?_ fun f cdv A outer s H vs S Q E hr h q => ?_
  · rintro vs H S ⟨_, _, _, rfl, _⟩; rfl
  · obtain ⟨p, c, n, rfl, sm, hn, rfl⟩ := h
    refine ⟨_, pss_cons (ps_set (i := 3) sc__law_equations.nd rfl (.inl rfl) (pe_k c__law_digits hr (by decide) rfl (pa_cons (pv 2) (pa_cons pe_int (pa_cons pe_int pa_nil)))))
      (pss_cons (ps_set (i := 4) sc__law_equations.nd rfl (.inl rfl) (pe_k c__law_points hr (by decide) rfl (pa_cons (pv 0) (pa_cons (pv 1) pa_nil))))
      (pss_cons (ps_set (i := 5) sc__law_equations.nd rfl (.inl rfl) (pe_ix (ix_listK K) (pv 4) (pe_op op_mod (pe_callTy cr_int rfl T.int rfl (pa_cons (pe_ix (ix_listK K) (pv 3) pe_int (fun _ _ => rfl)) pa_nil)) (pe_callB (cr_lenK K) rfl T.len rfl (pa_cons (pv 4) pa_nil))) (fun _ _ => rfl)))
      (pss_cons (ps_set (i := 6) sc__law_equations.nd rfl (.inl rfl) (pe_lst pa_nil))
      (pss_cons (ps_for PassesOwn.never rfl (pi_range1 rfl T.range (pa_cons (pe_ix (ix_listK K) (pe_lst (pa_cons pe_int (pa_cons pe_int (pa_cons pe_int (pa_cons pe_int (pa_cons pe_int (pa_cons pe_int (pa_cons pe_int pa_nil)))))))) (pe_op op_mod (pe_callTy cr_int rfl T.int rfl (pa_cons (pe_ix (ix_listK K) (pv 3) pe_int (fun _ _ => rfl)) pa_nil)) pe_int) (fun _ _ => rfl)) pa_nil)) (pg_name (i := 7) sc__law_equations.nd rfl (.inl rfl))
        (pss_cons (ps_set (i := 8) sc__law_equations.nd rfl (.inl rfl) (pe_k c__law_drawn hr (by decide) rfl (pa_cons (pv 0) (pa_cons (pv 1) (pa_cons (pe_op op_add (pe_ix (ix_listK K) (pv 3) (pe_op op_add pe_int (pe_op op_mul pe_int (pv 7))) (fun _ _ => rfl)) (pe_op op_mul pe_int (pe_ix (ix_listK K) (pv 3) (pe_op op_add pe_int (pe_op op_mul pe_int (pv 7))) (fun _ _ => rfl)))) pa_nil)))))
        (pss_cons (ps_if (pt_cmpR op_eq (pe_op op_mod (pe_callTy cr_int rfl T.int rfl (pa_cons (pe_ix (ix_listK K) (pv 3) pe_int (fun _ _ => rfl)) pa_nil)) pe_int) pe_int rfl)
          (pss_one (ps_set (i := 8) sc__law_equations.nd rfl (.inl rfl) (pe_callTy (cr_tupleK K) rfl T.tuple rfl (pa_cons (pe_lc rfl sc__law_equations.nd (pi_tupK K (pv 8)) (blkOk_by (own := [("_law_power", 9), ("_law_number", 10)]) (N := ["_law_prime", "_law_count", "_law_cell_here", "_law_digits_here", "_law_points_here", "_law_point", "_law_found", "_law_k", "_law_one", "_law_power", "_law_number"]) (sc := (defScope (top 51))) (by decide +kernel)) (fun _ _ _ _ _ => (pg_tupK K (n := 2) (pgs_cons (pg_name (i := 9) sc__law_equations.nd rfl (.inl rfl)) (pgs_cons (pg_name (i := 10) sc__law_equations.nd rfl (.inl rfl)) pgs_nil)))) (fun _ _ _ _ _ => (pts_one (pt_cmpR op_lt (pe_callB (cr_sumTK K) rfl T.sum rfl (pa_cons (pv 9) pa_nil)) pe_int rfl))) (fun _ _ _ _ _ => (pe_tup (pa_cons (pv 9) (pa_cons (pv 10) pa_nil))))) pa_nil))))
          pss_nil)
        (pss_cons (ps_if (pt_cmpR op_gt (pe_op op_mod (pe_callTy cr_int rfl T.int rfl (pa_cons (pe_ix (ix_listK K) (pv 3) pe_int (fun _ _ => rfl)) pa_nil)) pe_int) pe_int rfl)
          (pss_one (ps_set (i := 8) sc__law_equations.nd rfl (.inl rfl) (pe_k c__law_minus hr (by decide) rfl (pa_cons (pv 0) (pa_cons (pv 8) (pa_cons (pe_k c__law_constant hr (by decide) rfl (pa_cons (pv 0) (pa_cons (pv 1) (pa_cons (pe_k c__law_value hr (by decide) rfl (pa_cons (pv 0) (pa_cons (pv 8) (pa_cons (pv 5) pa_nil)))) pa_nil)))) pa_nil))))))
          pss_nil)
        (pss_one (ps_expr (pe_bm PySem.F.plainAttrs_list PySem.F.slot_list_append PySem.F.type_list_append mt_append (pv 6) (pa_cons (pv 8) pa_nil))))))))
      (pss_one (ps_ret (pv 6))))))), ?_⟩
    have := sm.lo
    have := sm.hi
    have lp := pts_small sm
    refine q_asg (P := DS K (Dig 5040 16) dL) (ev_call (eva_cons (P := D K (.int c)) (ev_vi rfl) (eva_cons (P := D K (.int 5040)) ev_int (eva_cons (P := D K (.int 16)) ev_int eva_nil))) ?_) fun vd H1 s1 hv => ?_
    · intro vs H2 s2 ps
      obtain ⟨u1, u2, u3, rfl, a1, a2, a3⟩ := allP3 ps
      rw [dp_int a1, dp_int a2, dp_int a3]
      exact ⟨c, 5040, 16, rfl, by decide, by decide, by decide, rfl⟩
    obtain ⟨ds, dg, hds⟩ := hv
    have hds : D K (dL ds) vd H1 := hds
    have dig : ∀ {σ : Slots} {H2 : Hp} {te : TE} {i : Int} (k : Nat), Same H1 H2 → σ[3]? = some (some vd) → EV te σ H2 (D K (.int i)) → i = (k : Int) → k < 16 → EV (tOp (rIxL K) (tVar 3) te) σ H2 (D K (.int (ds.getD k 0))) := fun k s hσ hi hik hk =>
      ev_ixL (ds := ds.map .int) (k := k) (ev_var hσ (Mono.go s hds)) hi hik (by rw [List.getElem?_map, (dig_at dg k hk).1]; rfl)
    refine q_asg (P := D K (dPts (pts p n))) (ev_call (eva_cons (P := D K (.int p)) (ev_vi rfl) (eva_cons (P := D K (.int (n : Int))) (ev_vi rfl) eva_nil)) ?_) fun vp H2 s2 hvp => ?_
    · intro vs H2 s2 ps
      obtain ⟨u1, u2, rfl, a1, a2⟩ := allP2 ps
      rw [dp_int a1, dp_int a2]
      exact ⟨p, n, rfl, sm, rfl⟩
    have hpos : 0 < (pts p n).length := by
      rw [pts_len]
      exact Nat.pow_pos (by omega)
    obtain ⟨j, hj, hje⟩ : ∃ j : Nat, j < (pts p n).length ∧ ds.getD 0 0 % ((pts p n).length : Int) = (j : Int) := by
      have q1 := Int.emod_nonneg (ds.getD 0 0) (show ((pts p n).length : Int) ≠ 0 by omega)
      have q2 := Int.emod_lt_of_pos (ds.getD 0 0) (show 0 < ((pts p n).length : Int) by omega)
      exact ⟨(ds.getD 0 0 % ((pts p n).length : Int)).toNat, by omega, by omega⟩
    have gj : (pts p n)[j]? = some ((pts p n).getD j []) := by rw [getD_in hj, List.getElem?_eq_getElem]
    have hxm := pts_mem p n _ (List.mem_of_getElem? gj)
    generalize (pts p n).getD j [] = x at gj hxm
    refine q_asg (P := D K (dI x)) (ev_ixL (ds := (pts p n).map dI) (i := ds.getD 0 0 % ((pts p n).length : Int)) (k := j) (ev_var rfl hvp) (ev_iiC (f := fun i j => i % j) (ev_intI (dig 0 s2 rfl ev_int rfl (by decide))) ((ev_lenL (ds := (pts p n).map dI) (ev_var rfl hvp)).eqD (by rw [List.length_map])) (by omega)) hje (by rw [List.getElem?_map, gj]; rfl)) fun vx H3 s3 hvx => ?_
    refine q_asg (ev_nilM (K := K)) fun v H4 s4 hv => ?_
    obtain ⟨a, rfl, ma⟩ := hv
    obtain ⟨m, hm, hme⟩ : ∃ m : Nat, m < 5 ∧ EV (tOp (rIxL K) (tLst (tCons (tC (.int 0)) (tCons (tC (.int 1)) (tCons (tC (.int 2)) (tCons (tC (.int 2)) (tCons (tC (.int 3)) (tCons (tC (.int 1)) (tCons (tC (.int 4)) tNil)))))))) (tOp (rI (fun _ j => 0 < j) fun i j => .int (i % j)) (tCB rInt1 (tCons (tOp (rIxL K) (tVar 3) (tC (.int 1))) tNil)) (tC (.int 7))))
        [some (.int p), some (.int (n : Int)), some (.int c), some vd, some vp, some vx, some (.ref a), none, none, none, none] H4 (D K (.int (m : Int))) := by
      obtain ⟨t, ht, hte⟩ : ∃ t : Nat, t < 7 ∧ ds.getD 1 0 % 7 = (t : Int) := ⟨(ds.getD 1 0 % 7).toNat, by omega, by omega⟩
      have gl : ∀ m : Int, ([0, 1, 2, 2, 3, 1, 4] : List Int)[t]? = some m → EV (tOp (rIxL K) (tLst (tCons (tC (.int 0)) (tCons (tC (.int 1)) (tCons (tC (.int 2)) (tCons (tC (.int 2)) (tCons (tC (.int 3)) (tCons (tC (.int 1)) (tCons (tC (.int 4)) tNil)))))))) (tOp (rI (fun _ j => 0 < j) fun i j => .int (i % j)) (tCB rInt1 (tCons (tOp (rIxL K) (tVar 3) (tC (.int 1))) tNil)) (tC (.int 7))))
        [some (.int p), some (.int (n : Int)), some (.int c), some vd, some vp, some vx, some (.ref a), none, none, none, none] H4 (D K (.int m)) := fun m hm =>
        ev_ixL (ds := ([0, 1, 2, 2, 3, 1, 4] : List Int).map .int) (i := ds.getD 1 0 % 7) (k := t) (ev_lst (ds := ([0, 1, 2, 2, 3, 1, 4] : List Int).map .int) (eva_cons ev_int <| eva_cons ev_int <| eva_cons ev_int <| eva_cons ev_int <| eva_cons ev_int <| eva_cons ev_int <| eva_cons ev_int eva_nil) (by decide)) (ev_iiC (f := fun i j => i % j) (ev_intI (dig 1 ((s2.trans s3).trans s4) rfl ev_int rfl (by decide))) ev_int (by decide)) hte (by rw [List.getElem?_map, hm]; rfl)
      rcases t with _ | _ | _ | _ | _ | _ | _ | t
      · exact ⟨0, by decide, gl 0 rfl⟩
      · exact ⟨1, by decide, gl 1 rfl⟩
      · exact ⟨2, by decide, gl 2 rfl⟩
      · exact ⟨2, by decide, gl 2 rfl⟩
      · exact ⟨3, by decide, gl 3 rfl⟩
      · exact ⟨1, by decide, gl 1 rfl⟩
      · exact ⟨4, by decide, gl 4 rfl⟩
      · omega
    refine q_forR (K := K) (n := (m : Int)) (eva_cons hme eva_nil) (by omega) (by omega)
      (fun i σ' H' => ∃ (y z : Option V) (fs : List Poly), Made K H3 a (fs.map dPoly) H' ∧ fs.length = i ∧ (∀ f ∈ fs, Wf p n 7 f) ∧ σ' = [some (.int p), some (.int (n : Int)), some (.int c), some vd, some vp, some vx, some (.ref a), y, z, none, none]) (fun H5 s5 => ⟨_, _, [], ma.up s5, rfl, (fun t h => by cases h), rfl⟩) ?_ ?_
    · rintro i σ' H' hi ⟨y, z, fs, md, hfl, hfs, rfl⟩
      have hi4 : i < 4 := by omega
      have sB : Same H3 H' := md.2.1
      have sD : Same H1 H' := (s2.trans s3).trans sB
      have e2 : (2 : Int) + 2 * (i : Int) = ((2 + 2 * i : Nat) : Int) := by simp
      have e3 : (3 : Int) + 2 * (i : Int) = ((3 + 2 * i : Nat) : Int) := by simp
      refine q_asg (P := DS K (Wf p n 6) dPoly) (ev_call (eva_cons (P := D K (.int p)) (ev_vi rfl) (eva_cons (P := D K (.int (n : Int))) (ev_vi rfl) (eva_cons (P := D K (.int (ds.getD (2 + 2 * i) 0 + 5040 * ds.getD (3 + 2 * i) 0))) (ev_ii (f := fun i j => i + j) (dig (2 + 2 * i) sD rfl (ev_ii (f := fun i j => i + j) ev_int (ev_iiC (f := fun i j => i * j) ev_int (ev_vi rfl) (.inl (by decide)))) e2 (by omega)) (ev_iiC (f := fun i j => i * j) ev_int (dig (3 + 2 * i) sD rfl (ev_ii (f := fun i j => i + j) ev_int (ev_iiC (f := fun i j => i * j) ev_int (ev_vi rfl) (.inl (by decide)))) e3 (by omega)) (.inl (by decide)))) eva_nil))) ?_) fun v5 H5 s5 hv5 => ?_
      · intro vs H5 s5 ps
        obtain ⟨u1, u2, u3, rfl, a1, a2, a3⟩ := allP3 ps
        rw [dp_int a1, dp_int a2, dp_int a3]
        exact ⟨p, _, n, rfl, sm, hn, rfl⟩
      obtain ⟨t1, w1, ht1⟩ := hv5
      refine q_ifR (fun σ' H6 => ∃ (v : V) (ts : Poly), Same H5 H6 ∧ Wf p n 6 ts ∧ D K (dPoly ts) v H6 ∧ σ' = [some (.int p), some (.int (n : Int)), some (.int c), some vd, some vp, some vx, some (.ref a), some (.int (i : Int)), some v, none, none])
        (evt_test (K := K) (ev_eqI (ev_iiC (f := fun i j => i % j) (ev_intI (dig 10 (sD.trans s5) rfl ev_int rfl (by decide))) ev_int (by decide)) ev_int)) (fun _ H6 s6 N hN => ?_) (fun _ H6 s6 N hN => hN _ _ ⟨v5, t1, s6, w1, Mono.go (P := D K (dPoly t1)) s6 ht1, rfl⟩) ?_
      · have l1 := w1.len
        refine s_asg (P := D K (dPoly (t1.filter fun t => decide (t.1.sum < 2)))) (ev_tupL ?_) fun v7 H7 s7 hv7 => hN _ _ ⟨v7, _, s6.trans s7, ⟨Nat.le_trans (List.length_filter_le _ _) l1, fun t ht => w1.tm t (List.mem_filter.mp ht).1⟩, hv7, rfl⟩
        show EV _ _ _ (D K (.list (gath (fun t => decide (t.1.sum < 2)) dTerm t1)))
        refine ev_lcT (xs := t1) (enc := dTerm) (p := fun t => decide (t.1.sum < 2)) (e := dTerm) ?_ (by omega) (fun _ => nl_dTerm _) ?_
        · exact ev_var rfl (Mono.go (P := D K (dPoly t1)) s6 ht1)
        · intro t ht x' H8 s8 hx'
          obtain ⟨b, yb, rfl, hq, hyb⟩ := dp_term hx'
          exact item_two hq rfl (evt_test (ev_cmp (f := fun i j => decide (i < j)) (ev_sumT (ns := t.1) (ev_var rfl hyb)) ev_int)) fun _ => ev_tup (ds := [dI t.1, .int t.2]) (eva_cons (P := D K (dI t.1)) (ev_var rfl hyb) (eva_cons (P := D K (.int t.2)) (ev_vi rfl) eva_nil)) (by simp)
      rintro σ' H6 ⟨v6, t2, s6, w2, ht2, rfl⟩
      refine q_ifR (fun σ' H7 => ∃ (v : V) (ts : Poly), Same H6 H7 ∧ Wf p n 7 ts ∧ D K (dPoly ts) v H7 ∧ σ' = [some (.int p), some (.int (n : Int)), some (.int c), some vd, some vp, some vx, some (.ref a), some (.int (i : Int)), some v, none, none])
        (evt_test (K := K) (ev_cmp (f := fun i j => decide (j < i)) (ev_iiC (f := fun i j => i % j) (ev_intI (dig 11 ((sD.trans s5).trans s6) rfl ev_int rfl (by decide))) ev_int (by decide)) ev_int)) (fun _ H7 s7 N hN => ?_) (fun _ H7 s7 N hN => hN _ _ ⟨v6, t2, s7, w2.mono (by decide), Mono.go (P := D K (dPoly t2)) s7 ht2, rfl⟩) ?_
      · have hvx7 : D K (dI x) vx H7 := Mono.go (P := D K (dI x)) (((sB.trans s5).trans s6).trans s7) hvx
        refine s_asg (P := DS K (Wf p n 7) dPoly) (ev_call (eva_cons (P := D K (.int p)) (ev_vi rfl) (eva_cons (P := D K (dPoly t2)) (ev_var rfl (Mono.go (P := D K (dPoly t2)) s7 ht2)) (eva_cons (P := DS K (Wf p n 1) dPoly) (ev_call (eva_cons (P := D K (.int p)) (ev_vi rfl) (eva_cons (P := D K (.int (n : Int))) (ev_vi rfl) (eva_cons (P := D K (.int (val p t2 x))) (ev_call (eva_cons (P := D K (.int p)) (ev_vi rfl) (eva_cons (P := D K (dPoly t2)) (ev_var rfl (Mono.go (P := D K (dPoly t2)) s7 ht2)) (eva_cons (P := D K (dI x)) (ev_var rfl hvx7) eva_nil))) ?_) eva_nil))) ?_) eva_nil))) ?_) fun v8 H8 s8 hv8 => ?_
        · intro vs H9 s9 ps
          obtain ⟨u1, u2, u3, rfl, a1, a2, a3⟩ := allP3 ps
          rw [dp_int a1]
          exact ⟨p, n, 6, t2, x, u2, u3, rfl, sm, a2, a3, hxm.1, w2, by decide, rfl⟩
        · intro vs H9 s9 ps
          obtain ⟨u1, u2, u3, rfl, a1, a2, a3⟩ := allP3 ps
          rw [dp_int a1, dp_int a2, dp_int a3]
          exact ⟨p, _, n, rfl, sm, hn, rfl⟩
        · intro vs H9 s9 ps
          obtain ⟨u1, u2, u3, rfl, a1, a2, t3, w3, a3⟩ := allP3 ps
          rw [dp_int a1]
          exact ⟨p, n, 6, 1, t2, t3, u2, u3, rfl, sm, hn, a2, a3, w2, w3, by decide, rfl⟩
        · obtain ⟨t3, w3, ht3⟩ := hv8
          exact hN _ _ ⟨v8, t3, s7.trans s8, w3, ht3, rfl⟩
      rintro σ' H7 ⟨v7, t3, s7, w3, ht3, rfl⟩
      refine s_appM (md.up ((s5.trans s6).trans s7)) rfl (nl_dEqs _) (nl_dPoly t3) (by rw [List.length_map]; omega) (ev_var rfl ht3) fun H8 m8 sO8 => ?_
      refine ⟨_, _, fs ++ [t3], ?_, by rw [List.length_append, hfl]; rfl, fun f hf => ?_, rfl⟩
      · rw [List.map_append]; exact m8
      · rcases List.mem_append.mp hf with hf | hf
        · exact hfs f hf
        · rw [List.mem_singleton.mp hf]; exact w3
    · rintro σ' H' ⟨y, z, fs, md, hfl, hfs, rfl⟩
      rw [Int.toNat_natCast] at hfl
      refine s_ret (P := D K (dEqs fs)) (ev_var rfl md.seq) fun v H5 s5 hv5 => q v H5 ((((s1.trans s2).trans s3).trans md.2.1).trans s5) ⟨fs, ⟨by omega, hfs⟩, hv5⟩
end
end SPw
namespace SPw
open PySem PySem.Spec PyProof.Rows L2
section
variable {P : Program} {w : World} {K : PySem.W.Frag} {mg : Str → Option Value} {base : Heap} {CS : Addr}
def LB (i : Nat) : Nat := 7 * 6 ^ i
theorem LB1 (i : Nat) : LB (i + 1) = LB i * 6 := by unfold LB; rw [Nat.pow_succ, ← Nat.mul_assoc]
theorem wf_nil (p : Int) (n L : Nat) : Wf p n L [] := ⟨Nat.zero_le _, fun t h => by cases h⟩
theorem cl_more (T : Txt mg) (d : DefAt K mg "_law_more_equations" (top 53)) (c__law_equations : Cl P w K mg base 4 "_law_equations" (Prom (preEqs K))) (c__law_digits : Cl P w K mg base 1 "_law_digits" (Prom (preDig K))) (c__law_times : Cl P w K mg base 2 "_law_times" (Prom (preTimes K)))
    (c__law_drawn : Cl P w K mg base 2 "_law_drawn" (Prom (preDrawn K))) (c__law_plus : Cl P w K mg base 2 "_law_plus" (Prom (prePlus K))) : Cl P w K mg base 5 "_law_more_equations" (Prom (preMore K)) := by
  refine mkCl d (ps := ["_law_prime", "_law_count", "_law_cell_here", "_law_more"]) (fun _ _ _ _ _ _ us hl => match us, hl with | [_, _, _, _], _ => rfl) sc__law_more_equations ?_ fun f cdv A outer s H vs S Q E hr h q => ?_
  · rintro vs H S ⟨_, _, _, _, rfl, _⟩; rfl
  · obtain ⟨p, c, c2, n, rfl, sm, hn, rfl⟩ := h
    refine ⟨_, pss_cons (ps_set (i := 4) sc__law_more_equations.nd rfl (.inl rfl) (pe_k c__law_equations hr (by decide) rfl (pa_cons (pv 0) (pa_cons (pv 1) (pa_cons (pv 2) pa_nil)))))
      (pss_cons (ps_set (i := 5) sc__law_more_equations.nd rfl (.inl rfl) (pe_k c__law_digits hr (by decide) rfl (pa_cons (pv 3) (pa_cons pe_int (pa_cons pe_int pa_nil)))))
      (pss_cons (ps_for PassesOwn.never rfl (pi_range1 rfl T.range (pa_cons (pe_op op_mul (pe_op op_mod (pe_callTy cr_int rfl T.int rfl (pa_cons (pe_ix (ix_listK K) (pv 5) pe_int (fun _ _ => rfl)) pa_nil)) pe_int) (pe_callTy cr_int rfl T.int rfl (pa_cons (pe_cmpR op_gt (pe_callB (cr_lenK K) rfl T.len rfl (pa_cons (pv 4) pa_nil)) pe_int rfl) pa_nil))) pa_nil)) (pg_name (i := 6) sc__law_more_equations.nd rfl (.inl rfl))
        (pss_cons (ps_set (i := 7) sc__law_more_equations.nd rfl (.inl rfl) (pe_ix (ix_listK K) (pv 4) (pe_op op_mod (pe_callTy cr_int rfl T.int rfl (pa_cons (pe_ix (ix_listK K) (pv 5) (pe_op op_add pe_int (pv 6)) (fun _ _ => rfl)) pa_nil)) (pe_callB (cr_lenK K) rfl T.len rfl (pa_cons (pv 4) pa_nil))) (fun _ _ => rfl)))
        (pss_cons (ps_set (i := 8) sc__law_more_equations.nd rfl (.inl rfl) (pe_op op_mod (pe_callTy cr_int rfl T.int rfl (pa_cons (pe_ix (ix_listK K) (pv 5) (pe_op op_add pe_int (pv 6)) (fun _ _ => rfl)) pa_nil)) pe_int))
        (pss_cons (ps_if (pt_cmpR op_eq (pv 8) pe_int rfl)
          (pss_one (ps_set (i := 7) sc__law_more_equations.nd rfl (.inl rfl) (pe_k c__law_times hr (by decide) rfl (pa_cons (pv 0) (pa_cons (pv 7) (pa_cons (pe_k c__law_drawn hr (by decide) rfl (pa_cons (pv 0) (pa_cons (pv 1) (pa_cons (pe_ix (ix_listK K) (pv 5) (pe_op op_add pe_int (pv 6)) (fun _ _ => rfl)) pa_nil)))) pa_nil))))))
          (pss_one (ps_if (pt_cmpR op_eq (pv 8) pe_int rfl)
            (pss_one (ps_set (i := 7) sc__law_more_equations.nd rfl (.inl rfl) (pe_k c__law_plus hr (by decide) rfl (pa_cons (pv 0) (pa_cons (pv 7) (pa_cons (pe_ix (ix_listK K) (pv 4) (pe_op op_mod (pe_callTy cr_int rfl T.int rfl (pa_cons (pe_ix (ix_listK K) (pv 5) (pe_op op_add pe_int (pv 6)) (fun _ _ => rfl)) pa_nil)) (pe_callB (cr_lenK K) rfl T.len rfl (pa_cons (pv 4) pa_nil))) (fun _ _ => rfl)) pa_nil))))))
            (pss_one (ps_if (pt_cmpR op_eq (pv 8) pe_int rfl)
              (pss_one (ps_set (i := 7) sc__law_more_equations.nd rfl (.inl rfl) (pe_tup pa_nil)))
              pss_nil)))))
        (pss_cons (ps_set (i := 9) sc__law_more_equations.nd rfl (.inl rfl) (pe_op op_mod (pe_callTy cr_int rfl T.int rfl (pa_cons (pe_ix (ix_listK K) (pv 5) (pe_op op_add pe_int (pv 6)) (fun _ _ => rfl)) pa_nil)) (pe_op op_add (pe_callB (cr_lenK K) rfl T.len rfl (pa_cons (pv 4) pa_nil)) pe_int)))
        (pss_one (ps_set (i := 4) sc__law_more_equations.nd rfl (.inl rfl) (pe_op op_cat (pe_op op_cat (pe_slice (sl_listK K) (pv 4) po_none (po_some (pv 9))) (pe_lst (pa_cons (pv 7) pa_nil))) (pe_slice (sl_listK K) (pv 4) (po_some (pv 9)) po_none)))))))))
      (pss_one (ps_ret (pv 4))))), ?_⟩
    refine q_asg (P := DS K (EqsOk p n 4 7) dEqs) (ev_call (eva_cons (P := D K (.int p)) (ev_vi rfl) (eva_cons (P := D K (.int (n : Int))) (ev_vi rfl) (eva_cons (P := D K (.int c)) (ev_vi rfl) eva_nil))) ?_) fun v1 H1 s1 hv => ?_
    · intro vs H2 s2 ps
      obtain ⟨u1, u2, u3, rfl, a1, a2, a3⟩ := allP3 ps
      rw [dp_int a1, dp_int a2, dp_int a3]
      exact ⟨p, c, n, rfl, sm, hn, rfl⟩
    obtain ⟨fs0, ok0, hfs0⟩ := hv
    refine q_asg (P := DS K (Dig 5040 12) dL) (ev_call (eva_cons (P := D K (.int c2)) (ev_vi rfl) (eva_cons (P := D K (.int 5040)) ev_int (eva_cons (P := D K (.int 12)) ev_int eva_nil))) ?_) fun vd H2 s2 hv => ?_
    · intro vs H2 s2 ps
      obtain ⟨u1, u2, u3, rfl, a1, a2, a3⟩ := allP3 ps
      rw [dp_int a1, dp_int a2, dp_int a3]
      exact ⟨c2, 5040, 12, rfl, by decide, by decide, by decide, rfl⟩
    obtain ⟨ds, dg, hds⟩ := hv
    have hds : D K (dL ds) vd H2 := hds
    have dig : ∀ {σ : Slots} {H3 : Hp} {te : TE} {i : Int} (k : Nat), Same H2 H3 → σ[5]? = some (some vd) → EV te σ H3 (D K (.int i)) → i = (k : Int) → k < 12 → EV (tOp (rIxL K) (tVar 5) te) σ H3 (D K (.int (ds.getD k 0))) := fun k s hσ hi hik hk =>
      ev_ixL (ds := ds.map .int) (k := k) (ev_var hσ (Mono.go s hds)) hi hik (by rw [List.getElem?_map, (dig_at dg k hk).1]; rfl)
    have hm3 : 0 ≤ ds.getD 0 0 % 3 ∧ ds.getD 0 0 % 3 < 3 := ⟨Int.emod_nonneg _ (by decide), Int.emod_lt_of_pos _ (by decide)⟩
    have hnum : 0 ≤ ds.getD 0 0 % 3 * (if decide ((0 : Int) < (fs0.length : Int)) = true then 1 else 0) ∧ ds.getD 0 0 % 3 * (if decide ((0 : Int) < (fs0.length : Int)) = true then 1 else 0) < 3 ∧ (0 < ds.getD 0 0 % 3 * (if decide ((0 : Int) < (fs0.length : Int)) = true then 1 else 0) → 0 < fs0.length) := by
      by_cases h : decide ((0 : Int) < (fs0.length : Int)) = true
      · rw [if_pos h]
        have := of_decide_eq_true h
        omega
      · rw [if_neg h]; omega
    refine q_forR (K := K) (n := ds.getD 0 0 % 3 * (if decide ((0 : Int) < (fs0.length : Int)) = true then 1 else 0)) (eva_cons (ev_iiC (f := fun i j => i * j) (ev_iiC (f := fun i j => i % j) (ev_intI (dig 0 (Same.refl _) rfl ev_int rfl (by decide))) ev_int (by decide)) (ev_intB (ev_cmp (f := fun i j => decide (j < i)) ((ev_lenL (ds := fs0.map dPoly) (ev_var rfl (Mono.go (P := D K (dEqs fs0)) s2 hfs0))).eqD (by rw [List.length_map])) ev_int)) (.inl (by omega))) eva_nil) (by omega) (by omega)
      (fun i σ' H' => ∃ (y z u t : Option V) (vf : V) (fs : List Poly), Same H2 H' ∧ D K (dEqs fs) vf H' ∧ fs.length = fs0.length + i ∧ (∀ f ∈ fs, Wf p n (LB i) f) ∧ σ' = [some (.int p), some (.int (n : Int)), some (.int c), some (.int c2), some vf, some vd, y, z, u, t]) (fun H5 s5 => ⟨_, _, _, _, _, fs0, s5, Mono.go (P := D K (dEqs fs0)) (s2.trans s5) hfs0, rfl, ok0.2, rfl⟩) ?_ ?_
    · generalize ds.getD 0 0 % 3 * (if decide ((0 : Int) < (fs0.length : Int)) = true then 1 else 0) = num at hnum
      rintro i σ' H' hi ⟨y, z, u, t, vf, fs, sm2, hf, hfl, hfs, rfl⟩
      have hi2 : i < 2 := by omega
      have hpos : 0 < fs.length := by omega
      have h04 := ok0.1
      have hLB : LB i ≤ 42 ∧ LB (i + 1) = LB i * 6 := ⟨by
        rcases i with _ | _ | i
        · decide
        · decide
        · omega, LB1 i⟩
      have ix : ∀ (σ : Slots) {H3 : Hp} {te : TE} (k : Nat), Same H' H3 → σ[4]? = some (some vf) → σ[5]? = some (some vd) → k < 12 → EV te σ H3 (D K (.int (ds.getD k 0))) → ∃ g : Poly, Wf p n (LB i) g ∧ EV (tOp (rIxL K) (tVar 4) (tOp (rI (fun _ j => 0 < j) fun i j => .int (i % j)) (tCB rInt1 (tCons te tNil)) (tCB (rLen K) (tCons (tVar 4) tNil)))) σ H3 (D K (dPoly g)) := fun σ {H3 te} k s h4 h5 hk he => by
        obtain ⟨j, hj, hje⟩ : ∃ j : Nat, j < fs.length ∧ ds.getD k 0 % (fs.length : Int) = (j : Int) := by
          have q1 := Int.emod_nonneg (ds.getD k 0) (show (fs.length : Int) ≠ 0 by omega)
          have q2 := Int.emod_lt_of_pos (ds.getD k 0) (show 0 < (fs.length : Int) by omega)
          exact ⟨(ds.getD k 0 % (fs.length : Int)).toNat, by omega, by omega⟩
        refine ⟨fs[j], hfs _ (List.getElem_mem hj), ev_ixL (ds := fs.map dPoly) (i := ds.getD k 0 % (fs.length : Int)) (k := j) (ev_var h4 (Mono.go (P := D K (dEqs fs)) s hf)) (ev_iiC (f := fun i j => i % j) (ev_intI he) ((ev_lenL (ds := fs.map dPoly) (ev_var h4 (Mono.go (P := D K (dEqs fs)) s hf))).eqD (by rw [List.length_map])) (by omega)) hje (by rw [List.getElem?_map, List.getElem?_eq_getElem hj]; rfl)⟩
      obtain ⟨g, wg, hg⟩ := ix [some (.int p), some (.int (n : Int)), some (.int c), some (.int c2), some vf, some vd, some (.int (i : Int)), z, u, t] (1 + i) (Same.refl H') rfl rfl (by omega) (dig (te := tOp (rI0 fun i j => .int (i + j)) (tC (.int 1)) (tVar 6)) (1 + i) sm2 rfl (ev_ii (f := fun i j => i + j) ev_int (ev_vi rfl)) (by simp) (by omega))
      refine q_asg (P := D K (dPoly g)) hg fun v3 H3 s3 hv3 => ?_
      refine q_asg (P := D K (.int (ds.getD (3 + i) 0 % 4))) (ev_iiC (f := fun i j => i % j) (ev_intI (dig (3 + i) (sm2.trans s3) rfl (ev_ii (f := fun i j => i + j) ev_int (ev_vi rfl)) (by simp) (by omega))) ev_int (by decide)) fun v4 H4 s4 hv4 => ?_
      obtain rfl := dp_int hv4
      generalize ds.getD (3 + i) 0 % 4 = ch
      refine q_ifR (fun σ' H5 => ∃ (v : V) (ts : Poly), Same H4 H5 ∧ Wf p n (LB (i + 1)) ts ∧ D K (dPoly ts) v H5 ∧ σ' = [some (.int p), some (.int (n : Int)), some (.int c), some (.int c2), some vf, some vd, some (.int (i : Int)), some v, some (.int ch), t])
        (evt_test (K := K) (ev_eqI (ev_vi rfl) ev_int)) (fun _ H5 s5 N hN => ?_) (fun _ H5 s5 N hN => ?_) ?_
      · refine s_asg (P := DS K (Wf p n (LB i * 6)) dPoly) (ev_call (eva_cons (P := D K (.int p)) (ev_vi rfl) (eva_cons (P := D K (dPoly g)) (ev_var rfl (Mono.go (P := D K (dPoly g)) (s4.trans s5) hv3)) (eva_cons (P := DS K (Wf p n 6) dPoly) (ev_call (eva_cons (P := D K (.int p)) (ev_vi rfl) (eva_cons (P := D K (.int (n : Int))) (ev_vi rfl) (eva_cons (P := D K (.int (ds.getD (5 + i) 0))) (dig (5 + i) (((sm2.trans s3).trans s4).trans s5) rfl (ev_ii (f := fun i j => i + j) ev_int (ev_vi rfl)) (by simp) (by omega)) eva_nil))) ?_) eva_nil))) ?_) fun v6 H6 s6 hv6 => ?_
        · intro vs H9 s9 ps
          obtain ⟨u1, u2, u3, rfl, a1, a2, a3⟩ := allP3 ps
          rw [dp_int a1, dp_int a2, dp_int a3]
          exact ⟨p, _, n, rfl, sm, hn, rfl⟩
        · intro vs H9 s9 ps
          obtain ⟨u1, u2, u3, rfl, a1, a2, t3, w3, a3⟩ := allP3 ps
          rw [dp_int a1]
          exact ⟨p, n, LB i, 6, g, t3, u2, u3, rfl, sm, hn, a2, a3, wg, w3, by omega, rfl⟩
        · obtain ⟨t3, w3, ht3⟩ := hv6
          exact hN _ _ ⟨v6, t3, s5.trans s6, by rw [hLB.2]; exact w3, ht3, rfl⟩
      · refine s_if (evt_test (K := K) (ev_eqI (ev_vi rfl) ev_int)) (fun _ H6 s6 => ?_) (fun _ H6 s6 => ?_)
        · have sE : Same H' H6 := ((s3.trans s4).trans s5).trans s6
          obtain ⟨g2, wg2, hg2⟩ := ix [some (.int p), some (.int (n : Int)), some (.int c), some (.int c2), some vf, some vd, some (.int (i : Int)), some v3, some (.int ch), t] (7 + i) sE rfl rfl (by omega) (dig (te := tOp (rI0 fun i j => .int (i + j)) (tC (.int 7)) (tVar 6)) (7 + i) (sm2.trans sE) rfl (ev_ii (f := fun i j => i + j) ev_int (ev_vi rfl)) (by simp) (by omega))
          refine s_asg (P := DS K (Wf p n (LB i + LB i)) dPoly) (ev_call (eva_cons (P := D K (.int p)) (ev_vi rfl) (eva_cons (P := D K (dPoly g)) (ev_var rfl (Mono.go (P := D K (dPoly g)) ((s4.trans s5).trans s6) hv3)) (eva_cons (P := D K (dPoly g2)) hg2 eva_nil))) ?_) fun v7 H7 s7 hv7 => ?_
          · intro vs H9 s9 ps
            obtain ⟨u1, u2, u3, rfl, a1, a2, a3⟩ := allP3 ps
            rw [dp_int a1]
            exact ⟨p, n, LB i, LB i, g, g2, u2, u3, rfl, sm, hn, a2, a3, wg, wg2, by omega, rfl⟩
          · obtain ⟨t3, w3, ht3⟩ := hv7
            exact hN _ _ ⟨v7, t3, (s5.trans s6).trans s7, w3.mono (by omega), ht3, rfl⟩
        · refine s_if (evt_test (K := K) (ev_eqI (ev_vi rfl) ev_int)) (fun _ H7 s7 => ?_) (fun _ H7 s7 => ?_)
          · refine s_asg (P := D K (dPoly [])) (ev_tup (ds := []) eva_nil (by decide)) fun v8 H8 s8 hv8 => ?_
            exact hN _ _ ⟨v8, [], ((s5.trans s6).trans s7).trans s8, wf_nil _ _ _, hv8, rfl⟩
          · exact hN _ _ ⟨v3, g, (s5.trans s6).trans s7, wg.mono (by omega), Mono.go (P := D K (dPoly g)) (((s4.trans s5).trans s6).trans s7) hv3, rfl⟩
      rintro σ' H5 ⟨v5, ts, s5, wts, hts, rfl⟩
      have sE : Same H' H5 := (s3.trans s4).trans s5
      obtain ⟨j, hj, hje⟩ : ∃ j : Nat, j ≤ fs.length ∧ ds.getD (9 + i) 0 % ((fs.length : Int) + 1) = (j : Int) := by
        have q1 := Int.emod_nonneg (ds.getD (9 + i) 0) (show (fs.length : Int) + 1 ≠ 0 by omega)
        have q2 := Int.emod_lt_of_pos (ds.getD (9 + i) 0) (show 0 < (fs.length : Int) + 1 by omega)
        exact ⟨(ds.getD (9 + i) 0 % ((fs.length : Int) + 1)).toNat, by omega, by omega⟩
      refine q_asg (P := D K (.int (j : Int))) ((ev_iiC (f := fun i j => i % j) (ev_intI (dig (9 + i) (sm2.trans sE) rfl (ev_ii (f := fun i j => i + j) ev_int (ev_vi rfl)) (by simp) (by omega))) (ev_ii (f := fun i j => i + j) ((ev_lenL (ds := fs.map dPoly) (ev_var rfl (Mono.go (P := D K (dEqs fs)) sE hf))).eqD (by rw [List.length_map])) ev_int) (by omega)).eqD (by rw [hje])) fun v6 H6 s6 hv6 => ?_
      obtain rfl := dp_int hv6
      refine s_asg (P := D K (dEqs (fs.take j ++ [ts] ++ fs.drop j))) ((ev_catL (ds := cutD (fs.map dPoly) none (some (j : Int)) ++ [dPoly ts]) (es := cutD (fs.map dPoly) (some (j : Int)) none) (ev_catL (es := [dPoly ts]) (ev_slL (ev_var rfl (Mono.go (P := D K (dEqs fs)) (sE.trans s6) hf)) evo_none (evo_some (K := K) (ev_vi rfl))) (ev_lstN (ds := [dPoly ts]) (eva_cons (P := D K (dPoly ts)) (ev_var rfl (Mono.go (P := D K (dPoly ts)) s6 hts)) eva_nil) (by simp)) ?_) (ev_slL (ev_var rfl (Mono.go (P := D K (dEqs fs)) (sE.trans s6) hf)) (evo_some (K := K) (ev_vi rfl)) evo_none) ?_).ld.eqD ?_) fun v7 H7 s7 hv7 => ?_
      · rw [cutD_hi, List.length_take, List.length_map]; simp; omega
      · rw [cutD_hi, cutD_lo, List.length_append, List.length_take, List.length_drop, List.length_map]; simp; omega
      · rw [cutD_hi, cutD_lo]
        unfold dEqs
        rw [List.map_append, List.map_append, List.map_take, List.map_drop]; rfl
      · refine ⟨_, _, _, _, v7, _, ((sm2.trans sE).trans s6).trans s7, hv7, by rw [List.length_append, List.length_append, List.length_take, List.length_drop]; simp; omega, fun f hf' => ?_, rfl⟩
        have hmono : LB i ≤ LB (i + 1) := by omega
        rcases List.mem_append.mp hf' with hf' | hf'
        · rcases List.mem_append.mp hf' with hf' | hf'
          · exact (hfs f (List.mem_of_mem_take hf')).mono hmono
          · rw [List.mem_singleton.mp hf']; exact wts
        · exact (hfs f (List.mem_of_mem_drop hf')).mono hmono
    · generalize ds.getD 0 0 % 3 * (if decide ((0 : Int) < (fs0.length : Int)) = true then 1 else 0) = num at hnum
      rintro σ' H' ⟨y, z, u, t, vf, fs, sm2, hf, hfl, hfs, rfl⟩
      have h04 := ok0.1
      have hLB : LB num.toNat ≤ 252 := by
        have : num.toNat < 3 := by omega
        generalize num.toNat = k at this
        rcases k with _ | _ | _ | k
        · decide
        · decide
        · decide
        · omega
      refine s_ret (P := D K (dEqs fs)) (ev_var rfl hf) fun v H5 s5 hv5 => q v H5 (((s1.trans s2).trans sm2).trans s5) ⟨fs, ⟨by omega, fun f hf' => (hfs f hf').mono hLB⟩, hv5⟩
end
end SPw
namespace SPw
open PySem PySem.Spec PyProof.Rows L2
def AnyV : VP := fun _ _ => True
instance : Mono AnyV := ⟨fun _ _ => True.intro⟩
section
variable {K : PySem.W.Frag} {σ : Slots} {H H' H0 : Hp} {ta tb tc te tl td ty tx tv : TE} {P R S : VP} {Ps : List VP} {L : Addr} {ds es : List PyData} {d : PyData} {i : Nat} {ts : Poly} {e : List Int}
variable {E : Ends} {tu tz : TS} {g : TG}
theorem ev_lstM {ta : TA} {ds : List PyData} (h : EVA ta σ H (ds.map (D K))) (hl : ds.length ≤ 1000000) : EV (tLst ta) σ H (MadeV K H ds) := fun H1 e _ q =>
  h H1 e _ fun vs H2 e2 ps => by
    have A := allP_dp ps
    refine ⟨Nat.le_trans (by rw [A.len]; exact hl) sizeL, fun p np => q _ _ (e2.trans (same_new np)) ⟨p, rfl, Made.down (H0 := H2) ⟨np, same_new np, _, upd_same, A.same (same_new np)⟩ (e.trans e2)⟩⟩
theorem s_augI {a b : Int} (hv : σ[i]? = some (some (.int a))) (h : EV te σ H (D K (.int b))) (k : ∀ H1, Same H H1 → E.nx (σ.set i (some (.int (a + b)))) H1) : tAug i te (ipI fun i j => i + j) E σ H :=
  ⟨_, hv, h.go fun v H1 e p => ⟨a, b, rfl, dp_int p, k H1 e⟩⟩
theorem s_forR2 {ta : TA} {lo hi : Int} (h : EVA ta σ H [D K (.int lo), D K (.int hi)]) (hz : -1000000 < lo ∧ lo < 1000000 ∧ -1000000 < hi ∧ hi < 1000000) (Pv : Nat → Slots → Hp → Prop) (h0 : ∀ H1, Same H H1 → Pv 0 σ H1)
    (hs : ∀ (i : Nat) σ' H', lo + (i : Int) < hi → Pv i σ' H' → g (.int (lo + (i : Int))) σ' H' fun σ2 H2 => tu { E with nx := Pv (i + 1), ct := Pv (i + 1), bk := E.nx } σ2 H2) (hd : ∀ σ' H', Pv (hi - lo).toNat σ' H' → E.nx σ' H') : tFor (iRng2 ta) g tu E σ H :=
  h.go fun vs H1 e ps => by
    obtain ⟨v, w, rfl, hv, hw⟩ := allP2 ps
    exact ⟨lo, hi, by rw [dp_int hv, dp_int hw], by omega, for_range (lo := lo) (n := (hi - lo).toNat) Pv (h0 H1 e) (fun i σ' H' hi p => hs i σ' H' (by omega) p) hd⟩
theorem q_forR2 {ta : TA} {lo hi : Int} (h : EVA ta σ H [D K (.int lo), D K (.int hi)]) (hz : -1000000 < lo ∧ lo < 1000000 ∧ -1000000 < hi ∧ hi < 1000000) (Pv : Nat → Slots → Hp → Prop) (h0 : ∀ H1, Same H H1 → Pv 0 σ H1)
    (hs : ∀ (i : Nat) σ' H', lo + (i : Int) < hi → Pv i σ' H' → g (.int (lo + (i : Int))) σ' H' fun σ2 H2 => tu { E with nx := Pv (i + 1), ct := Pv (i + 1), bk := tz E } σ2 H2) (hd : ∀ σ' H', Pv (hi - lo).toNat σ' H' → tz E σ' H') : tSeq (tFor (iRng2 ta) g tu) tz E σ H :=
  s_forR2 (E := { E with nx := tz E }) h hz Pv h0 hs hd
/-- a loop over a list of data while a dict L changes -/
theorem s_forLd {kvs0 : List (List Key × V)} (h : EV te σ H (D K (.list ds))) (hn : nlAll ds = true) (hL : H L = some (.dT kvs0)) (Pv : Nat → Slots → Hp → Prop)
    (hs : ∀ H0, Same H H0 → ∀ (i : Nat) d x σ' H', ds[i]? = some d → SameO L H0 H' → Pv i σ' H' → Tp K H' x d → g x σ' H' fun σ2 H2 => tu { E with nx := fun a b => SameO L H0 b ∧ Pv (i + 1) a b, ct := fun a b => SameO L H0 b ∧ Pv (i + 1) a b, bk := E.nx } σ2 H2)
    (h0 : ∀ H1, Same H H1 → Pv 0 σ H1) (hd : ∀ σ' H', SameO L H H' → Pv ds.length σ' H' → E.nx σ' H') : tFor (iList K te) g tu E σ H :=
  h.go fun v H1 e p => by
    obtain ⟨a, xs, rfl, hq, hA⟩ := dp_listT p
    have hl := hA.len
    have hL1 := e _ _ hL
    have ne : a ≠ L := fun z => by subst z; rw [hL1] at hq; cases hq
    refine ⟨a, rfl, ⟨xs, SqL.of hq⟩, for_list (xs := xs) (fun i a b => SameO L H1 b ∧ Pv i a b) ⟨SameO.refl _ _, h0 H1 e⟩ (fun i σ' H' hi pv => SqL.of (pv.1 _ _ ne hq)) (fun i x σ' H' hx pv => ?_) (fun σ' H' pv => hd σ' H' ((same_O e).trans pv.1) (by rw [← hl]; exact pv.2))⟩
    obtain ⟨d, hd', dx⟩ := (dpAll_O (notup_dT hL1) pv.1 _ _ hn hA).at hx
    exact hs H1 e i d x σ' H' hd' pv.1 pv.2 dx
theorem q_forLd {kvs0 : List (List Key × V)} (h : EV te σ H (D K (.list ds))) (hn : nlAll ds = true) (hL : H L = some (.dT kvs0)) (Pv : Nat → Slots → Hp → Prop)
    (hs : ∀ H0, Same H H0 → ∀ (i : Nat) d x σ' H', ds[i]? = some d → SameO L H0 H' → Pv i σ' H' → Tp K H' x d → g x σ' H' fun σ2 H2 => tu { E with nx := fun a b => SameO L H0 b ∧ Pv (i + 1) a b, ct := fun a b => SameO L H0 b ∧ Pv (i + 1) a b, bk := tz E } σ2 H2)
    (h0 : ∀ H1, Same H H1 → Pv 0 σ H1) (hd : ∀ σ' H', SameO L H H' → Pv ds.length σ' H' → tz E σ' H') : tSeq (tFor (iList K te) g tu) tz E σ H :=
  s_forLd (E := { E with nx := tz E }) h hn hL Pv hs h0 hd
/-- zip of two lists of data of one length while a dict L changes -/
theorem s_forZLd {C : List Int → Prop} {kvs0 : List (List Key × V)} {ti : TA} (h : EVA ti σ H [D K (.list ds), DS K C dL]) (hC : ∀ ns, C ns → ns.length = ds.length) (hn : nlAll ds = true) (hL : H L = some (.dT kvs0)) (Pv : Nat → Slots → Hp → Prop)
    (hup : ∀ i σ' H1 H2, Pv i σ' H1 → Same H1 H2 → Pv i σ' H2)
    (hs : ∀ H0, Same H H0 → ∀ (i : Nat) d (c : Int) x T σ' H', ds[i]? = some d → SameO L H0 H' → Tp K H' x d → SqT K H' T [x, .int c] → Pv i σ' H' →
      g (.ref T) σ' H' fun σ2 H2 => tu { E with nx := fun a b => SameO L H0 b ∧ Pv (i + 1) a b, ct := fun a b => SameO L H0 b ∧ Pv (i + 1) a b, bk := E.nx } σ2 H2)
    (h0 : ∀ H1, Same H H1 → Pv 0 σ H1) (hd : ∀ σ' H', SameO L H H' → Pv ds.length σ' H' → E.nx σ' H') : tFor (RZ.iZipA K ti) g tu E σ H :=
  h.go fun vs H1 e0 ps => by
    obtain ⟨v1, v2, rfl, p1, p2⟩ := allP2 ps
    obtain ⟨a, xs, rfl, hq, hA⟩ := dp_listT p1
    obtain ⟨ns, hns, p2⟩ := p2
    have hns := hC ns hns
    obtain ⟨b, ys, rfl, hr, hB⟩ := dp_listT p2
    have l1 := hA.len
    have l2 := hB.len
    rw [List.length_map] at l2
    have hL1 := e0 _ _ hL
    have na : a ≠ L := fun z => by subst z; rw [hL1] at hq; cases hq
    have nb : b ≠ L := fun z => by subst z; rw [hL1] at hr; cases hr
    refine ⟨a, b, xs, ys, rfl, .inl ⟨SqL.of hq, SqL.of hr, RZ.for_zipL (xs := xs) (ys := ys) (by omega) (fun i a b => SameO L H1 b ∧ Pv i a b) ⟨SameO.refl _ _, h0 H1 e0⟩ (fun i σ' H' pv => ⟨SqL.of (pv.1 _ _ na hq), SqL.of (pv.1 _ _ nb hr)⟩) (fun i x y T σ' H' hx hy pv nT => ?_) (fun σ' H' pv => hd σ' H' ((same_O e0).trans pv.1) (by rw [← l1]; exact pv.2))⟩⟩
    obtain ⟨d, hd', dx⟩ := (dpAll_O (notup_dT hL1) pv.1 _ _ hn hA).at hx
    obtain ⟨e, he', dy⟩ := (dpAll_O (notup_dT hL1) pv.1 _ _ (nl_ints ns) hB).at hy
    rw [List.getElem?_map] at he'
    obtain ⟨c, _, rfl⟩ := Option.map_eq_some_iff.mp he'
    obtain rfl := dp_int dy
    exact hs H1 e0 i d c x T σ' _ hd' (pv.1.trans (same_O (same_new nT))) (Tp.same (same_new nT) _ _ dx) (SqT.of upd_same) (hup _ _ _ _ pv.2 (same_new nT))
/-- {k: v for k, v in d.items()}, the keys powers -/
theorem ev_dcItems {n : Nat} {p : Int} {a : Addr} {i j k : Nat} {vs : List Nat} {f : Int → Int} (h1 : σ[i]? = some (some (.ref a))) (ha : H a = some (.dT (dKV ts))) (hk : KOK n p ts) (hl : ts.length < 1000000) (hj : ∀ x y, (((wipe σ vs).set j (some x)).set k (some y))[j]? = some (some x))
    (hw : ∀ x y, wipe (((wipe σ vs).set j (some x)).set k (some y)) vs = wipe σ vs)
    (hv : ∀ (x : V) (c : Int) H', SameO a H H' → EV tv (((wipe σ vs).set j (some x)).set k (some (.int c))) H' (D K (.int (f c)))) :
    EV (tLockE (tDcT (iItT (tVar i)) (gTup K 2 (gCons (gName j) (gCons (gName k) gNil))) (tVar j) tv vs)) σ H (fun v H' => ∃ L rs, v = .ref L ∧ H' L = some (.dT (dKV rs)) ∧ KOK n p rs ∧ rs.length ≤ ts.length) := fun H1 e1 Q q => by
  have ha1 := e1 _ _ ha
  have hlen : (dKV ts).length = ts.length := by unfold dKV; rw [List.length_map]
  refine ⟨a, .dT (dKV ts), ha1, True.intro, fun od => ⟨_, h1, a, od, dKV ts, rfl, upd_same, fun L nL => ?_⟩⟩
  have hLa : L ≠ a := fun z => by subst z; rw [upd_same] at nL; cases nL
  refine ⟨fun m t H' => t = ts.length - m ∧ m ≤ ts.length ∧ SameO a H1 H' ∧ H' a = some (.frz od (.dT (dKV ts))) ∧ H1 L = none ∧ ∃ rs, H' L = some (.dT (dKV rs)) ∧ KOK n p rs ∧ rs.length ≤ m, ⟨ts.length, rfl, Nat.zero_le _, fun b u nb hb => ?_, ?_, ?_, [], upd_same, (fun t h => by cases h), Nat.le_refl _⟩, ?_⟩
  · have nbL : b ≠ L := fun z => by
      subst z
      rw [upd_ne nb] at nL
      rw [nL] at hb; cases hb
    rw [upd_ne nbL, upd_ne nb]; exact hb
  · rw [upd_ne (Ne.symm hLa)]; exact upd_same
  · rw [upd_ne hLa] at nL; exact nL
  rintro m t H2 ⟨rfl, hm, sO, hfz, nL1, rs, hrs, hkr, hrl⟩
  by_cases hlt : m < ts.length
  · have hb : (dKV ts)[m]? = some (kI ts[m].1, .int ts[m].2) := by unfold dKV; rw [List.getElem?_map, List.getElem?_eq_getElem hlt]; rfl
    refine .inr ⟨⟨hfz, by omega⟩, fun H3 => m + 1 ≤ ts.length ∧ SameO a H1 H3 ∧ H3 a = some (.frz od (.dT (dKV ts))) ∧ H1 L = none ∧ ∃ rs, H3 L = some (.dT (dKV rs)) ∧ KOK n p rs ∧ rs.length ≤ m + 1, fun H3 hh => ⟨ts.length - (m + 1), by omega, rfl, hh⟩, fun x H3 yl => ?_⟩
    obtain ⟨T, b, kk, vv, hkv, rfl, nT, hbb, rfl⟩ := yl
    rw [hb] at hkv
    cases hkv
    have s3 : Same H2 (upd H2 T (.tup [.ref b, .int ts[m].2])) := same_new nT
    refine ⟨T, _, rfl, SqT.of upd_same, rfl, _, _, rfl, _, _, rfl, rfl, hw _ _, _, hj _ _, ?_⟩
    refine (hv (.ref b) ts[m].2 _ ((same_O e1).trans (sO.trans (same_O s3)))).go fun z H5 s5 pz => ?_
    obtain rfl := dp_int pz
    have h5L : H5 L = some (.dT (dKV rs)) := s5 _ _ (s3 _ _ hrs)
    have h5b : H5 b = some (.tup ((kI ts[m].1).map kV)) := s5 _ _ (s3 _ _ hbb)
    refine ⟨dKV rs, kI ts[m].1, b, rfl, h5b, h5L, Nat.lt_of_lt_of_le (by unfold dKV; rw [List.length_map]; omega) sizeL, hlt, ?_, ?_, nL1, putP rs ts[m].1 (f ts[m].2), ?_, putP_ok hkr (hk _ (List.getElem_mem hlt)), Nat.le_trans (putP_len _ _ _) (by omega)⟩
    · intro c u nc hc
      have nL : c ≠ L := fun z => by subst z; rw [nL1] at hc; cases hc
      rw [upd_ne nL]
      exact s5 _ _ (s3 _ _ (sO _ _ nc hc))
    · rw [upd_ne (Ne.symm hLa)]
      exact s5 _ _ (s3 _ _ hfz)
    · rw [put_kv]; exact upd_same
  · refine .inl ⟨⟨hfz, by omega⟩, hfz, ?_⟩
    refine q _ _ (fun b u hb => ?_) ⟨L, rs, rfl, by rw [upd_ne hLa]; exact hrs, hkr, by omega⟩
    by_cases hba : b = a
    · subst hba
      rw [ha1] at hb
      cases hb
      exact upd_same
    · rw [upd_ne hba]; exact sO _ _ hba hb
theorem ev_sortTR {tk : TA} {n : Nat} {p : Int} (h : EV td σ H (DTV K ts)) (hk : KOK n p ts) (hn : 1 ≤ n) (hz : ∀ σ H, EVA tk σ H [D K (.bool true)]) : EV (tCKw (fun xs zs H Q => zs = [.bl true] ∧ rSortT xs H Q) (tCons td tNil) tk) σ H (DS K (fun fs => fs.Perm (ts.map (·.1))) dPts) := fun H1 e1 Q q =>
  (eva_cons h eva_nil) H1 e1 _ fun vs H2 e2 ps => (hz σ H2).go fun zs H3 e3 pz => by
    obtain ⟨v, rfl, p⟩ := allP1 ps
    obtain ⟨z, rfl, pz2⟩ := allP1 pz
    obtain ⟨a, rfl, ha⟩ := p
    obtain rfl := dp_bool pz2
    refine ⟨rfl, a, _, _, rfl, e3 _ _ ha, keysI hk hn, fun p bs fs hp hA np => q _ _ ((e2.trans e3).trans (same_new np)) ⟨fs, hp, dp_new_list upd_same ((atKeys_dp hA).same (same_new np))⟩⟩
end
section
variable {P : Program} {w : World} {K : PySem.W.Frag} {mg : Str → Option Value} {base : Heap}
/-- a method of a class -/
structure ClM (P : Program) (w : World) (K : PySem.W.Frag) (mg : Str → Option Value) (base : Heap) (k : Nat) (C : Addr) (m : Str) (sp : Sp) : Prop where
  ex : ∃ f fd ps, FnOk P w K mg base CX0 k f fd ps sp ∧ Meth K C m f ∧ Binds K fd ps []
/-- a class that is called -/
structure ClK (P : Program) (w : World) (K : PySem.W.Frag) (mg : Str → Option Value) (base : Heap) (k : Nat) (C : Addr) (x : Str) (sp : Sp) : Prop where
  ex : ∃ f fd ps, FnOk P w K mg base CX0 k f fd ps sp ∧ Mk K C f ∧ mg x = some (.ref C) ∧ Binds K fd ps []
end
section
variable {X : Cx} {k j : Nat} {x m : Str} {sp : Sp} {p pos apos : Pos} {e o : Expr} {es : List Expr} {t : TA} {ta : TE} {C : Addr}
theorem pe_km0 {pl : Sem Bool} (c : ClM X.prog X.w X.K X.mg X.base k C m sp) (cl : Cls X.K C) (hr : Room j X.A) (hk : k ≤ j) (he : PE X o ta)
    (ht : eval (.Call (.Attribute o m apos) [] [] pos) X.env = (do
      let ov ← eval o X.env
      standAt apos.atName
      let (f, first) ← holding [ov] (getMethod ov m pl)
      callWith pos f first (backTo pos (starEach [] X.env)) (backToKw pos (keywordEach [] X.env))) := by rfl) : PE X (.Call (.Attribute o m apos) [] [] pos) (tMeth C m sp [] E0 ta tNil) := by
  obtain ⟨f, fd, ps, F, hm, b⟩ := c.ex
  exact pe_meth0 he cl hm F (hr.mono hk) b .nil pass0 ht
theorem pe_kc (c : ClK X.prog X.w X.K X.mg X.base k C x sp) (hr : Room j X.A) (hk : k + 1 ≤ j) (hg : Gl X x) (ha : PA X (e :: es) t)
    (hdb : (x == ("__debug__" : Str)) = false := by decide) (he : starEach (e :: es) X.env = (false, eval e X.env) :: starEach es X.env := by rfl) (hpl : (backTo pos (starEach es X.env)).any (·.1) = false := by rfl) :
    PE X (.Call (.Name x p) (e :: es) [] pos) (tMake C sp [] E0 t) := by
  obtain ⟨f, fd, ps, F, M, hm, b⟩ := c.ex
  exact pe_make M F (hr.mono hk) hg hm b .nil pass0 ha hdb he hpl
end
section
variable {K : PySem.W.Frag} {σ : Slots} {H : Hp} {te : TE} {CS CY : Addr} {p : Int} {n : Nat}
def prePoints (K : PySem.W.Frag) (CS : Addr) (vs : List V) (H : Hp) (S : VP) : Prop := ∃ (p : Int) (n : Nat) (v : V), vs = [v] ∧ Sm p n ∧ Spc K CS p n v H ∧ S = D K (dPts (pts p n))
theorem ev_points (sm : Sm p n) (h : EV te σ H (Spc K CS p n)) : EV (tMeth CS "points" (Prom (prePoints K CS)) [] E0 te tNil) σ H (D K (dPts (pts p n))) := fun H1 e Q q => h H1 e _ fun v H2 e2 pv => by
  have pv' := pv
  obtain ⟨a, dx, fs, rfl, h1, h2, h3, h4⟩ := pv'
  exact ⟨a, dx, fs, rfl, h1, h4, _, ⟨p, n, .ref a, rfl, sm, pv, rfl⟩, fun v H3 e3 s => q v H3 (e2.trans e3) s⟩
end
end SPw
namespace SPw
open PySem PySem.Spec PyProof.Rows L2
/-! interpolation: only that it answers -/
theorem pts_all (p : Int) (hp : 0 ≤ p) : ∀ n, ∀ x : List Int, x.length = n → (∀ a ∈ x, 0 ≤ a ∧ a < p) → x ∈ pts p n
  | 0, x, h, _ => by
    have : x = [] := List.length_eq_zero_iff.mp h
    subst this
    exact List.mem_singleton.mpr rfl
  | n + 1, x, h, hx => by
    have hne : x ≠ [] := fun z => by subst z; cases h
    have e : x = x.dropLast ++ [x.getLast hne] := (List.dropLast_concat_getLast hne).symm
    have hl := hx _ (List.getLast_mem hne)
    have hd := pts_all p hp n x.dropLast (by rw [List.length_dropLast, h]; rfl) fun a ha => hx a (List.dropLast_subset _ ha)
    unfold pts
    refine List.mem_flatMap.mpr ⟨x.dropLast, hd, List.mem_map.mpr ⟨(x.getLast hne).toNat, List.mem_range.mpr (by omega), ?_⟩⟩
    rw [show (((x.getLast hne).toNat : Nat) : Int) = x.getLast hne by omega]
    exact e.symm
def HasAll (p : Int) (n : Nat) (ts : Poly) : Prop := ∀ e ∈ pts p n, e ∈ ts.map (·.1)
theorem putP_new (ts : Poly) (e : List Int) (i : Int) : e ∈ (putP ts e i).map (·.1) := by
  unfold putP
  by_cases hc : (ts.any fun t => decide (t.1 = e)) = true
  · rw [if_pos hc]
    obtain ⟨t, ht, he⟩ := List.any_eq_true.mp hc
    have he := of_decide_eq_true he
    refine List.mem_map.mpr ⟨_, List.mem_map.mpr ⟨t, ht, rfl⟩, ?_⟩
    rw [if_pos he]; exact he
  · rw [if_neg hc, List.map_append]
    exact List.mem_append.mpr (.inr (List.mem_singleton.mpr rfl))
theorem putP_old {ts : Poly} {e f : List Int} {i : Int} (h : f ∈ ts.map (·.1)) : f ∈ (putP ts e i).map (·.1) := by
  unfold putP
  obtain ⟨t, ht, rfl⟩ := List.mem_map.mp h
  by_cases hc : (ts.any fun t => decide (t.1 = e)) = true
  · rw [if_pos hc]
    refine List.mem_map.mpr ⟨_, List.mem_map.mpr ⟨t, ht, rfl⟩, ?_⟩
    by_cases h1 : t.1 = e
    · rw [if_pos h1]
    · rw [if_neg h1]
  · rw [if_neg hc, List.map_append]
    exact List.mem_append.mpr (.inl (List.mem_map.mpr ⟨t, ht, rfl⟩))
def zipP (es : List (List Int)) (ns : List Int) : Poly := (es.zip ns).foldl (fun acc t => putP acc t.1 t.2) []
theorem zipT_P (es : List (List Int)) (ns : List Int) : zipT es (ns.map V.int) = dKV (zipP es ns) := by
  have h : ∀ (l : List (List Int × Int)) (acc : Poly), (l.map fun t => (t.1, V.int t.2)).foldl (fun acc t => putK acc (kI t.1) t.2) (dKV acc) = dKV (l.foldl (fun acc t => putP acc t.1 t.2) acc) := fun l => by
    induction l with
    | nil => exact fun _ => rfl
    | cons t l ih =>
      intro acc
      rw [List.map_cons, List.foldl_cons, List.foldl_cons]
      show List.foldl _ (putK (dKV acc) (kI t.1) (V.int t.2)) _ = _
      rw [put_kv]; exact ih _
  unfold zipT zipP
  rw [List.zip_map_right]
  exact h (es.zip ns) []
theorem zipP_ok {n : Nat} {p : Int} {es : List (List Int)} {ns : List Int} (h : ∀ e ∈ es, e.length = n ∧ ∀ a ∈ e, 0 ≤ a ∧ a < p) : KOK n p (zipP es ns) := by
  have hh : ∀ (l : List (List Int × Int)) (acc : Poly), (∀ t ∈ l, t.1.length = n ∧ ∀ a ∈ t.1, 0 ≤ a ∧ a < p) → KOK n p acc → KOK n p (l.foldl (fun acc t => putP acc t.1 t.2) acc) := fun l => by
    induction l with
    | nil => exact fun _ _ h => h
    | cons t l ih => exact fun acc h1 h2 => ih _ (fun t ht => h1 t (List.mem_cons_of_mem _ ht)) (putP_ok h2 (h1 t List.mem_cons_self))
  exact hh _ _ (fun t ht => h t.1 (List.of_mem_zip ht).1) fun t ht => by cases ht
theorem zipP_len (es : List (List Int)) (ns : List Int) : (zipP es ns).length ≤ es.length := by
  have hh : ∀ (l : List (List Int × Int)) (acc : Poly), (l.foldl (fun acc t => putP acc t.1 t.2) acc).length ≤ acc.length + l.length := fun l => by
    induction l with
    | nil => exact fun _ => Nat.le_refl _
    | cons t l ih =>
      intro acc
      have h1 := ih (putP acc t.1 t.2)
      have h2 := putP_len acc t.1 t.2
      rw [List.foldl_cons, List.length_cons]; omega
  have h1 := hh (es.zip ns) []
  rw [List.length_zip] at h1
  unfold zipP
  simp at h1 ⊢
  omega
theorem zipP_all {es : List (List Int)} {ns : List Int} (hl : ns.length = es.length) : ∀ e ∈ es, e ∈ (zipP es ns).map (·.1) := by
  have hh : ∀ (l : List (List Int × Int)) (acc : Poly), (∀ f, f ∈ acc.map (·.1) → f ∈ (l.foldl (fun acc t => putP acc t.1 t.2) acc).map (·.1)) ∧ ∀ t ∈ l, t.1 ∈ (l.foldl (fun acc t => putP acc t.1 t.2) acc).map (·.1) := fun l => by
    induction l with
    | nil => exact fun _ => ⟨fun _ h => h, fun _ h => by cases h⟩
    | cons t l ih =>
      intro acc
      obtain ⟨h1, h2⟩ := ih (putP acc t.1 t.2)
      refine ⟨fun f hf => h1 f (putP_old hf), fun u hu => ?_⟩
      rcases List.mem_cons.mp hu with rfl | hu
      · exact h1 _ (putP_new _ _ _)
      · exact h2 u hu
  intro e he
  obtain ⟨i, hi, rfl⟩ := List.getElem_of_mem he
  have hi2 : i < ns.length := by omega
  exact (hh (es.zip ns) []).2 (es[i], ns[i]) (List.mem_of_getElem? (i := i) (by rw [List.getElem?_zip_eq_some]; exact ⟨List.getElem?_eq_getElem hi, List.getElem?_eq_getElem hi2⟩))
def preNum (K : PySem.W.Frag) (vs : List V) (H : Hp) (S : VP) : Prop := ∃ (p : Int) (ns : List Int) (v : V), vs = [.int p, v] ∧ 1 < p ∧ p < 10 ∧ D K (dL ns) v H ∧ ns.length = p.toNat ∧ S = DS K (fun ds : List Int => ds.length = p.toNat) dL
def preFrom (K : PySem.W.Frag) (CS : Addr) (vs : List V) (H : Hp) (S : VP) : Prop := ∃ (p : Int) (n : Nat) (ts : Poly) (v0 v1 : V), vs = [v0, v1] ∧ Sm p n ∧ 1 ≤ n ∧ Spc K CS p n v0 H ∧ DTV K ts v1 H ∧ KOK n p ts ∧ ts.length < 1000000 ∧ S = AnyV
def prePoly (K : PySem.W.Frag) (CS : Addr) (vs : List V) (H : Hp) (S : VP) : Prop := ∃ (p : Int) (n : Nat) (ns : List Int) (v0 v1 : V), vs = [v0, v1] ∧ Sm p n ∧ 1 ≤ n ∧ Spc K CS p n v0 H ∧ D K (dL ns) v1 H ∧ ns.length = (pts p n).length ∧ S = AnyV
theorem spc_O {K : PySem.W.Frag} {CS a : Addr} {p : Int} {n : Nat} {v : V} {H H' : Hp} {kvs : List (List Key × V)} (ha : H a = some (.dT kvs)) (e : SameO a H H') (h : Spc K CS p n v H) : Spc K CS p n v H' := by
  obtain ⟨b, dx, fs, rfl, h1, h2⟩ := h
  exact ⟨b, dx, fs, rfl, e _ _ (fun z => by subst z; rw [ha] at h1; cases h1) h1, h2⟩
section
variable {K : PySem.W.Frag} {σ : Slots} {H : Hp} {ta tb : TE}
theorem dp_atKeys : ∀ {es : List (List Int)} {xs : List V}, TpAll K H xs (es.map dI) → ∃ bs : List Addr, xs = bs.map V.ref ∧ AtKeys H bs es
  | [], xs, h => by cases h; exact ⟨[], rfl, .nil⟩
  | e :: es, xs, h => by
    cases h with
    | cons h1 h2 =>
      obtain ⟨b, rfl, hb⟩ := dp_dI h1
      obtain ⟨bs, rfl, hbs⟩ := dp_atKeys h2
      exact ⟨b :: bs, rfl, .cons hb hbs⟩
theorem ev_dictZip {es : List (List Int)} {ns : List Int} (ha : EV ta σ H (D K (dPts es))) (hb : EV tb σ H (D K (dL ns))) (hl : ns.length = es.length) : EV (tDictZip K ta tb) σ H (fun v H' => ∃ a, v = .ref a ∧ MadeD K H a (zipP es ns) H') := fun H1 e1 Q q =>
  ha H1 e1 _ fun x H2 e2 px => hb H2 (e1.trans e2) _ fun y H3 e3 py => by
    obtain ⟨a, xs, rfl, hq, hA⟩ := dp_listT px
    obtain ⟨c, ys, rfl, hr, hB⟩ := dp_listT py
    obtain ⟨bs, rfl, hk⟩ := dp_atKeys (hA.same e3)
    have hkl := atKeys_len hk
    have hys := ints_dp hB
    refine ⟨a, c, bs, es, ys, rfl, rfl, SqL.of (e3 _ _ hq), hk, SqL.of hr, by rw [hys, List.length_map]; omega, fun p np => ?_⟩
    have nH : H p = none := by
      cases h : H p with
      | none => rfl
      | some u => rw [e3 _ _ (e2 _ _ (e1 _ _ h))] at np; cases np
    refine q _ _ ((e2.trans e3).trans (same_new np)) ⟨p, rfl, nH, (e1.trans (e2.trans e3)).trans (same_new np), ?_⟩
    rw [upd_same, hys, zipT_P]
end
theorem sc_numbers_of : FnScope ["prime", "values", "found", "exponent", "total", "number"] ["prime", "values"] (defScope (top 24)) := ⟨rfl, rfl, rfl, by decide +kernel, rfl, by decide +kernel, by decide +kernel⟩
theorem sc_from_numbers : FnScope ["space", "numbers", "rest", "power", "number"] ["space", "numbers"] (defScope (top 21)) := ⟨rfl, rfl, rfl, by decide +kernel, rfl, by decide +kernel, by decide +kernel⟩
theorem sc_polynomial_of : FnScope ["space", "table", "work", "index", "fresh", "point", "rows", "row", "number", "k"] ["space", "table"] (defScope (top 25)) := ⟨rfl, rfl, rfl, by decide +kernel, rfl, by decide +kernel, by decide +kernel⟩
section
variable {P : Program} {w : World} {K : PySem.W.Frag} {mg : Str → Option Value} {base : Heap} {CS : Addr}
theorem cl_num (T : Txt mg) (d : DefAt K mg "numbers_of" (top 24)) (c_raised_number : Cl P w K mg base 1 "raised_number" (Prom (preRaised K))) : Cl P w K mg base 2 "numbers_of" (Prom (preNum K)) := by
  refine mkCl d (ps := ["prime", "values"]) (fun _ _ _ _ _ _ us hl => match us, hl with | [_, _], _ => rfl) sc_numbers_of ?_ fun f cdv A outer s H vs S Q E hr h q => ?_
  · rintro vs H S ⟨_, _, _, rfl, _⟩; rfl
  · obtain ⟨p, ns, v, rfl, hp, hp2, hv, hl, rfl⟩ := h
    refine ⟨_, pss_cons (ps_set (i := 2) sc_numbers_of.nd rfl (.inl rfl) (pe_lst (pa_cons (pe_ix (ix_listK K) (pv 1) pe_int (fun _ _ => rfl)) pa_nil)))
      (pss_cons (ps_for PassesOwn.never rfl (pi_range2 rfl T.range (pa_cons pe_int (pa_cons (pv 0) pa_nil))) (pg_name (i := 3) sc_numbers_of.nd rfl (.inl rfl))
        (pss_cons (ps_set (i := 4) sc_numbers_of.nd rfl (.inl rfl) pe_int)
        (pss_cons (ps_for PassesOwn.never rfl (pi_range1 rfl T.range (pa_cons (pv 0) pa_nil)) (pg_name (i := 5) sc_numbers_of.nd rfl (.inl rfl))
          (pss_one (ps_aug (i := 4) sc_numbers_of.nd rfl (.inl rfl) (pe_op op_mul (pe_ix (ix_listK K) (pv 1) (pv 5) (fun _ _ => rfl)) (pe_k c_raised_number hr (by decide) rfl (pa_cons (pv 0) (pa_cons (pv 5) (pa_cons (pe_op op_sub (pe_op op_sub (pv 0) pe_int) (pv 3)) pa_nil))))) ip_add)))
        (pss_one (ps_expr (pe_bm PySem.F.plainAttrs_list PySem.F.slot_list_append PySem.F.type_list_append mt_append (pv 2) (pa_cons (pe_op op_mod (pe_un un_neg (pv 4)) (pv 0)) pa_nil)))))))
      (pss_one (ps_ret (pv 2)))), ?_⟩
    have gn : ∀ i, i < p.toNat → ns[i]? = some (ns.getD i 0) := fun i hi => by rw [getD_in (by omega), List.getElem?_eq_getElem]
    refine q_asg (P := MadeV K H [.int (ns.getD 0 0)]) (ev_lstM (K := K) (eva_cons (P := D K (.int (ns.getD 0 0))) (ev_ixL (ds := ns.map .int) (k := 0) (ev_var rfl hv) ev_int rfl (by rw [List.getElem?_map, gn 0 (by omega)]; rfl)) eva_nil) (by simp)) fun v2 H1 s1 hv2 => ?_
    obtain ⟨a, rfl, ma⟩ := hv2
    refine q_forR2 (K := K) (lo := 1) (hi := p) (eva_cons ev_int (eva_cons (ev_vi rfl) eva_nil)) (by omega)
      (fun i σ' H' => ∃ (y z u : Option V) (ds : List Int), Made K H a (ds.map .int) H' ∧ ds.length = i + 1 ∧ σ' = [some (.int p), some v, some (.ref a), y, z, u]) (fun H2 s2 => ⟨_, _, _, [ns.getD 0 0], ma.up s2, rfl, rfl⟩) ?_ ?_
    · rintro i σ' H' hi ⟨y, z, u, ds, md, hdl, rfl⟩
      refine q_asg (P := D K (.int 0)) ev_int fun v3 H3 s3 hv3 => ?_
      obtain rfl := dp_int hv3
      refine q_forR (K := K) (n := p) (eva_cons (ev_vi rfl) eva_nil) (by omega) (by omega)
        (fun j σ' H2 => ∃ (t : Int) (u : Option V), Same H3 H2 ∧ σ' = [some (.int p), some v, some (.ref a), some (.int (1 + (i : Int))), some (.int t), u]) (fun H4 s4 => ⟨0, _, s4, rfl⟩) ?_ ?_
      · rintro j σ' H2 hj ⟨t, u, sj, rfl⟩
        have hrn := rn_lo (n := (j : Int)) hp (p - 1 - (1 + (i : Int))).toNat
        refine s_augI (K := K) (b := ns.getD j 0 * rn p j (p - 1 - (1 + (i : Int))).toNat) rfl (ev_iiC (f := fun i j => i * j) (ev_ixL (ds := ns.map .int) (k := j) (ev_var rfl (Mono.go (P := D K (dL ns)) ((md.2.1.trans s3).trans sj) hv)) (ev_vi rfl) rfl (by rw [List.getElem?_map, gn j (by omega)]; rfl)) (ev_call (S := D K (.int (rn p j (p - 1 - (1 + (i : Int))).toNat))) (eva_cons (P := D K (.int p)) (ev_vi rfl) (eva_cons (P := D K (.int (j : Int))) (ev_vi rfl) (eva_cons (P := D K (.int (p - 1 - (1 + (i : Int))))) (ev_ii (f := fun i j => i - j) (ev_ii (f := fun i j => i - j) (ev_vi rfl) ev_int) (ev_vi rfl)) eva_nil))) ?_) (.inr (by omega))) fun H4 s4 => ⟨_, _, sj.trans s4, rfl⟩
        intro vs H5 s5 ps
        obtain ⟨u1, u2, u3, rfl, a1, a2, a3⟩ := allP3 ps
        rw [dp_int a1, dp_int a2, dp_int a3]
        refine ⟨p, j, (p - 1 - (1 + (i : Int))).toNat, ?_, hp, hp2, by omega, rfl⟩
        rw [show (((p - 1 - (1 + (i : Int))).toNat : Nat) : Int) = p - 1 - (1 + (i : Int)) by omega]
      · rintro σ' H2 ⟨t, u, sj, rfl⟩
        refine s_appM (md.up (s3.trans sj)) rfl (nl_ints _) (d := .int (-t % p)) rfl (by rw [List.length_map]; omega) (ev_iiC (f := fun i j => i % j) (ev_neg (ev_vi rfl)) (ev_vi rfl) (by omega)) fun H4 m4 _ => ⟨_, _, _, ds ++ [-t % p], ?_, by rw [List.length_append, hdl]; rfl, rfl⟩
        rw [List.map_append]; exact m4
    · rintro σ' H' ⟨y, z, u, ds, md, hdl, rfl⟩
      exact s_ret (P := D K (dL ds)) (ev_var rfl md.seq) fun v H2 s2 hv2 => q v H2 (md.2.1.trans s2) ⟨ds, by omega, hv2⟩
theorem cl_from (T : Txt mg) (k : KSp K CS) (d : DefAt K mg "from_numbers" (top 21)) : Cl P w K mg base 1 "from_numbers" (Prom (preFrom K CS)) := by
  refine mkCl d (ps := ["space", "numbers"]) (fun _ _ _ _ _ _ us hl => match us, hl with | [_, _], _ => rfl) sc_from_numbers ?_ fun f cdv A outer s H vs S Q E hr h q => ?_
  · rintro vs H S ⟨_, _, _, _, _, rfl, _⟩; rfl
  · obtain ⟨p, n, ts, v0, v1, rfl, sm, hn, hs, hd, hk, hl, rfl⟩ := h
    refine ⟨_, pss_cons (ps_set (i := 2) sc_from_numbers.nd rfl (.inr rfl) (pe_lock (pe_dcT rfl hr.units sc_from_numbers.nd (pi_itT (pv 1)) (blkOk_by (own := [("power", 3), ("number", 4)]) (N := ["space", "numbers", "rest", "power", "number"]) (sc := (defScope (top 21))) (by decide +kernel)) (fun _ _ _ _ _ => (pg_tupK K (n := 2) (pgs_cons (pg_name (i := 3) sc_from_numbers.nd rfl (.inl rfl)) (pgs_cons (pg_name (i := 4) sc_from_numbers.nd rfl (.inl rfl)) pgs_nil)))) (fun _ _ _ _ _ => (pv 3)) (fun _ _ _ _ _ => (pe_op op_mod (pv 4) (pe_fldK K (pv 0)))))))
      (pss_one (ps_ret (pe_callTy (cr_tupleK K) rfl T.tuple rfl (pa_cons (pe_lc rfl sc_from_numbers.nd (pi_listK K (pe_callBK (cr_sortTR (b := true) rfl hr.units) rfl T.sorted rfl (pa_cons (pv 2) pa_nil) (pk_cons pe_bl pk_nil))) (blkOk_by (own := [("power", 3)]) (N := ["space", "numbers", "rest", "power", "number"]) (sc := (defScope (top 21))) (by decide +kernel)) (fun _ _ _ _ _ => (pg_name (i := 3) sc_from_numbers.nd rfl (.inl rfl))) (fun _ _ _ _ _ => (pts_one (pt_cmpR op_ne (pe_dget (hu_of hr) (pv 2) (pv 3) (fun _ _ => rfl)) pe_int rfl))) (fun _ _ _ _ _ => (pe_tup (pa_cons (pv 3) (pa_cons (pe_dget (hu_of hr) (pv 2) (pv 3) (fun _ _ => rfl)) pa_nil))))) pa_nil)))), ?_⟩
    have := sm.lo
    obtain ⟨a, rfl, ha⟩ := hd
    refine q_asg (ev_dcItems (K := K) (p := p) (n := n) (f := fun c => c % p) rfl ha hk hl (fun _ _ => rfl) (fun _ _ => rfl) fun x c H2 s2 => ev_iiC (f := fun i j => i % j) (ev_vi rfl) (ev_prime k (ev_var rfl (spc_O ha s2 hs))) (by omega)) fun v H1 s1 hv => ?_
    obtain ⟨L, rs, rfl, hL, hkr, hrl⟩ := hv
    have hdr : DTV K rs (.ref L) H1 := ⟨L, rfl, hL⟩
    refine s_ret (P := AnyV) (ev_strict (F := fun t => tCB (rTupO K) (tCons (tLc (iList K t) _ _ _ _) tNil)) (S := AnyV) (fun _ _ _ h => h) (ev_sortTR (ts := rs) (K := K) (n := n) (p := p) (ev_var rfl hdr) hkr hn fun _ _ => eva_cons ev_bl eva_nil) ?_) fun v H2 s2 _ => q v H2 (s1.trans s2) True.intro
    rintro v H2 s2 ⟨fs, hfs, hv⟩
    have hfl := hfs.length_eq
    rw [List.length_map] at hfl
    refine (ev_tupL (ds := gath (fun f => !decide ((vOf rs f).getD 0 = 0)) (fun f => dTerm (f, (vOf rs f).getD 0)) fs) ?_).imp fun _ _ _ _ => True.intro
    refine ev_lcL (xs := fs) (enc := dI) (p := fun f => !decide ((vOf rs f).getD 0 = 0)) (e := fun f => dTerm (f, (vOf rs f).getD 0)) (ev_v (P := D K (dPts fs)) hv) (by omega) (fun _ => nl_dTerm _) ?_
    intro f hf x H3 s3 hx
    obtain ⟨c, hc⟩ := vOf_some (hfs.mem_iff.mp hf)
    have hd3 : DTV K rs (.ref L) H3 := Mono.go (s2.trans s3) hdr
    rw [hc]
    refine item_name rfl (evt_test (ev_neI (ev_dget (ev_var rfl hd3) (ev_var rfl hx) hc) ev_int)) fun _ => ?_
    exact ev_tup (ds := [dI f, .int c]) (eva_cons (P := D K (dI f)) (ev_var rfl hx) (eva_cons (P := D K (.int c)) (ev_dget (ev_var rfl hd3) (ev_var rfl hx) hc) eva_nil)) (by simp)
/-- the row through x: its i-th number is k -/
theorem set_row {x : List Int} {i : Nat} (k : Int) (h : i < x.length) : x.take i ++ [k] ++ x.drop (i + 1) = x.set i k := by
  rw [List.set_eq_take_append_cons_drop, if_pos h, List.append_assoc]; rfl
theorem set_in {p : Int} {n i : Nat} {x : List Int} {k : Int} (hp : 0 ≤ p) (hx : x ∈ pts p n) (hk : 0 ≤ k ∧ k < p) : x.set i k ∈ pts p n := by
  obtain ⟨h1, h2⟩ := pts_mem p n x hx
  refine pts_all p hp n _ (by rw [List.length_set, h1]) fun a ha => ?_
  rcases List.mem_or_eq_of_mem_set ha with h | h
  · exact h2 a h
  · rw [h]; exact hk
theorem cl_poly (T : Txt mg) (k : KSp K CS) (d : DefAt K mg "polynomial_of" (top 25)) (c_numbers_of : Cl P w K mg base 2 "numbers_of" (Prom (preNum K))) (c_from_numbers : Cl P w K mg base 1 "from_numbers" (Prom (preFrom K CS))) (c_points : ClM P w K mg base 2 CS "points" (Prom (prePoints K CS))) : Cl P w K mg base 3 "polynomial_of" (Prom (prePoly K CS)) := by
  refine mkCl d (ps := ["space", "table"]) (fun _ _ _ _ _ _ us hl => match us, hl with | [_, _], _ => rfl) sc_polynomial_of ?_ fun f cdv A outer s H vs S Q E hr h q => ?_
  · rintro vs H S ⟨_, _, _, _, _, rfl, _⟩; rfl
  · obtain ⟨p, n, ns, v0, v1, rfl, sm, hn, hs, hv, hl, rfl⟩ := h
    refine ⟨_, pss_cons (ps_set (i := 2) sc_polynomial_of.nd rfl (.inr rfl) (pe_dictZip rfl hr.units rfl T.dict rfl T.zip (pe_km0 c_points k.cls hr (by decide) (pv 0)) (pv 1)))
      (pss_cons (ps_for PassesOwn.never rfl (pi_range1 rfl T.range (pa_cons (pe_fldK K (pv 0)) pa_nil)) (pg_name (i := 3) sc_polynomial_of.nd rfl (.inr rfl))
        (pss_cons (ps_set (i := 4) sc_polynomial_of.nd rfl (.inl rfl) pe_dnewT)
        (pss_cons (ps_for PassesOwn.never rfl (pi_listK K (pe_km0 c_points k.cls hr (by decide) (pv 0))) (pg_name (i := 5) sc_polynomial_of.nd rfl (.inr rfl))
          (pss_one (ps_if (pt_cmpR op_eq (pe_ix (ix_tupK K) (pv 5) (pv 3) (fun _ _ => rfl)) pe_int rfl)
            (pss_cons (ps_setLc (i := 6) rfl sc_polynomial_of.nd rfl rfl (sw_true rfl rfl rfl (by decide +kernel)) (pi_range1 rfl T.range (pa_cons (pe_fldK K (pv 0)) pa_nil)) (blkOk_by (own := [("k", 9)]) (N := ["space", "table", "work", "index", "fresh", "point", "rows", "row", "number", "k"]) (sc := (defScope (top 25))) (by decide +kernel)) (fun _ _ _ _ _ => (pg_name (i := 9) sc_polynomial_of.nd rfl (.inl rfl))) (fun _ _ _ _ _ => pts_nil) (fun _ _ _ _ _ => (pe_op (op_catK K) (pe_op (op_catK K) (pe_slice (sl_tupK K) (pv 5) po_none (po_some (pv 3))) (pe_tup (pa_cons (pv 9) pa_nil))) (pe_slice (sl_tupK K) (pv 5) (po_some (pe_op op_add (pv 3) pe_int)) po_none))))
            (pss_one (ps_for PassesOwn.never rfl (RZ.pi_zipA rfl T.zip (pa_cons (pv 6) (pa_cons (pe_k c_numbers_of hr (by decide) rfl (pa_cons (pe_fldK K (pv 0)) (pa_cons (pe_lc rfl sc_polynomial_of.nd (pi_listK K (pv 6)) (blkOk_by (own := [("row", 7)]) (N := ["space", "table", "work", "index", "fresh", "point", "rows", "row", "number", "k"]) (sc := (defScope (top 25))) (by decide +kernel)) (fun _ _ _ _ _ => (pg_name (i := 7) sc_polynomial_of.nd rfl (.inl rfl))) (fun _ _ _ _ _ => pts_nil) (fun _ _ _ _ _ => (pe_dget (hu_of hr) (pv 2) (pv 7) (fun _ _ => rfl)))) pa_nil))) pa_nil))) (pg_tupK K (n := 2) (pgs_cons (pg_name (i := 7) sc_polynomial_of.nd rfl (.inl rfl)) (pgs_cons (pg_name (i := 8) sc_polynomial_of.nd rfl (.inl rfl)) pgs_nil)))
              (pss_one (ps_dput (hu_of hr) (pv 4) (pv 7) (pv 8) rfl)))))
            pss_nil)))
        (pss_one (ps_set (i := 2) sc_polynomial_of.nd rfl (.inr rfl) (pv 4))))))
      (pss_one (ps_ret (pe_k c_from_numbers hr (by decide) rfl (pa_cons (pv 0) (pa_cons (pv 2) pa_nil)))))), ?_⟩
    have := sm.lo
    have := sm.hi
    have := sm.n
    have lp := pts_small sm
    have kz : KOK n p (zipP (pts p n) ns) := zipP_ok (pts_mem p n)
    have lz := zipP_len (pts p n) ns
    have az : HasAll p n (zipP (pts p n) ns) := zipP_all hl
    refine q_asg (ev_dictZip (K := K) (es := pts p n) (ns := ns) (ev_points sm (ev_var rfl hs)) (ev_var rfl hv) hl) fun v2 H1 s1 hv2 => ?_
    obtain ⟨aw, rfl, mw⟩ := hv2
    refine q_forR (K := K) (n := (n : Int)) (eva_cons (ev_count k (ev_var rfl (Mono.go s1 hs))) eva_nil) (by omega) (by omega)
      (fun i σ' H' => ∃ (y3 y4 y5 y6 y7 y8 : Option V) (bw : Addr) (wts : Poly), MadeD K H bw wts H' ∧ KOK n p wts ∧ HasAll p n wts ∧ wts.length < 100000 ∧ σ' = [some v0, some v1, some (.ref bw), y3, y4, y5, y6, y7, y8, none]) (fun H2 s2 => ⟨_, _, _, _, _, _, aw, zipP (pts p n) ns, mw.up s2, kz, az, by omega, rfl⟩) ?_ ?_
    · rintro i σ' H' hi ⟨y3, y4, y5, y6, y7, y8, bw, wts, mdw, kw, aw, lw, rfl⟩
      have hin : i < n := by omega
      refine q_asg (ev_newT (K := K)) fun v3 H3 s3 hv3 => ?_
      obtain ⟨L, rfl, mL⟩ := hv3
      refine q_forLd (K := K) (L := L) (ds := (pts p n).map dI) (ev_points sm (ev_var rfl (Mono.go (mdw.2.1.trans s3) hs))) (nl_dPts _) mL.2.2
        (fun m σ' H4 => ∃ (x5 x6 x7 x8 : Option V) (fts : Poly), MadeD K H' L fts H4 ∧ KOK n p fts ∧ fts.length ≤ m * p.toNat ∧ (∀ j, j < m → ∀ x, (pts p n)[j]? = some x → x.getD i 0 = 0 → ∀ c : Nat, c < p.toNat → x.set i (c : Int) ∈ fts.map (·.1)) ∧ σ' = [some v0, some v1, some (.ref bw), some (.int (i : Int)), some (.ref L), x5, x6, x7, x8, none]) ?_ (fun H4 s4 => ⟨_, _, _, _, [], mL.up s4, (fun t h => by cases h), Nat.zero_le _, fun j hj => absurd hj (Nat.not_lt_zero _), rfl⟩) ?_
      · rintro H0 s0 m dd xv σ' H4 hx sO ⟨x5, x6, x7, x8, fts, mf, kf, lf, af, rfl⟩ dx
        have hm := (List.getElem?_eq_some_iff.mp hx).1
        rw [List.length_map] at hm
        rw [List.getElem?_map] at hx
        obtain ⟨x, hxm, rfl⟩ := Option.map_eq_some_iff.mp hx
        have hxp := List.mem_of_getElem? hxm
        obtain ⟨hxl, hxb⟩ := pts_mem p n x hxp
        have gi : x[i]? = some (x.getD i 0) := by rw [getD_in (by omega), List.getElem?_eq_getElem]
        have hmm : (m + 1) * p.toNat = m * p.toNat + p.toNat := by rw [Nat.add_mul, Nat.one_mul]
        have hmb : m * p.toNat ≤ 10000 * 9 := Nat.mul_le_mul (by omega) (by omega)
        refine s_if (evt_test (K := K) (ev_eqI (ev_ixT (ds := x.map .int) (k := i) (ev_var rfl dx) (ev_vi rfl) rfl (by rw [List.getElem?_map, gi]; rfl)) ev_int)) (fun hb H5 s5 => ?_) (fun hb H5 s5 => ?_)
        · have hb := of_decide_eq_true hb
          have dw : DTV K wts (.ref bw) H5 := ⟨bw, rfl, s5 _ _ (mf.2.1 _ _ mdw.2.2)⟩
          have hs5 : Spc K CS p n v0 H5 := Mono.go ((mdw.2.1.trans mf.2.1).trans s5) hs
          have hrl : ((List.range p.toNat).map fun (c : Nat) => x.set i (c : Int)).length = p.toNat := by rw [List.length_map, List.length_range]
          have hrm : ∀ r ∈ (List.range p.toNat).map fun (c : Nat) => x.set i (c : Int), r ∈ pts p n := fun r hr => by
            obtain ⟨c, hc, rfl⟩ := List.mem_map.mp hr
            have := List.mem_range.mp hc
            exact set_in (by omega) hxp (by omega)
          refine q_asg (P := D K (dPts ((List.range p.toNat).map fun (c : Nat) => x.set i (c : Int)))) ((ev_lcR (n := p) (p := fun _ => true) (e := fun (c : Nat) => dI (x.set i (c : Int))) (eva_cons (ev_prime k (ev_var rfl hs5)) eva_nil) (by omega) (by omega) (fun _ => nl_dI _) ?_).eqD (by rw [gath_all]; unfold dPts; rw [List.map_map]; rfl)) fun v6 H6 s6 hv6 => ?_
          · intro c hc H6 s6
            refine item_name rfl evt_yes fun _ => ?_
            have e1 : ((i : Int) + 1) = ((i + 1 : Nat) : Int) := rfl
            refine (ev_catT (ds := cutD (x.map .int) none (some (i : Int)) ++ [.int (c : Int)]) (es := cutD (x.map .int) (some ((i : Int) + 1)) none) (ev_catT (es := [.int (c : Int)]) (ev_slT (ds := x.map .int) (ev_var rfl (Mono.go (P := D K (dI x)) (s5.trans s6) dx)) evo_none (evo_some (K := K) (ev_vi rfl))) (ev_tup (ds := [.int (c : Int)]) (eva_cons (ev_vi rfl) eva_nil) (by simp)) ?_) (ev_slT (ds := x.map .int) (ev_var rfl (Mono.go (P := D K (dI x)) (s5.trans s6) dx)) (evo_some (K := K) (ev_ii (f := fun i j => i + j) (ev_vi rfl) ev_int)) evo_none) ?_).eqD ?_
            · rw [cutD_hi, List.length_take, List.length_map]; simp; omega
            · rw [e1, cutD_hi, cutD_lo, List.length_append, List.length_take, List.length_drop, List.length_map]; simp; omega
            · rw [e1, cutD_hi, cutD_lo]
              show _ = PyData.tuple ((x.set i (c : Int)).map .int)
              rw [← set_row (c : Int) (by omega : i < x.length), List.map_append, List.map_append, List.map_take, List.map_drop]; rfl
          have mf6 := mf.up (s5.trans s6)
          have hs6 : Spc K CS p n v0 H6 := Mono.go s6 hs5
          refine s_forZLd (K := K) (L := L) (ds := ((List.range p.toNat).map fun (c : Nat) => x.set i (c : Int)).map dI) (eva_cons (P := D K (dPts ((List.range p.toNat).map fun (c : Nat) => x.set i (c : Int)))) (ev_var rfl hv6) (eva_cons (P := DS K (fun ds : List Int => ds.length = p.toNat) dL) (ev_call (eva_cons (ev_prime k (ev_var rfl hs6)) (eva_cons (P := D K (dL (((List.range p.toNat).map fun (c : Nat) => x.set i (c : Int)).map fun r => (vOf wts r).getD 0))) ?_ eva_nil)) ?_) eva_nil)) (fun ds h => by rw [List.length_map, hrl]; exact h) (nl_dPts _) mf6.2.2
            (fun t σ' H7 => ∃ (x7 x8 : Option V) (gts : Poly), SameO L H6 H7 ∧ MadeD K H' L gts H7 ∧ KOK n p gts ∧ gts.length ≤ m * p.toNat + t ∧ (∀ f, f ∈ fts.map (·.1) → f ∈ gts.map (·.1)) ∧ (∀ c : Nat, c < t → x.set i (c : Int) ∈ gts.map (·.1)) ∧ σ' = [some v0, some v1, some (.ref bw), some (.int (i : Int)), some (.ref L), some xv, some v6, x7, x8, none]) ?_ ?_ ?_ ?_
          · refine (ev_lcL (xs := (List.range p.toNat).map fun (c : Nat) => x.set i (c : Int)) (enc := dI) (p := fun _ => true) (e := fun r => .int ((vOf wts r).getD 0)) (ev_var rfl hv6) (by rw [hrl]; omega) (fun _ => rfl) ?_).eqD (by rw [gath_all]; unfold dL; simp only [List.map_map]; rfl)
            intro r hr xr H7 s7 hxr
            obtain ⟨c, hc⟩ := vOf_some (aw r (hrm r hr))
            exact item_name rfl evt_yes fun _ => (ev_dget (ev_var rfl (Mono.go (s6.trans s7) dw)) (ev_var rfl hxr) hc).eqD (by rw [hc]; rfl)
          · intro vs H7 s7 ps
            obtain ⟨u1, u2, rfl, a1, a2⟩ := allP2 ps
            rw [dp_int a1]
            exact ⟨p, _, u2, rfl, sm.lo, sm.hi, a2, by rw [List.length_map, hrl], rfl⟩
          · rintro t σ' H7 H8 ⟨x7, x8, gts, sO7, mg, kg, lg, og, ng, rfl⟩ s8
            exact ⟨x7, x8, gts, sO7.trans (same_O s8), mg.up s8, kg, lg, og, ng, rfl⟩
          · rintro H02 s02 t dd c xr T σ' H7 hxr sO7 hdr hT ⟨x7, x8, gts, sO8, mg, kg, lg, og, ng, rfl⟩
            rw [List.getElem?_map, List.getElem?_map] at hxr
            obtain ⟨r, hr, rfl⟩ := Option.map_eq_some_iff.mp hxr
            obtain ⟨t', ht', rfl⟩ := Option.map_eq_some_iff.mp hr
            have htr := List.mem_range.mp (List.mem_of_getElem? ht')
            have htt : t = t' := by
              have h1 := (List.getElem?_eq_some_iff.mp ht').1
              rw [List.length_range] at h1
              rw [List.getElem?_range h1] at ht'
              exact Option.some.inj ht'
            subst htt
            refine g_two hT ?_
            refine s_dput (e := x.set i (t : Int)) (v := c) mg (ev_vi rfl) rfl (ev_var rfl hdr) (by omega) fun H8 m8 sO9 => ⟨sO7.trans sO9, _, _, _, sO8.trans sO9, m8, putP_ok kg (pts_mem p n _ (set_in (by omega) hxp (by omega))), Nat.le_trans (putP_len _ _ _) (by omega), fun f hf => putP_old (og f hf), fun c' hc' => ?_, rfl⟩
            by_cases h : c' = t
            · subst h; exact putP_new _ _ _
            · exact putP_old (ng c' (by omega))
          · exact fun H7 s7 => ⟨_, _, fts, same_O s7, mf6.up s7, kf, Nat.le_add_right_of_le lf, fun f h => h, fun c hc => absurd hc (Nat.not_lt_zero _), rfl⟩
          · rintro σ' H7 sO7 ⟨x7, x8, gts, sO8, mg, kg, lg, og, ng, rfl⟩
            rw [List.length_map, hrl] at lg ng
            refine ⟨(sO.trans (same_O (s5.trans s6))).trans sO8, _, _, _, _, gts, mg, kg, by omega, fun j hj y hy hy0 c hc => ?_, rfl⟩
            by_cases hjm : j = m
            · subst hjm
              rw [hxm] at hy
              cases hy
              exact ng c hc
            · exact og _ (af j (by omega) y hy hy0 c hc)
        · have hb := of_decide_eq_false hb
          refine ⟨sO.trans (same_O s5), _, _, _, _, fts, mf.up s5, kf, by omega, fun j hj y hy hy0 => ?_, rfl⟩
          by_cases hjm : j = m
          · subst hjm
            rw [hxm] at hy
            cases hy
            exact absurd hy0 hb
          · exact af j (by omega) y hy hy0
      · rintro σ' H4 sO4 ⟨x5, x6, x7, x8, fts, mf, kf, lf, af, rfl⟩
        rw [List.length_map] at lf af
        have hmb : (pts p n).length * p.toNat ≤ 10000 * 9 := Nat.mul_le_mul (by omega) (by omega)
        refine s_asg (P := Is (.ref L)) (ev_var rfl rfl) fun v H5 s5 hv5 => ?_
        obtain rfl : v = .ref L := hv5
        have hnL : H L = none := by
          cases h : H L with
          | none => rfl
          | some u =>
            have := mdw.2.1 _ _ h
            rw [mL.1] at this; cases this
        refine ⟨_, _, _, _, _, _, L, fts, ⟨hnL, (mdw.2.1.trans mf.2.1).trans s5, s5 _ _ mf.2.2⟩, kf, fun e he => ?_, by omega, rfl⟩
        obtain ⟨hel, heb⟩ := pts_mem p n e he
        have hy := set_in (i := i) (k := 0) (by omega : 0 ≤ p) he (by omega)
        obtain ⟨j, hj, hje⟩ := List.getElem_of_mem hy
        have hy0 : (e.set i 0).getD i 0 = 0 := by
          rw [getD_in (by rw [List.length_set]; omega), List.getElem_set_self]
        have hei : i < e.length := by omega
        have hb := heb e[i] (List.getElem_mem hei)
        have h9 := af j hj (e.set i 0) (by rw [List.getElem?_eq_getElem hj, hje]) hy0 e[i].toNat (by omega)
        rw [show ((e[i].toNat : Nat) : Int) = e[i] by omega, List.set_set, List.set_getElem_self] at h9
        exact h9
    · rintro σ' H' ⟨y3, y4, y5, y6, y7, y8, bw, wts, mdw, kw, aw, lw, rfl⟩
      refine s_ret (P := AnyV) (ev_call (eva_cons (P := Spc K CS p n) (ev_var rfl (Mono.go mdw.2.1 hs)) (eva_cons (P := DTV K wts) (ev_var rfl mdw.v) eva_nil)) ?_) fun v H2 s2 _ => q v H2 (mdw.2.1.trans s2) True.intro
      intro vs H2 s2 ps
      obtain ⟨u1, u2, rfl, a1, a2⟩ := allP2 ps
      exact ⟨p, n, wts, u1, u2, rfl, sm, hn, a1, a2, kw, by omega, rfl⟩
end
end SPw
namespace SPw
open PySem PySem.Spec PyProof.Rows L2
/-! tables of ints that grow side by side -/
def SameS (ts : List Addr) (H H' : Hp) : Prop := ∀ b u, b ∉ ts → H b = some u → H' b = some u
theorem SameS.refl (ts : List Addr) (H : Hp) : SameS ts H H := fun _ _ _ h => h
theorem SameS.trans {ts : List Addr} {H1 H2 H3 : Hp} (a : SameS ts H1 H2) (b : SameS ts H2 H3) : SameS ts H1 H3 := fun x u n h => b x u n (a x u n h)
theorem same_S {ts : List Addr} {H H' : Hp} (e : Same H H') : SameS ts H H' := fun b u _ h => e b u h
theorem upd_S {ts : List Addr} {t : Addr} {H : Hp} {o : HO} (ht : t ∈ ts) : SameS ts H (upd H t o) := fun b u n h => by rw [upd_ne (show b ≠ t from fun z => n (by rw [z]; exact ht))]; exact h
mutual
theorem dp_S {K : PySem.W.Frag} {ts : List Addr} {H H' : Hp} (hp : ∀ L ∈ ts, ∀ ys, ¬ Rd H L (.tup ys)) (e : SameS ts H H') : ∀ (d : PyData) (v : V), nl d = true → Tp K H v d → Tp K H' v d
  | .none, _, _, h => by cases h; exact .non
  | .bool _, _, _, h => by cases h; exact .bl _
  | .int _, _, _, h => by cases h; exact .int _
  | .str _, _, _, h => by cases h; exact .str _
  | .list _, _, n, _ => by simp [nl] at n
  | .dict _, _, n, _ => by simp [nl] at n
  | .tuple ds, _, n, h => by
    cases h with
    | @tup a xs _ hs ha =>
      refine .tup ?_ (dpAll_S hp e ds _ (by simpa [nl] using n) ha)
      exact e _ _ (fun z => hp _ z xs (.inl hs)) hs
theorem dpAll_S {K : PySem.W.Frag} {ts : List Addr} {H H' : Hp} (hp : ∀ L ∈ ts, ∀ ys, ¬ Rd H L (.tup ys)) (e : SameS ts H H') : ∀ (ds : List PyData) (vs : List V), nlAll ds = true → TpAll K H vs ds → TpAll K H' vs ds
  | [], _, _, h => by cases h; exact .nil
  | d :: ds, _, n, h => by
    cases h with
    | cons h1 h2 =>
      have n' : nl d = true ∧ nlAll ds = true := by simpa [nlAll] using n
      exact .cons (dp_S hp e d _ n'.1 h1) (dpAll_S hp e ds _ n'.2 h2)
end
/-- the tables' list at a, the tables at ts, table j with rows j ints -/
structure TabS (H0 : Hp) (a : Addr) (ts : List Addr) (rows : Nat → Nat) (H : Hp) : Prop where
  na : H0 a = none
  nt : ∀ t ∈ ts, H0 t = none
  out : a ∉ ts
  nd : ts.Nodup
  same : Same H0 H
  at_ : H a = some (.lst (ts.map V.ref))
  tab : ∀ j t, ts[j]? = some t → ∃ ns : List Int, H t = some (.lst (ns.map V.int)) ∧ ns.length = rows j
theorem TabS.up {H0 H H' : Hp} {a : Addr} {ts : List Addr} {rows : Nat → Nat} (m : TabS H0 a ts rows H) (e : Same H H') : TabS H0 a ts rows H' :=
  ⟨m.na, m.nt, m.out, m.nd, m.same.trans e, e _ _ m.at_, fun j t h => by
    obtain ⟨ns, h1, h2⟩ := m.tab j t h
    exact ⟨ns, e _ _ h1, h2⟩⟩
theorem TabS.app {H0 H : Hp} {a : Addr} {ts : List Addr} {rows rows' : Nat → Nat} {j : Nat} {t : Addr} {ns : List Int} {c : Int} (m : TabS H0 a ts rows H) (hj : ts[j]? = some t) (ht : H t = some (.lst (ns.map V.int))) (hl : ns.length + 1 = rows' j) (hr : ∀ i, i ≠ j → rows' i = rows i) :
    TabS H0 a ts rows' (upd H t (.lst (ns.map V.int ++ [.int c]))) := by
  have htm := List.mem_of_getElem? hj
  refine ⟨m.na, m.nt, m.out, m.nd, same_mut m.same (m.nt t htm), ?_, fun i t' h => ?_⟩
  · rw [upd_ne (show a ≠ t from fun z => m.out (by rw [z]; exact htm))]; exact m.at_
  · by_cases hij : i = j
    · subst hij
      rw [hj] at h
      cases h
      exact ⟨ns ++ [c], by rw [upd_same, List.map_append]; rfl, by rw [List.length_append]; exact hl⟩
    · obtain ⟨ms, h1, h2⟩ := m.tab i t' h
      have hne : t' ≠ t := fun z => by
        subst z
        exact hij ((List.getElem?_inj (List.getElem?_eq_some_iff.mp h).1 m.nd).mp (by rw [h, hj]))
      exact ⟨ms, by rw [upd_ne hne]; exact h1, by rw [h2, hr i hij]⟩
theorem TabS.notup {H0 H : Hp} {a : Addr} {ts : List Addr} {rows : Nat → Nat} (m : TabS H0 a ts rows H) : ∀ L ∈ ts, ∀ ys, ¬ Rd H L (.tup ys) := fun L hL => by
  obtain ⟨j, hj, rfl⟩ := List.getElem_of_mem hL
  obtain ⟨ns, h1, _⟩ := m.tab j _ (List.getElem?_eq_getElem hj)
  exact notup_lst h1
section
variable {K : PySem.W.Frag} {σ : Slots} {H H' H0 : Hp} {te tl : TE} {P R S : VP} {ds : List PyData}
variable {E : Ends} {tu tz : TS} {g : TG}
/-- [[] for _ in a list] -/
theorem ev_lcTabs {j : Nat} {vs : List Nat} {a0 : Addr} {xs : List V} (h : EV tl σ H (fun v H' => v = .ref a0 ∧ SqL K H' a0 xs)) (hz : xs.length < 1000000) (hw : ∀ x, wipe ((wipe σ vs).set j (some x)) vs = wipe σ vs) :
    EV (tLc (iList K tl) (gName j) tYes (tLst tNil) vs) σ H (fun v H' => ∃ a ts, v = .ref a ∧ ts.length = xs.length ∧ TabS H a ts (fun _ => 0) H') := fun H1 e1 Q q =>
  h H1 e1 _ fun v H2 e2 pv => by
    obtain ⟨rfl, hs⟩ := pv
    refine ⟨a0, rfl, ⟨xs, hs⟩, fun L nL => lc_list (xs := xs) (fun i H' => ∃ ts : List Addr, ts.length = i ∧ TabS H2 L ts (fun _ => 0) H') ⟨[], rfl, nL, (fun _ h => by cases h), (fun h => by cases h), List.nodup_nil, same_new nL, upd_same, fun j t h => by simp at h⟩ (fun i H' _ m => by obtain ⟨ts, _, m⟩ := m; exact m.same.seq hs) ?_ ?_⟩
    · rintro i x H' hx ⟨ts, hl, m⟩
      have hi := (List.getElem?_eq_some_iff.mp hx).1
      refine ⟨hw x, ?_⟩
      dsimp only [tYes]
      rw [if_pos rfl]
      refine ⟨Nat.zero_le _, fun p np => ⟨ts.map V.ref, ?_, Nat.lt_of_lt_of_le (by rw [List.length_map, hl]; omega) sizeL, ts ++ [p], by rw [List.length_append, hl]; rfl, ?_⟩⟩
      · rw [upd_ne (fun z => by subst z; rw [m.at_] at np; cases np)]; exact m.at_
      have hpL : p ≠ L := fun z => by subst z; rw [m.at_] at np; cases np
      have hpt : p ∉ ts := fun z => by
        obtain ⟨j, hj, rfl⟩ := List.getElem_of_mem z
        obtain ⟨ns, h1, _⟩ := m.tab j _ (List.getElem?_eq_getElem hj)
        rw [h1] at np; cases np
      have hp0 : H2 p = none := by
        cases h : H2 p with
        | none => rfl
        | some u => rw [m.same _ _ h] at np; cases np
      refine ⟨m.na, fun t ht => ?_, fun ht => ?_, ?_, same_mut (m.same.trans (same_new np)) m.na, by rw [upd_same, List.map_append]; rfl, fun j t h => ?_⟩
      · rcases List.mem_append.mp ht with ht | ht
        · exact m.nt t ht
        · rw [List.mem_singleton.mp ht]; exact hp0
      · rcases List.mem_append.mp ht with ht | ht
        · exact m.out ht
        · exact hpL (List.mem_singleton.mp ht).symm
      · refine List.nodup_append.mpr ⟨m.nd, List.nodup_cons.mpr ⟨by simp, List.nodup_nil⟩, fun a ha b hb => ?_⟩
        rw [List.mem_singleton.mp hb]
        exact fun z => hpt (z ▸ ha)
      · by_cases hj : j < ts.length
        · rw [List.getElem?_append_left hj] at h
          obtain ⟨ns, h1, h2⟩ := m.tab j t h
          have ht := List.mem_of_getElem? h
          exact ⟨ns, by rw [upd_ne (show t ≠ L from fun z => m.out (by rw [← z]; exact ht)), upd_ne (show t ≠ p from fun z => hpt (by rw [← z]; exact ht))]; exact h1, h2⟩
        · rw [List.getElem?_append_right (by omega)] at h
          have : t = p := List.mem_singleton.mp (List.mem_of_getElem? h)
          subst this
          exact ⟨[], by rw [upd_ne hpL]; exact upd_same, rfl⟩
    · rintro H' ⟨ts, hl, m⟩
      have hd : ∀ b, H2 b = none → H b = none := fun b hb => by
        cases h : H b with
        | none => rfl
        | some u => rw [e2 _ _ (e1 _ _ h)] at hb; cases hb
      exact q _ _ (e2.trans m.same) ⟨L, ts, rfl, hl, hd _ m.na, fun t ht => hd _ (m.nt t ht), m.out, m.nd, (e1.trans e2).trans m.same, m.at_, m.tab⟩
/-- a comprehension of which only a list is known -/
theorem ev_lcAny {j : Nat} {vs : List Nat} {a0 : Addr} {xs : List V} (h : EV tl σ H (fun v H' => v = .ref a0 ∧ SqL K H' a0 xs)) (hz : xs.length < 1000000) (hw : ∀ x, wipe ((wipe σ vs).set j (some x)) vs = wipe σ vs)
    (hi : ∀ (i : Nat) (x : V) (H1 : Hp), xs[i]? = some x → Same H H1 → EV te ((wipe σ vs).set j (some x)) H1 AnyV) : EV (tLc (iList K tl) (gName j) tYes te vs) σ H (fun v _ => ∃ a, v = .ref a) := fun H1 e1 Q q =>
  h H1 e1 _ fun v H2 e2 pv => by
    obtain ⟨rfl, hs⟩ := pv
    refine ⟨a0, rfl, ⟨xs, hs⟩, fun L nL => lc_list (xs := xs) (fun i H' => H2 L = none ∧ Same H2 H' ∧ ∃ ys, ys.length = i ∧ H' L = some (.lst ys)) ⟨nL, same_new nL, [], rfl, upd_same⟩ (fun i H' _ m => m.2.1.seq hs) ?_ ?_⟩
    · rintro i x H' hx ⟨n1, n2, ys, hl, hy⟩
      have hil := (List.getElem?_eq_some_iff.mp hx).1
      refine ⟨hw x, ?_⟩
      dsimp only [tYes]
      rw [if_pos rfl]
      refine (hi i x H' hx ((e1.trans e2).trans n2)).go fun y H3 e3 _ => ⟨ys, e3 _ _ hy, Nat.lt_of_lt_of_le (by omega) sizeL, n1, same_mut (n2.trans e3) n1, ys ++ [y], by rw [List.length_append, hl]; rfl, upd_same⟩
    · rintro H' ⟨n1, n2, ys, hl, hy⟩
      exact q _ _ (e2.trans n2) ⟨L, rfl⟩
/-- a loop over a list of data while tables grow -/
theorem s_forLs {a : Addr} {ts : List Addr} (h : EV te σ H (D K (.list ds))) (hn : nlAll ds = true) (hne : ds ≠ []) (hT : TabS H0 a ts (fun _ => 0) H) (Pv : Nat → Slots → Hp → Prop)
    (hs : ∀ H1, Same H H1 → ∀ (i : Nat) d x σ' H', ds[i]? = some d → SameS ts H1 H' → Pv i σ' H' → Tp K H' x d → g x σ' H' fun σ2 H2 => tu { E with nx := fun a b => SameS ts H1 b ∧ Pv (i + 1) a b, ct := fun a b => SameS ts H1 b ∧ Pv (i + 1) a b, bk := E.nx } σ2 H2)
    (h0 : ∀ H1, Same H H1 → Pv 0 σ H1) (hd : ∀ σ' H', Pv ds.length σ' H' → E.nx σ' H') : tFor (iList K te) g tu E σ H :=
  h.go fun v H1 e p => by
    obtain ⟨b, xs, rfl, hq, hA⟩ := dp_listT p
    have hl := hA.len
    have hT1 := hT.up e
    have nb : b ∉ ts := fun z => by
      obtain ⟨j, hj, rfl⟩ := List.getElem_of_mem z
      obtain ⟨ns, h1, h2⟩ := hT1.tab j _ (List.getElem?_eq_getElem hj)
      rw [h1] at hq
      cases hq
      rw [List.length_map, h2] at hl
      exact hne (List.length_eq_zero_iff.mp hl.symm)
    refine ⟨b, rfl, ⟨xs, SqL.of hq⟩, for_list (xs := xs) (fun i a b => SameS ts H1 b ∧ Pv i a b) ⟨SameS.refl _ _, h0 H1 e⟩ (fun i σ' H' hi pv => SqL.of (pv.1 _ _ nb hq)) (fun i x σ' H' hx pv => ?_) (fun σ' H' pv => hd σ' H' (by rw [← hl]; exact pv.2))⟩
    obtain ⟨d, hd', dx⟩ := (dpAll_S hT1.notup pv.1 _ _ hn hA).at hx
    exact hs H1 e i d x σ' H' hd' pv.1 pv.2 dx
theorem q_forLs {a : Addr} {ts : List Addr} (h : EV te σ H (D K (.list ds))) (hn : nlAll ds = true) (hne : ds ≠ []) (hT : TabS H0 a ts (fun _ => 0) H) (Pv : Nat → Slots → Hp → Prop)
    (hs : ∀ H1, Same H H1 → ∀ (i : Nat) d x σ' H', ds[i]? = some d → SameS ts H1 H' → Pv i σ' H' → Tp K H' x d → g x σ' H' fun σ2 H2 => tu { E with nx := fun a b => SameS ts H1 b ∧ Pv (i + 1) a b, ct := fun a b => SameS ts H1 b ∧ Pv (i + 1) a b, bk := tz E } σ2 H2)
    (h0 : ∀ H1, Same H H1 → Pv 0 σ H1) (hd : ∀ σ' H', Pv ds.length σ' H' → tz E σ' H') : tSeq (tFor (iList K te) g tu) tz E σ H :=
  s_forLs (E := { E with nx := tz E }) h hn hne hT Pv hs h0 hd
theorem s_forZ2 {ti : TA} {Ps : List VP} (h : EVA ti σ H Ps) (k : ∀ vs H1, Same H H1 → AllP Ps vs H1 → RZ.iZipA K (fun _ H Q => Q vs H) σ H1 (fun J H2 => ∃ W : Nat → Nat → Slots → Hp → Prop, (∃ m, W 0 m σ H2) ∧ ∀ i m σ H, W i m σ H →
    (J.stop i H ∧ E.nx σ H) ∨ (J.go i H ∧ ∃ N : Slots → Hp → Prop, (∀ σ' H', N σ' H' → ∃ m', m' < m ∧ W (i + 1) m' σ' H') ∧ ∀ x H', J.yld i H x H' → g x σ H' fun σ2 H2 => tu { E with nx := N, ct := N, bk := E.nx } σ2 H2))) : tFor (RZ.iZipA K ti) g tu E σ H := h.go k
theorem q_forZ2 {ti : TA} {Ps : List VP} (h : EVA ti σ H Ps) (k : ∀ vs H1, Same H H1 → AllP Ps vs H1 → ∀ E' : Ends, E' = { E with nx := tz E } → RZ.iZipA K (fun _ H Q => Q vs H) σ H1 (fun J H2 => ∃ W : Nat → Nat → Slots → Hp → Prop, (∃ m, W 0 m σ H2) ∧ ∀ i m σ H, W i m σ H →
    (J.stop i H ∧ E'.nx σ H) ∨ (J.go i H ∧ ∃ N : Slots → Hp → Prop, (∀ σ' H', N σ' H' → ∃ m', m' < m ∧ W (i + 1) m' σ' H') ∧ ∀ x H', J.yld i H x H' → g x σ H' fun σ2 H2 => tu { E' with nx := N, ct := N, bk := E'.nx } σ2 H2))) : tSeq (tFor (RZ.iZipA K ti) g tu) tz E σ H :=
  s_forZ2 (E := { E with nx := tz E }) h fun vs H1 s p => k vs H1 s p _ rfl
end
end SPw
namespace SPw
open PySem PySem.Spec PyProof.Rows L2
/-- at x the value is nought, or some equation's is not -/
def okp (p : Int) (eqs : List Poly) (f : Poly) (x : List Int) : Bool := decide (val p f x = 0) || eqs.any fun g => !decide (val p g x = 0)
def fol (p : Int) (n : Nat) (eqs : List Poly) (f : Poly) : Bool := (pts p n).all (okp p eqs f)
def wan (p : Int) (x : List Int) (w : Int) (gs : List Poly) : Int := if (gs.any fun g => !decide (val p g x = 0)) = true then 0 else w
theorem wan_step (p : Int) (x : List Int) (w : Int) (gs : List Poly) (g : Poly) : wan p x w (gs ++ [g]) = if (!decide (wan p x w gs = 0) && !decide (val p g x = 0)) = true then 0 else wan p x w gs := by
  unfold wan
  rw [List.any_append]
  by_cases h1 : (gs.any fun g => !decide (val p g x = 0)) = true
  · rw [h1]; simp
  · have h1' : (gs.any fun g => !decide (val p g x = 0)) = false := by simpa using h1
    rw [h1']
    by_cases h2 : val p g x = 0 <;> by_cases h3 : w = 0 <;> simp [h2, h3]
theorem wan_ok (p : Int) (x : List Int) (eqs : List Poly) (f : Poly) : okp p eqs f x = decide (wan p x (val p f x) eqs = 0) := by
  unfold okp wan
  by_cases h1 : (eqs.any fun g => !decide (val p g x = 0)) = true
  · rw [h1, if_pos rfl]; simp
  · have h1' : (eqs.any fun g => !decide (val p g x = 0)) = false := by simpa using h1
    rw [h1', if_neg Bool.false_ne_true]; simp
theorem wan_lo {p : Int} (hp : 1 < p) (x : List Int) (f : Poly) (gs : List Poly) : 0 ≤ wan p x (val p f x) gs ∧ wan p x (val p f x) gs < p := by
  have := val_lo hp f x
  unfold wan
  split <;> omega
def FV (b : Bool) : VP := fun v _ => (b = true → ∃ a, v = .ref a) ∧ (b = false → v = .non)
instance (b : Bool) : Mono (FV b) := ⟨fun _ h => h⟩
def preFac (K : PySem.W.Frag) (CS CY : Addr) (vs : List V) (H : Hp) (S : VP) : Prop := ∃ (p : Int) (n M L : Nat) (eqs : List Poly) (f : Poly) (v0 v1 : V), vs = [v0, v1] ∧ Sm p n ∧ 1 ≤ n ∧ Sys K CS CY p n eqs v0 H ∧ D K (dPoly f) v1 H ∧ EqsOk p n M L eqs ∧ Wf p n L f ∧ M ≤ 1000 ∧ L ≤ 1000 ∧ S = FV (fol p n eqs f)
theorem sc_factors : FnScope ["system", "one", "space", "tables", "point", "wanted", "equation", "table", "number", "share", "_"] ["system", "one"] (defScope (top 28)) := ⟨rfl, rfl, rfl, by decide +kernel, rfl, by decide +kernel, by decide +kernel⟩
section
variable {P : Program} {w : World} {K : PySem.W.Frag} {mg : Str → Option Value} {base : Heap} {CS CY : Addr}
theorem cl_fac (T : Txt mg) (k : KSp K CS) (ky : KSy K CY) (d : DefAt K mg "factors" (top 28)) (c_value : Cl P w K mg base 3 "value" (Prom (preVal K CS))) (c_inverse : Cl P w K mg base 2 "inverse" (Prom (preInv K))) (c_polynomial_of : Cl P w K mg base 3 "polynomial_of" (Prom (prePoly K CS)))
    (c_points : ClM P w K mg base 2 CS "points" (Prom (prePoints K CS))) : Cl P w K mg base 4 "factors" (Prom (preFac K CS CY)) := by
  refine mkCl d (ps := ["system", "one"]) (fun _ _ _ _ _ _ us hl => match us, hl with | [_, _], _ => rfl) sc_factors ?_ fun f cdv A outer s H vs S Q E hr h q => ?_
  · rintro vs H S ⟨_, _, _, _, _, _, _, _, rfl, _⟩; rfl
  · obtain ⟨p, n, M, L, eqs, f, v0, v1, rfl, sm, hn, hsys, hf, ok, wf, hM, hL, rfl⟩ := h
    refine ⟨_, pss_cons (ps_set (i := 2) sc_factors.nd rfl (.inr rfl) (pe_fldK K (pv 0)))
      (pss_cons (ps_setLc (i := 3) rfl sc_factors.nd rfl rfl (sw_true rfl rfl rfl (by decide +kernel)) (pi_listK K (pe_fldK K (pv 0))) (blkOk_by (own := [("_", 10)]) (N := ["system", "one", "space", "tables", "point", "wanted", "equation", "table", "number", "share", "_"]) (sc := (defScope (top 28))) (by decide +kernel)) (fun _ _ _ _ _ => (pg_name (i := 10) sc_factors.nd rfl (.inl rfl))) (fun _ _ _ _ _ => pts_nil) (fun _ _ _ _ _ => (pe_lst pa_nil)))
      (pss_cons (ps_for PassesOwn.never rfl (pi_listK K (pe_km0 c_points k.cls hr (by decide) (pv 2))) (pg_name (i := 4) sc_factors.nd rfl (.inl rfl))
        (pss_cons (ps_set (i := 5) sc_factors.nd rfl (.inl rfl) (pe_k c_value hr (by decide) rfl (pa_cons (pv 2) (pa_cons (pv 1) (pa_cons (pv 4) pa_nil)))))
        (pss_cons (ps_for PassesOwn.never rfl (RZ.pi_zipA rfl T.zip (pa_cons (pe_fldK K (pv 0)) (pa_cons (pv 3) pa_nil))) (pg_tupK K (n := 2) (pgs_cons (pg_name (i := 6) sc_factors.nd rfl (.inl rfl)) (pgs_cons (pg_name (i := 7) sc_factors.nd rfl (.inl rfl)) pgs_nil)))
          (pss_cons (ps_set (i := 8) sc_factors.nd rfl (.inl rfl) (pe_k c_value hr (by decide) rfl (pa_cons (pv 2) (pa_cons (pv 6) (pa_cons (pv 4) pa_nil)))))
          (pss_cons (ps_set (i := 9) sc_factors.nd rfl (.inl rfl) pe_int)
          (pss_cons (ps_if (PW.pt (pw_and (pt_cmpR op_ne (pv 5) pe_int rfl) (pw_and1 (pt_cmpR op_ne (pv 8) pe_int rfl))))
            (pss_cons (ps_set (i := 9) sc_factors.nd rfl (.inl rfl) (pe_op op_mod (pe_op op_mul (pv 5) (pe_k c_inverse hr (by decide) rfl (pa_cons (pe_fldK K (pv 2)) (pa_cons (pv 8) pa_nil)))) (pe_fldK K (pv 2))))
            (pss_one (ps_set (i := 5) sc_factors.nd rfl (.inl rfl) pe_int)))
            pss_nil)
          (pss_one (ps_expr (pe_bm PySem.F.plainAttrs_list PySem.F.slot_list_append PySem.F.type_list_append mt_append (pv 7) (pa_cons (pv 9) pa_nil))))))))
        (pss_one (ps_if (pt_cmpR op_ne (pv 5) pe_int rfl)
          (pss_one (ps_ret pe_non))
          pss_nil)))))
      (pss_one (ps_ret (pe_lc rfl sc_factors.nd (pi_listK K (pv 3)) (blkOk_by (own := [("table", 7)]) (N := ["system", "one", "space", "tables", "point", "wanted", "equation", "table", "number", "share", "_"]) (sc := (defScope (top 28))) (by decide +kernel)) (fun _ _ _ _ _ => (pg_name (i := 7) sc_factors.nd rfl (.inl rfl))) (fun _ _ _ _ _ => pts_nil) (fun _ _ _ _ _ => (pe_k c_polynomial_of hr (by decide) rfl (pa_cons (pv 2) (pa_cons (pv 7) pa_nil))))))))), ?_⟩
    have := sm.lo
    have := sm.hi
    have hel := ok.1
    have lp := pts_small sm
    have hne : (pts p n).map dI ≠ [] := fun z => by
      have h1 := congrArg List.length z
      rw [List.length_map, pts_len] at h1
      have : 0 < p.toNat ^ n := Nat.pow_pos (by omega)
      simp at h1
      omega
    refine q_asg (ev_space ky (ev_var rfl hsys)) fun v2 H1 s1 hs => ?_
    have hsys1 : Sys K CS CY p n eqs v0 H1 := Mono.go s1 hsys
    obtain ⟨ay, dy, fy, spv, elv, rfl, hy1, hy2, hy3, hy4, hy5⟩ := id hsys1
    obtain ⟨ae, es, rfl, hes, hEs⟩ := dp_listT hy5
    have hesl : es.length = eqs.length := by rw [hEs.len, List.length_map]
    have evE : ∀ {σ : Slots} {H2 : Hp}, Same H1 H2 → σ[0]? = some (some (.ref ay)) → EV (tFld K (tVar 0) "equations") σ H2 (fun v H' => v = .ref ae ∧ SqL K H' ae es) := fun {σ H2} s h0 H3 e3 Q q => by
      refine ⟨_, h0, ay, CY, dy, fy, _, rfl, e3 _ _ (s _ _ hy1), ky.cls, ky.eqs, hy4, q _ H3 (Same.refl _) ⟨rfl, SqL.of (e3 _ _ (s _ _ hes))⟩⟩
    refine q_asg (ev_lcTabs (a0 := ae) (xs := es) (evE (Same.refl _) rfl) (by omega) (fun _ => rfl)) fun v3 H2 s2 hv3 => ?_
    obtain ⟨L0, ts, rfl, htl, hT⟩ := hv3
    have hs2 : Spc K CS p n v2 H2 := Mono.go s2 hs
    refine q_forLs (K := K) (ds := (pts p n).map dI) (ts := ts) (ev_points sm (ev_var rfl hs2)) (nl_dPts _) hne hT
      (fun i σ' H' => ∃ (y4 y5 y6 y7 y8 y9 : Option V), TabS H1 L0 ts (fun _ => i) H' ∧ ((pts p n).take i).all (okp p eqs f) = true ∧ σ' = [some (.ref ay), some v1, some v2, some (.ref L0), y4, y5, y6, y7, y8, y9, none]) ?_ (fun H3 s3 => ⟨_, _, _, _, _, _, hT.up s3, rfl, rfl⟩) ?_
    · rintro H3 s3 i dd xv σ' H' hx sS ⟨y4, y5, y6, y7, y8, y9, mT, hall, rfl⟩ dx
      have hi := (List.getElem?_eq_some_iff.mp hx).1
      rw [List.length_map] at hi
      rw [List.getElem?_map] at hx
      obtain ⟨x, hxm, rfl⟩ := Option.map_eq_some_iff.mp hx
      have hxl := (pts_mem p n x (List.mem_of_getElem? hxm)).1
      have sB := mT.same
      have hs' : Spc K CS p n v2 H' := Mono.go sB hs
      have hf' : D K (dPoly f) v1 H' := Mono.go (s1.trans sB) hf
      refine q_asg (P := D K (.int (val p f x))) (ev_call (eva_cons (P := Spc K CS p n) (ev_var rfl hs') (eva_cons (P := D K (dPoly f)) (ev_var rfl hf') (eva_cons (P := D K (dI x)) (ev_var rfl dx) eva_nil))) ?_) fun v5 H4 s4 hv5 => ?_
      · intro vs H5 s5 ps
        obtain ⟨u1, u2, u3, rfl, a1, a2, a3⟩ := allP3 ps
        exact ⟨p, n, L, f, x, u1, u2, u3, rfl, sm, a1, a2, a3, hxl, wf, hL, rfl⟩
      obtain rfl := dp_int hv5
      have mT4 := mT.up s4
      have dx4 : Tp K H4 xv (dI x) := Tp.same s4 _ _ dx
      -- the equations and the tables side by side
      refine q_forZ2 (K := K) (Ps := [fun v H' => v = .ref ae ∧ SqL K H' ae es, fun v H' => v = .ref L0 ∧ Same H4 H']) ?_ fun vs H5 s5 ps E' hE' => ?_
      · intro H6 e6 Q hq
        exact evE (sB.trans s4) rfl H6 e6 _ fun v H7 e7 pv => ⟨_, rfl, hq _ H7 e7 ⟨pv, ⟨rfl, e6.trans e7⟩, True.intro⟩⟩
      · obtain ⟨u1, u2, rfl, ⟨rfl, _⟩, rfl, _⟩ := allP2 ps
        have mT5 := mT4.up s5
        have dx5 : Tp K H5 xv (dI x) := Tp.same s5 _ _ dx4
        refine ⟨ae, L0, es, ts.map V.ref, rfl, .inl ⟨SqL.of (mT5.same _ _ hes), SqL.of mT5.at_, ?_⟩⟩
        refine RZ.for_zipL (xs := es) (ys := ts.map V.ref) (by rw [List.length_map, htl]) (fun j σ' H6 => ∃ (y6 y7 y8 y9 : Option V), SameS ts H5 H6 ∧ TabS H1 L0 ts (fun t => if t < j then i + 1 else i) H6 ∧ σ' = [some (.ref ay), some v1, some v2, some (.ref L0), some xv, some (.int (wan p x (val p f x) (eqs.take j))), y6, y7, y8, y9, none])
          ⟨_, _, _, _, SameS.refl _ _, mT5, rfl⟩ (fun j σ' H6 ⟨_, _, _, _, _, m6, _⟩ => ⟨SqL.of (m6.same _ _ hes), SqL.of m6.at_⟩) ?_ ?_
        · subst hE'
          rintro j ev tv T σ' H6 hje hjt ⟨y6, y7, y8, y9, sS6, m6, rfl⟩ nT
          rw [List.getElem?_map] at hjt
          obtain ⟨t, hjt2, rfl⟩ := Option.map_eq_some_iff.mp hjt
          have hjt := hjt2
          obtain ⟨gd, hgd, hge⟩ := hEs.at hje
          rw [List.getElem?_map] at hgd
          obtain ⟨gq, hgq, rfl⟩ := Option.map_eq_some_iff.mp hgd
          have hjl := (List.getElem?_eq_some_iff.mp hgq).1
          have s7 : Same H6 (upd H6 T (.tup [ev, .ref t])) := same_new nT
          have m7 := m6.up s7
          have dx7 : Tp K (upd H6 T (.tup [ev, .ref t])) xv (dI x) := Tp.same s7 _ _ (dp_S mT5.notup sS6 _ _ (nl_dI x) dx5)
          refine g_two (SqT.of upd_same) ?_
          have hs7 : Spc K CS p n v2 (upd H6 T (.tup [ev, .ref t])) := Mono.go m7.same hs
          have hg7 : D K (dPoly gq) ev (upd H6 T (.tup [ev, .ref t])) := Mono.go (P := D K (dPoly gq)) m7.same hge
          refine q_asg (P := D K (.int (val p gq x))) (ev_call (eva_cons (P := Spc K CS p n) (ev_var rfl hs7) (eva_cons (P := D K (dPoly gq)) (ev_var rfl hg7) (eva_cons (P := D K (dI x)) (ev_var rfl dx7) eva_nil))) ?_) fun v8 H8 s8 hv8 => ?_
          · intro vs H9 s9 ps
            obtain ⟨u1, u2, u3, rfl, a1, a2, a3⟩ := allP3 ps
            exact ⟨p, n, L, gq, x, u1, u2, u3, rfl, sm, a1, a2, a3, hxl, ok.2 gq (List.mem_of_getElem? hgq), hL, rfl⟩
          obtain rfl := dp_int hv8
          refine q_asg (P := D K (.int 0)) ev_int fun v9 H9 s9 hv9 => ?_
          obtain rfl := dp_int hv9
          have hw := wan_lo sm.lo x f (eqs.take j)
          have hstep := wan_step p x (val p f x) (eqs.take j) gq
          rw [show eqs.take j ++ [gq] = eqs.take (j + 1) by rw [List.take_add_one, hgq]; rfl] at hstep
          have hvg := val_lo sm.lo gq x
          have hs9 : Spc K CS p n v2 H9 := Mono.go (s8.trans s9) hs7
          generalize wan p x (val p f x) (eqs.take j) = w0 at hw hstep
          refine q_ifR (fun σ' Ha => ∃ (sh : Int), Same H9 Ha ∧ σ' = [some (.ref ay), some v1, some v2, some (.ref L0), some xv, some (.int (wan p x (val p f x) (eqs.take (j + 1)))), some ev, some (.ref t), some (.int (val p gq x)), some (.int sh), none])
            (evt_and (evt_test (K := K) (ev_neI (ev_vi rfl) ev_int)) fun _ => evt_test (K := K) (ev_neI (ev_vi rfl) ev_int)) (fun hb Ha sa N hN => ?_) (fun hb Ha sa N hN => ?_) ?_
          · rw [hb, if_pos rfl] at hstep
            refine q_asg (P := D K (.int (w0 * rn p (val p gq x) (p - 2).toNat % p))) (ev_iiC (f := fun i j => i % j) (ev_iiC (f := fun i j => i * j) (ev_vi rfl) (ev_call (S := D K (.int (rn p (val p gq x) (p - 2).toNat))) (eva_cons (ev_prime k (ev_var rfl (Mono.go sa hs9))) (eva_cons (P := D K (.int (val p gq x))) (ev_vi rfl) eva_nil)) ?_) (.inl (by omega))) (ev_prime k (ev_var rfl (Mono.go sa hs9))) (by omega)) fun vb Hb sb hvb => ?_
            · intro vs Hc sc ps
              obtain ⟨u1, u2, rfl, a1, a2⟩ := allP2 ps
              rw [dp_int a1, dp_int a2]
              exact ⟨p, _, rfl, sm.lo, sm.hi, rfl⟩
            obtain rfl := dp_int hvb
            refine s_asg (P := D K (.int 0)) ev_int fun vc Hc sc hvc => ?_
            obtain rfl := dp_int hvc
            exact hN _ _ ⟨_, (sa.trans sb).trans sc, by rw [hstep]; rfl⟩
          · rw [hb, if_neg Bool.false_ne_true] at hstep
            exact hN _ _ ⟨0, sa, by rw [hstep]; rfl⟩
          rintro σ' Ha ⟨sh, sa, rfl⟩
          have ma := m7.up ((s8.trans s9).trans sa)
          obtain ⟨ns, hnt, hnl⟩ := ma.tab j t hjt
          rw [if_neg (Nat.lt_irrefl j)] at hnl
          refine s_app (P := D K (.int sh)) rfl hnt (by rw [List.length_map]; omega) (ev_vi (K := K) rfl) fun vb Hb sb hvb => ?_
          obtain rfl := dp_int hvb
          have mb := ma.up sb
          refine ⟨_, _, _, _, ?_, TabS.app mb hjt (sb _ _ hnt) (by rw [if_pos (Nat.lt_succ_self j)]; omega) (fun q hq => ?_), rfl⟩
          · exact (sS6.trans (same_S ((((s7.trans s8).trans s9).trans sa).trans sb))).trans (upd_S (List.mem_of_getElem? hjt))
          · by_cases h : q < j
            · rw [if_pos h, if_pos (by omega)]
            · rw [if_neg h, if_neg (by omega)]
        · subst hE'
          rintro σ' H6 ⟨y6, y7, y8, y9, sS6, m6, rfl⟩
          rw [hesl, List.take_length]
          have hwo := wan_ok p x eqs f
          have m6' : TabS H1 L0 ts (fun _ => i + 1) H6 := ⟨m6.na, m6.nt, m6.out, m6.nd, m6.same, m6.at_, fun j t h => by
            obtain ⟨ns, h1, h2⟩ := m6.tab j t h
            have := (List.getElem?_eq_some_iff.mp h).1
            exact ⟨ns, h1, by rw [h2, if_pos (by omega)]⟩⟩
          generalize wan p x (val p f x) eqs = w1 at hwo
          refine s_if (evt_test (K := K) (ev_neI (ev_vi rfl) ev_int)) (fun hb H7 s7 => ?_) (fun hb H7 s7 => ?_)
          · refine s_ret (P := Is .non) ev_is fun v H8 s8 hv8 => ?_
            obtain rfl : v = .non := hv8
            have hw0 : ¬ w1 = 0 := by simpa using hb
            have hfol : fol p n eqs f = false := by
              unfold fol
              rw [List.all_eq_false]
              exact ⟨x, List.mem_of_getElem? hxm, by rw [hwo]; simp [hw0]⟩
            refine q _ H8 (((s1.trans m6.same).trans s7).trans s8) ?_
            rw [hfol]
            exact ⟨fun z => (by cases z), fun _ => rfl⟩
          · have hw0 : w1 = 0 := by simpa using hb
            refine ⟨(sS.trans (same_S (s4.trans s5))).trans (sS6.trans (same_S s7)), _, _, _, _, _, _, m6'.up s7, ?_, rfl⟩
            rw [List.take_add_one, hxm, List.all_append, hall]
            show (true && (okp p eqs f x && true)) = true
            rw [hwo]; simp [hw0]
    · rintro σ' H' ⟨y4, y5, y6, y7, y8, y9, mT, hall, rfl⟩
      rw [List.length_map] at mT hall
      rw [List.take_length] at hall
      have hfol : fol p n eqs f = true := hall
      have htl' : ts.length = eqs.length := by omega
      refine s_ret (ev_lcAny (K := K) (a0 := L0) (xs := ts.map V.ref) ((ev_var (i := 3) (P := fun v Hq => v = .ref L0 ∧ Same H' Hq) (m := ⟨fun e h => ⟨h.1, h.2.trans e⟩⟩) rfl ⟨rfl, Same.refl _⟩).imp fun v Hq _ h => ⟨h.1, SqL.of (h.2 _ _ mT.at_)⟩) (by rw [List.length_map]; omega) (fun _ => rfl) fun j xv Hq hj sq => ?_) fun v H5 s5 hv5 => ?_
      · rw [List.getElem?_map] at hj
        obtain ⟨t, hj2, rfl⟩ := Option.map_eq_some_iff.mp hj
        obtain ⟨ns, h1, h2⟩ := mT.tab j t hj2
        refine ev_call (eva_cons (P := Spc K CS p n) (ev_var rfl (Mono.go (mT.same.trans sq) hs)) (eva_cons (P := D K (dL ns)) (ev_var rfl (dp_new_list (sq _ _ h1) (dpAll_ints ns))) eva_nil)) ?_
        intro vs H6 s6 ps
        obtain ⟨u1, u2, rfl, a1, a2⟩ := allP2 ps
        exact ⟨p, n, ns, u1, u2, rfl, sm, hn, a1, a2, h2, rfl⟩
      · refine q v H5 ((s1.trans mT.same).trans s5) ?_
        rw [hfol]
        exact ⟨fun _ => hv5, fun z => (by cases z)⟩
end
end SPw
namespace SPw
open PySem PySem.Spec PyProof.Rows L2
/-! systems -/
mutual
/-- data that does not meet an instance at L -/
theorem dp_I {K : PySem.W.Frag} {L : Addr} {H H' : Hp} {C dx : Addr} {fs : List (Str × V)} (hp : H L = some (.ins C dx fs)) (e : SameO L H H') : ∀ (d : PyData) (v : V), Tp K H v d → Tp K H' v d
  | .none, _, h => by cases h; exact .non
  | .bool _, _, h => by cases h; exact .bl _
  | .int _, _, h => by cases h; exact .int _
  | .str _, _, h => by cases h; exact .str _
  | .list ds, _, h => by
    cases h with
    | @lst a xs _ hs ha => exact .lst (e _ _ (fun z => by subst z; rw [hp] at hs; cases hs) hs) (dpAll_I hp e ds _ ha)
  | .dict _, _, h => by cases h
  | .tuple ds, _, h => by
    cases h with
    | @tup a xs _ hs ha => exact .tup (e _ _ (fun z => by subst z; rw [hp] at hs; cases hs) hs) (dpAll_I hp e ds _ ha)
theorem dpAll_I {K : PySem.W.Frag} {L : Addr} {H H' : Hp} {C dx : Addr} {fs : List (Str × V)} (hp : H L = some (.ins C dx fs)) (e : SameO L H H') : ∀ (ds : List PyData) (vs : List V), TpAll K H vs ds → TpAll K H' vs ds
  | [], _, h => by cases h; exact .nil
  | d :: ds, _, h => by
    cases h with
    | cons h1 h2 => exact .cons (dp_I hp e d _ h1) (dpAll_I hp e ds _ h2)
end
theorem same_makes {H : Hp} {x dx : Addr} {o1 o2 : HO} (hx : H x = none) (hd : H dx = none) : Same H (upd (upd H dx o1) x o2) := fun b u h => by
  rw [upd_ne (ne_of_none h hx), upd_ne (ne_of_none h hd)]; exact h
def spSysInit (K : PySem.W.Frag) (CS CY : Addr) : Sp := fun vs H Q _ => ∃ (x dx : Addr) (p : Int) (n : Nat) (eqs : List Poly) (v1 v2 : V), vs = [.ref x, v1, v2] ∧ H x = some (.ins CY dx []) ∧ Spc K CS p n v1 H ∧ D K (dEqs eqs) v2 H ∧ ∀ H', SameO x H H' → Sys K CS CY p n eqs (.ref x) H' → Q .non H'
theorem sc_sysInit : FnScope ["self", "space", "equations"] ["self", "space", "equations"] (defScope (inClass (top 27) 0)) := ⟨rfl, rfl, rfl, by decide +kernel, rfl, by decide +kernel, by decide +kernel⟩
def dX (is : List Nat) : PyData := .list (is.map fun (i : Nat) => .int (i : Int))
def sel (eqs : List Poly) (is : List Nat) : List Poly := is.map fun i => eqs.getD i []
def rem (is : List Nat) (i : Nat) : List Nat := is.filter fun k => !decide (k = i)
theorem rem_mem {is : List Nat} {i k : Nat} (h : k ∈ rem is i) : k ∈ is := (List.mem_filter.mp h).1
theorem sel_ok {p : Int} {n M L : Nat} {eqs : List Poly} {is : List Nat} (ok : EqsOk p n M L eqs) (h : ∀ i ∈ is, i < eqs.length) : EqsOk p n is.length L (sel eqs is) := ⟨by unfold sel; rw [List.length_map]; exact Nat.le_refl _, fun f hf => by
  obtain ⟨i, hi, rfl⟩ := List.mem_map.mp hf
  have hl := h i hi
  rw [getD_in hl]
  exact ok.2 _ (List.getElem_mem hl)⟩
def preCho (K : PySem.W.Frag) (CS CY : Addr) (vs : List V) (H : Hp) (S : VP) : Prop := ∃ (p : Int) (n : Nat) (eqs : List Poly) (is : List Nat) (v0 v1 : V), vs = [v0, v1] ∧ Sys K CS CY p n eqs v0 H ∧ D K (dX is) v1 H ∧ (∀ i ∈ is, i < eqs.length) ∧ is.length ≤ 1000 ∧ S = Sys K CS CY p n (sel eqs is)
def flw (p : Int) (n : Nat) (eqs : List Poly) (is : List Nat) (i : Nat) : Bool := fol p n (sel eqs (rem is i)) (eqs.getD i [])
def preFlw (K : PySem.W.Frag) (CS CY : Addr) (vs : List V) (H : Hp) (S : VP) : Prop := ∃ (p : Int) (n M L : Nat) (eqs : List Poly) (i : Nat) (is : List Nat) (v0 v2 : V), vs = [v0, .int (i : Int), v2] ∧ Sm p n ∧ 1 ≤ n ∧ Sys K CS CY p n eqs v0 H ∧ EqsOk p n M L eqs ∧ M ≤ 1000 ∧ L ≤ 1000 ∧ i < eqs.length ∧ D K (dX is) v2 H ∧ (∀ i ∈ is, i < eqs.length) ∧ is.length ≤ 1000 ∧ S = D K (.bool (flw p n eqs is i))
def preNeed (K : PySem.W.Frag) (CS CY : Addr) (vs : List V) (H : Hp) (S : VP) : Prop := ∃ (p : Int) (n M L : Nat) (eqs : List Poly) (i : Nat) (v0 : V), vs = [v0, .int (i : Int)] ∧ Sm p n ∧ 1 ≤ n ∧ Sys K CS CY p n eqs v0 H ∧ EqsOk p n M L eqs ∧ M ≤ 1000 ∧ L ≤ 1000 ∧ i < eqs.length ∧ S = D K (.bool (flw p n eqs (List.range eqs.length) i))
def stepL (p : Int) (n : Nat) (eqs : List Poly) (ks : List Nat) (i : Nat) : List Nat := if flw p n eqs ks i = true then rem ks i else ks
def leanF (p : Int) (n : Nat) (eqs : List Poly) : List Nat := (List.range eqs.length).foldl (stepL p n eqs) (List.range eqs.length)
def preLean (K : PySem.W.Frag) (CS CY : Addr) (vs : List V) (H : Hp) (S : VP) : Prop := ∃ (p : Int) (n M L : Nat) (eqs : List Poly) (v0 : V), vs = [v0] ∧ Sm p n ∧ 1 ≤ n ∧ Sys K CS CY p n eqs v0 H ∧ EqsOk p n M L eqs ∧ M ≤ 1000 ∧ L ≤ 1000 ∧ S = D K (dX (leanF p n eqs))
section
variable {K : PySem.W.Frag} {σ : Slots} {H : Hp} {ta tb : TE} {CS CY : Addr} {p : Int} {n : Nat} {eqs : List Poly}
theorem ev_system (ha : EV ta σ H (Spc K CS p n)) (hb : EV tb σ H (D K (dEqs eqs))) : EV (tMake CY (spSysInit K CS CY) [] E0 (tCons ta (tCons tb tNil))) σ H (Sys K CS CY p n eqs) := fun H1 e1 Q q =>
  (eva_cons ha (eva_cons hb eva_nil)) H1 e1 _ fun vs H2 e2 ps x dx hx hd _ => by
    obtain ⟨u1, u2, rfl, a1, a2⟩ := allP2 ps
    have s := same_makes (o1 := .own x) (o2 := .ins CY dx []) hx hd
    refine ⟨x, dx, p, n, eqs, u1, u2, rfl, upd_same, Mono.go s a1, Mono.go s a2, fun H' sO hS => ⟨rfl, q _ H' ?_ hS⟩⟩
    exact e2.trans fun b u h => sO _ _ (ne_of_none h hx) (s _ _ h)
theorem ev_rgM {te : TE} {m : Nat} (h : EV te σ H (D K (.int (m : Int)))) (hm : m < 1000000) : EV (tLstRg (tRg1 te)) σ H (MadeV K H ((List.range m).map fun (i : Nat) => .int (i : Int))) := fun H1 e1 Q q =>
  h H1 e1 _ fun v H2 e2 pv => by
    obtain rfl := dp_int pv
    refine ⟨m, rfl, RgOk.of_le (Int.le_refl _) (by omega) (by decide) (by omega), fun l nl => q _ _ (e2.trans (same_new nl)) ⟨l, rfl, Made.down (H0 := H2) ⟨nl, same_new nl, _, upd_same, ?_⟩ (e1.trans e2)⟩⟩
    unfold rgV
    rw [show ((m : Int) - 0).toNat = m by omega]
    have h : ∀ (H : Hp) (l : List Nat), TpAll K H (l.map fun (i : Nat) => V.int (0 + (i : Int))) (l.map fun (i : Nat) => PyData.int (i : Int)) := fun H l => by
      induction l with
      | nil => exact .nil
      | cons a l ih => exact .cons (by show Tp K H (V.int (0 + (a : Int))) (PyData.int (a : Int)); rw [Int.zero_add]; exact .int _) ih
    exact h _ _
theorem ev_rgL {te : TE} {m : Nat} (h : EV te σ H (D K (.int (m : Int)))) (hm : m < 1000000) : EV (tLstRg (tRg1 te)) σ H (D K (dX (List.range m))) := fun H1 e1 Q q =>
  h H1 e1 _ fun v H2 e2 pv => by
    obtain rfl := dp_int pv
    refine ⟨m, rfl, ?_, fun l nl => q _ _ (e2.trans (same_new nl)) (dp_new_list upd_same ?_)⟩
    · exact RgOk.of_le (Int.le_refl _) (by omega) (by decide) (by omega)
    · unfold rgV
      rw [show ((m : Int) - 0).toNat = m by omega]
      have h : ∀ (H : Hp) (l : List Nat), TpAll K H (l.map fun (i : Nat) => V.int (0 + (i : Int))) (l.map fun (i : Nat) => PyData.int (i : Int)) := fun H l => by
        induction l with
        | nil => exact .nil
        | cons a l ih => exact .cons (by show Tp K H (V.int (0 + (a : Int))) (PyData.int (a : Int)); rw [Int.zero_add]; exact .int _) ih
      exact h _ _
end
theorem sc_chosen : FnScope ["system", "indexes", "index"] ["system", "indexes"] (defScope (top 30)) := ⟨rfl, rfl, rfl, by decide +kernel, rfl, by decide +kernel, by decide +kernel⟩
theorem sc_follows_from : FnScope ["system", "index", "indexes", "k"] ["system", "index", "indexes"] (defScope (top 31)) := ⟨rfl, rfl, rfl, by decide +kernel, rfl, by decide +kernel, by decide +kernel⟩
theorem sc_is_needless : FnScope ["system", "index"] ["system", "index"] (defScope (top 32)) := ⟨rfl, rfl, rfl, by decide +kernel, rfl, by decide +kernel, by decide +kernel⟩
theorem sc_lean : FnScope ["system", "kept", "index"] ["system"] (defScope (top 33)) := ⟨rfl, rfl, rfl, by decide +kernel, rfl, by decide +kernel, by decide +kernel⟩
section
variable {P : Program} {w : World} {K : PySem.W.Frag} {mg : Str → Option Value} {base : Heap} {CS CY : Addr}
theorem ok_sysInit {f : Addr} {fd : FuncData} (F : Fun K "__init__" "System.__init__" (inClass (top 27) 0) f fd) (T : Txt mg) (ky : KSy K CY) : FnOk P w K mg base CX0 1 f fd ["self", "space", "equations"] (spSysInit K CS CY) := by
  refine F.ok sc_sysInit (fun vs H Q E h => ?_) (fun cdv A outer s H vs Q E hr h => ?_)
  · obtain ⟨_, _, _, _, _, _, _, rfl, _⟩ := h
    rfl
  · obtain ⟨x, dx, p, n, eqs, v1, v2, rfl, hx, hs, he, q⟩ := h
    refine ⟨_, pss_cons (ps_fld (pv 0) (pv 1) rfl) (pss_one (ps_fld (pv 0) (pe_callTy (cr_listK K) rfl T.list rfl (pa_cons (pv 2) pa_nil)) rfl)), ?_⟩
    refine ⟨v1, rfl, .ref x, rfl, x, CY, dx, [], rfl, hx, ky.cls, ky.space, by decide, ?_⟩
    have s1 : SameO x H (upd H x (.ins CY dx (putF "space" v1 []))) := upd_O
    refine (ev_lstLN (K := K) (ds := eqs.map dPoly) (ev_var rfl (dp_I hx s1 _ _ he))).go fun v H2 s2 hv => ?_
    refine ⟨.ref x, rfl, x, CY, dx, _, rfl, s2 _ _ upd_same, ky.cls, ky.eqs, (by show 1 < 1000; decide), ?_⟩
    have h2x : H2 x = some (.ins CY dx (putF "space" v1 [])) := s2 _ _ upd_same
    have s3 : SameO x H2 (upd H2 x (.ins CY dx (putF "equations" v (putF "space" v1 [])))) := upd_O
    have sA : SameO x H (upd H2 x (.ins CY dx (putF "equations" v (putF "space" v1 [])))) := (s1.trans (same_O s2)).trans s3
    refine q _ sA ⟨x, dx, _, v1, v, rfl, upd_same, ?_, ?_, ?_, dp_I h2x s3 _ _ hv.d⟩
    · rw [lookup_putF, if_neg (by decide +kernel), lookup_putF, if_pos rfl]
    · obtain ⟨b, dy, fs, rfl, h1, h3, h4, h5⟩ := hs
      refine ⟨b, dy, fs, rfl, sA _ _ (fun z => ?_) h1, h3, h4, h5⟩
      subst z
      rw [hx] at h1
      cases h1
      cases h3
    · rw [lookup_putF, if_pos rfl]
theorem cl_cho (T : Txt mg) (ky : KSy K CY) (d : DefAt K mg "chosen" (top 30)) (c_System : ClK P w K mg base 1 CY "System" (spSysInit K CS CY)) : Cl P w K mg base 3 "chosen" (Prom (preCho K CS CY)) := by
  refine mkCl d (ps := ["system", "indexes"]) (fun _ _ _ _ _ _ us hl => match us, hl with | [_, _], _ => rfl) sc_chosen ?_ fun f cdv A outer s H vs S Q E hr h q => ?_
  · rintro vs H S ⟨_, _, _, _, _, _, rfl, _⟩; rfl
  · obtain ⟨p, n, eqs, is, v0, v1, rfl, hs, hi, hlt, hl, rfl⟩ := h
    refine ⟨_, pss_one (ps_ret (pe_kc c_System hr (by decide) rfl (pa_cons (pe_fldK K (pv 0)) (pa_cons (pe_lc rfl sc_chosen.nd (pi_listK K (pv 1)) (blkOk_by (own := [("index", 2)]) (N := ["system", "indexes", "index"]) (sc := (defScope (top 30))) (by decide +kernel)) (fun _ _ _ _ _ => (pg_name (i := 2) sc_chosen.nd rfl (.inl rfl))) (fun _ _ _ _ _ => pts_nil) (fun _ _ _ _ _ => (pe_ix (ix_listK K) (pe_fldK K (pv 0)) (pv 2) (fun _ _ => rfl)))) pa_nil)))), ?_⟩
    refine s_ret (ev_system (K := K) (CS := CS) (p := p) (n := n) (eqs := sel eqs is) (ev_space ky (ev_var rfl hs)) ?_) fun v H2 s2 hv2 => q v H2 s2 hv2
    refine (ev_lcL (xs := is) (enc := fun (i : Nat) => .int (i : Int)) (p := fun _ => true) (e := fun i => dPoly (eqs.getD i [])) (ev_var rfl hi) (by omega) (fun _ => nl_dPoly _) ?_).eqD (by rw [gath_all]; unfold dEqs sel; rw [List.map_map]; rfl)
    intro i him x H3 s3 hx
    obtain rfl := dp_int hx
    have hl := hlt i him
    exact item_name rfl evt_yes fun _ => ev_ixL (ds := eqs.map dPoly) (k := i) (ev_eqs ky (ev_var rfl (Mono.go s3 hs))) (ev_vi rfl) rfl (by rw [List.getElem?_map, List.getElem?_eq_getElem hl, getD_in hl]; rfl)
theorem cl_flw (T : Txt mg) (ky : KSy K CY) (d : DefAt K mg "follows_from" (top 31)) (c_chosen : Cl P w K mg base 3 "chosen" (Prom (preCho K CS CY))) (c_factors : Cl P w K mg base 4 "factors" (Prom (preFac K CS CY))) : Cl P w K mg base 5 "follows_from" (Prom (preFlw K CS CY)) := by
  refine mkCl d (ps := ["system", "index", "indexes"]) (fun _ _ _ _ _ _ us hl => match us, hl with | [_, _, _], _ => rfl) sc_follows_from ?_ fun f cdv A outer s H vs S Q E hr h q => ?_
  · rintro vs H S ⟨_, _, _, _, _, _, _, _, _, rfl, _⟩; rfl
  · obtain ⟨p, n, M, L, eqs, i, is, v0, v2, rfl, sm, hn, hs, ok, hM, hL, hil, hi, hlt, hl, rfl⟩ := h
    refine ⟨_, pss_one (ps_ret (pe_cmpR op_notN (pe_k c_factors hr (by decide) rfl (pa_cons (pe_k c_chosen hr (by decide) rfl (pa_cons (pv 0) (pa_cons (pe_lc rfl sc_follows_from.nd (pi_listK K (pv 2)) (blkOk_by (own := [("k", 3)]) (N := ["system", "index", "indexes", "k"]) (sc := (defScope (top 31))) (by decide +kernel)) (fun _ _ _ _ _ => (pg_name (i := 3) sc_follows_from.nd rfl (.inl rfl))) (fun _ _ _ _ _ => (pts_one (pt_cmpR op_ne (pv 3) (pv 1) rfl))) (fun _ _ _ _ _ => (pv 3))) pa_nil))) (pa_cons (pe_ix (ix_listK K) (pe_fldK K (pv 0)) (pv 1) (fun _ _ => rfl)) pa_nil))) pe_non rfl)), ?_⟩
    have hrl : (rem is i).length ≤ is.length := List.length_filter_le _ _
    have hrm : ∀ k ∈ rem is i, k < eqs.length := fun k hk => hlt k (rem_mem hk)
    refine s_ret (P := D K (.bool (flw p n eqs is i))) (ev_op (P := FV (flw p n eqs is i)) (R := Is .non) (ev_call (eva_cons (P := Sys K CS CY p n (sel eqs (rem is i))) (ev_call (eva_cons (P := Sys K CS CY p n eqs) (ev_var rfl hs) (eva_cons (P := D K (dX (rem is i))) ?_ eva_nil)) ?_) (eva_cons (P := D K (dPoly (eqs.getD i []))) (ev_ixL (ds := eqs.map dPoly) (k := i) (ev_eqs ky (ev_var rfl hs)) (ev_vi rfl) rfl (by rw [List.getElem?_map, List.getElem?_eq_getElem hil, getD_in hil]; rfl)) eva_nil)) ?_) ev_is ?_) fun v H2 s2 hv2 => q v H2 s2 hv2
    · refine (ev_lcL (xs := is) (enc := fun (k : Nat) => .int (k : Int)) (p := fun k => !decide (k = i)) (e := fun (k : Nat) => .int (k : Int)) (ev_var rfl hi) (by omega) (fun _ => rfl) ?_)
      intro k hk x H3 s3 hx
      obtain rfl := dp_int hx
      exact item_name rfl ((evt_test (K := K) (ev_neI (ev_vi rfl) (ev_vi rfl))).to (by rw [show decide ((k : Int) = (i : Int)) = decide (k = i) from decide_eq_decide.mpr Int.natCast_inj])) fun _ => ev_vi rfl
    · intro vs H3 s3 ps
      obtain ⟨u1, u2, rfl, a1, a2⟩ := allP2 ps
      exact ⟨p, n, eqs, rem is i, u1, u2, rfl, a1, a2, hrm, by omega, rfl⟩
    · intro vs H3 s3 ps
      obtain ⟨u1, u2, rfl, a1, a2⟩ := allP2 ps
      have ok2 := sel_ok ok hrm
      exact ⟨p, n, (rem is i).length, L, sel eqs (rem is i), eqs.getD i [], u1, u2, rfl, sm, hn, a1, a2, ok2, by rw [getD_in hil]; exact ok.2 _ (List.getElem_mem hil), by omega, hL, rfl⟩
    · intro x y H3 s3 px py Q2 q2
      obtain rfl : y = .non := py
      refine ⟨rfl, q2 _ H3 (Same.refl _) ?_⟩
      cases hb : flw p n eqs is i with
      | true =>
        obtain ⟨a, rfl⟩ := px.1 hb
        exact .bl true
      | false =>
        rw [px.2 hb]
        exact .bl false
theorem cl_need (T : Txt mg) (ky : KSy K CY) (d : DefAt K mg "is_needless" (top 32)) (c_follows_from : Cl P w K mg base 5 "follows_from" (Prom (preFlw K CS CY))) : Cl P w K mg base 6 "is_needless" (Prom (preNeed K CS CY)) := by
  refine mkCl d (ps := ["system", "index"]) (fun _ _ _ _ _ _ us hl => match us, hl with | [_, _], _ => rfl) sc_is_needless ?_ fun f cdv A outer s H vs S Q E hr h q => ?_
  · rintro vs H S ⟨_, _, _, _, _, _, _, rfl, _⟩; rfl
  · obtain ⟨p, n, M, L, eqs, i, v0, rfl, sm, hn, hs, ok, hM, hL, hil, rfl⟩ := h
    refine ⟨_, pss_one (ps_ret (pe_k c_follows_from hr (by decide) rfl (pa_cons (pv 0) (pa_cons (pv 1) (pa_cons (pe_listRg rfl rfl T.list (prg_1 rfl T.range (pe_callB (cr_lenK K) rfl T.len rfl (pa_cons (pe_fldK K (pv 0)) pa_nil)))) pa_nil))))), ?_⟩
    have hm := ok.1
    refine s_ret (P := D K (.bool (flw p n eqs (List.range eqs.length) i))) (ev_call (eva_cons (P := Sys K CS CY p n eqs) (ev_var rfl hs) (eva_cons (P := D K (.int (i : Int))) (ev_vi rfl) (eva_cons (P := D K (dX (List.range eqs.length))) (ev_rgL ((ev_lenL (ds := eqs.map dPoly) (ev_eqs ky (ev_var rfl hs))).eqD (by rw [List.length_map])) (by omega)) eva_nil))) ?_) fun v H2 s2 hv2 => q v H2 s2 hv2
    intro vs H3 s3 ps
    obtain ⟨u1, u2, u3, rfl, a1, a2, a3⟩ := allP3 ps
    rw [dp_int a2]
    exact ⟨p, n, M, L, eqs, i, _, u1, u3, rfl, sm, hn, a1, ok, hM, hL, hil, a3, fun k hk => List.mem_range.mp hk, by rw [List.length_range]; omega, rfl⟩
theorem map_era {α β : Type} (f : α → β) : ∀ (l : List α) (j : Nat), (l.eraseIdx j).map f = (l.map f).eraseIdx j
  | [], _ => rfl
  | _ :: _, 0 => rfl
  | a :: l, j + 1 => by
    rw [List.eraseIdx_cons_succ, List.map_cons, List.map_cons, List.eraseIdx_cons_succ, map_era f l j]
theorem rem_idx : ∀ {is : List Nat} {j i : Nat}, is.Nodup → is[j]? = some i → is.eraseIdx j = rem is i
  | [], j, i, _, h => by simp at h
  | a :: is, 0, i, nd, h => by
    have : a = i := by simpa using h
    subst this
    have hn := (List.nodup_cons.mp nd).1
    unfold rem
    rw [List.eraseIdx_cons_zero, List.filter_cons]
    simp only [decide_true, Bool.not_true, Bool.false_eq_true, if_false]
    rw [List.filter_eq_self.mpr fun k hk => by
      have : k ≠ a := fun z => hn (z ▸ hk)
      simp [this]]
  | a :: is, j + 1, i, nd, h => by
    have h' : is[j]? = some i := by simpa using h
    have nd' := List.nodup_cons.mp nd
    have hai : a ≠ i := fun z => nd'.1 (z ▸ List.mem_of_getElem? h')
    have ih := rem_idx nd'.2 h'
    unfold rem at ih ⊢
    rw [List.eraseIdx_cons_succ, List.filter_cons]
    simp only [hai, decide_false, Bool.not_false, if_true]
    rw [ih]
theorem stepL_sub {p : Int} {n : Nat} {eqs : List Poly} {ks : List Nat} {i : Nat} : ∀ k ∈ stepL p n eqs ks i, k ∈ ks := fun k hk => by
  unfold stepL at hk
  split at hk
  · exact rem_mem hk
  · exact hk
theorem cl_lean (T : Txt mg) (ky : KSy K CY) (d : DefAt K mg "lean" (top 33)) (c_follows_from : Cl P w K mg base 5 "follows_from" (Prom (preFlw K CS CY))) : Cl P w K mg base 6 "lean" (Prom (preLean K CS CY)) := by
  refine mkCl d (ps := ["system"]) (fun _ _ _ _ _ _ us hl => match us, hl with | [_], _ => rfl) sc_lean ?_ fun f cdv A outer s H vs S Q E hr h q => ?_
  · rintro vs H S ⟨_, _, _, _, _, _, rfl, _⟩; rfl
  · obtain ⟨p, n, M, L, eqs, v0, rfl, sm, hn, hs, ok, hM, hL, rfl⟩ := h
    refine ⟨_, pss_cons (ps_set (i := 1) sc_lean.nd rfl (.inl rfl) (pe_listRg rfl rfl T.list (prg_1 rfl T.range (pe_callB (cr_lenK K) rfl T.len rfl (pa_cons (pe_fldK K (pv 0)) pa_nil)))))
      (pss_cons (ps_for PassesOwn.never rfl (pi_range1 rfl T.range (pa_cons (pe_callB (cr_lenK K) rfl T.len rfl (pa_cons (pe_fldK K (pv 0)) pa_nil)) pa_nil)) (pg_name (i := 2) sc_lean.nd rfl (.inl rfl))
        (pss_one (ps_if (pt_val (pe_k c_follows_from hr (by decide) rfl (pa_cons (pv 0) (pa_cons (pv 2) (pa_cons (pv 1) pa_nil)))))
          (pss_one (ps_expr (pe_bm PySem.F.plainAttrs_list PySem.F.slot_list_remove PySem.F.type_list_remove mt_remove (pv 1) (pa_cons (pv 2) pa_nil))))
          pss_nil)))
      (pss_one (ps_ret (pv 1)))), ?_⟩
    have hm := ok.1
    refine q_asg (P := MadeV K H ((List.range eqs.length).map fun (i : Nat) => .int (i : Int))) (ev_rgM ((ev_lenL (ds := eqs.map dPoly) (ev_eqs ky (ev_var rfl hs))).eqD (by rw [List.length_map])) (by omega)) fun v H1 s1 hv => ?_
    obtain ⟨a, rfl, ma⟩ := hv
    refine q_forR (K := K) (n := (eqs.length : Int)) (eva_cons ((ev_lenL (ds := eqs.map dPoly) (ev_eqs ky (ev_var rfl (Mono.go s1 hs)))).eqD (by rw [List.length_map])) eva_nil) (by omega) (by omega)
      (fun i σ' H' => ∃ (y : Option V) (ks : List Nat), ks = ((List.range eqs.length).take i).foldl (stepL p n eqs) (List.range eqs.length) ∧ ks.Nodup ∧ (∀ k ∈ ks, k < eqs.length) ∧ (∀ k, i ≤ k → k < eqs.length → k ∈ ks) ∧ ks.length ≤ eqs.length ∧ Made K H a (ks.map fun (i : Nat) => .int (i : Int)) H' ∧ σ' = [some v0, some (.ref a), y]) (fun H2 s2 => ⟨_, _, rfl, List.nodup_range, fun k hk => List.mem_range.mp hk, fun k _ hk => List.mem_range.mpr hk, by show (List.range eqs.length).length ≤ _; rw [List.length_range]; exact Nat.le_refl _, ma.up s2, rfl⟩) ?_ ?_
    · rintro i σ' H' hi ⟨y, ks, hks, nd, hlt, hall, hkl, mk, rfl⟩
      have hin : i < eqs.length := by omega
      have hsE : Sys K CS CY p n eqs v0 H' := Mono.go mk.2.1 hs
      have hnext : ((List.range eqs.length).take (i + 1)).foldl (stepL p n eqs) (List.range eqs.length) = stepL p n eqs ks i := by
        rw [List.take_add_one, List.getElem?_range hin, List.foldl_append, ← hks]; rfl
      refine s_if (evt_B (K := K) (b := flw p n eqs ks i) (ev_call (eva_cons (P := Sys K CS CY p n eqs) (ev_var rfl hsE) (eva_cons (P := D K (.int (i : Int))) (ev_vi rfl) (eva_cons (P := D K (dX ks)) (ev_var rfl mk.seq) eva_nil))) ?_)) (fun hb H2 s2 => ?_) (fun hb H2 s2 => ?_)
      · intro vs H3 s3 ps
        obtain ⟨u1, u2, u3, rfl, a1, a2, a3⟩ := allP3 ps
        rw [dp_int a2]
        exact ⟨p, n, M, L, eqs, i, ks, u1, u3, rfl, sm, hn, a1, ok, hM, hL, hin, a3, hlt, by omega, rfl⟩
      · have hst : stepL p n eqs ks i = rem ks i := by unfold stepL; rw [if_pos hb]
        obtain ⟨j, hj, hje⟩ := List.getElem_of_mem (hall i (Nat.le_refl i) hin)
        have hj? : ks[j]? = some i := by rw [List.getElem?_eq_getElem hj, hje]
        have mk2 := mk.up s2
        obtain ⟨m1, m2, ys, m3, m4⟩ := mk2
        have hys : ys = (ks.map fun (i : Nat) => ((i : Nat) : Int)).map V.int := ints_dp (by rw [List.map_map]; exact m4)
        refine ⟨_, rfl, Or.inl ⟨rfl, _, Or.inl (Or.inl m3)⟩, _, rfl, a, ks.map fun (i : Nat) => ((i : Nat) : Int), (i : Int), j, rfl, rfl, by rw [m3, hys], by rw [List.getElem?_map, hj?]; rfl, fun q hq hz => ?_, ?_⟩
        · rw [List.getElem?_map] at hz
          obtain ⟨k', hk', hke⟩ := Option.map_eq_some_iff.mp hz
          have : k' = i := Int.natCast_inj.mp hke
          subst this
          have : q = j := (List.getElem?_inj (i := q) (j := j) (List.getElem?_eq_some_iff.mp hk').1 nd).mp (by rw [hk', hj?])
          omega
        · refine ⟨_, rem ks i, by rw [hnext, hst], List.Pairwise.filter _ nd, fun k hk => hlt k (rem_mem hk), fun k hk1 hk2 => List.mem_filter.mpr ⟨hall k (by omega) hk2, by simp; omega⟩, Nat.le_trans (List.length_filter_le _ _) hkl, ⟨m1, same_mut m2 m1, _, upd_same, ?_⟩, rfl⟩
          rw [← rem_idx nd hj?, ← map_era]
          have h : ∀ (H : Hp) (l : List Nat), TpAll K H ((l.map fun (i : Nat) => ((i : Nat) : Int)).map V.int) (l.map fun (i : Nat) => PyData.int (i : Int)) := fun H l => by
            induction l with
            | nil => exact .nil
            | cons a l ih => exact .cons (.int _) ih
          exact h _ _
      · have hst : stepL p n eqs ks i = ks := by unfold stepL; rw [if_neg (by rw [hb]; exact Bool.false_ne_true)]
        exact ⟨_, ks, by rw [hnext, hst], nd, hlt, fun k hk1 hk2 => hall k (by omega) hk2, hkl, mk.up s2, rfl⟩
    · rintro σ' H' ⟨y, ks, hks, nd, hlt, hall, hkl, mk, rfl⟩
      rw [Int.toNat_natCast, List.take_of_length_le (by rw [List.length_range]; exact Nat.le_refl _)] at hks
      subst hks
      exact s_ret (P := D K (dX (leanF p n eqs))) (ev_var rfl mk.seq) fun v H2 s2 hv2 => q v H2 (mk.2.1.trans s2) hv2
end
end SPw
namespace SPw
open PySem PySem.Spec PyProof.Rows L2
def jdg (p : Int) (n : Nat) (eqs : List Poly) (is : List Nat) : Bool := !(is.any fun i => flw p n eqs is i) && eqs.all fun f => fol p n (sel eqs is) f
def preJdg (K : PySem.W.Frag) (CS CY : Addr) (vs : List V) (H : Hp) (S : VP) : Prop := ∃ (p : Int) (n M L : Nat) (eqs : List Poly) (is : List Nat) (v0 v1 : V), vs = [v0, v1] ∧ Sm p n ∧ 1 ≤ n ∧ Sys K CS CY p n eqs v0 H ∧ EqsOk p n M L eqs ∧ M ≤ 1000 ∧ L ≤ 1000 ∧ D K (dX is) v1 H ∧ (∀ i ∈ is, i < eqs.length) ∧ is.Pairwise (· < ·) ∧ is.length ≤ 1000 ∧ S = D K (.bool (jdg p n eqs is))
section
variable {K : PySem.W.Frag} {σ : Slots} {H : Hp} {ti : TA} {te : TE}
/-- an if with nothing else -/
theorem q_ifN {b : Bool} {E : Ends} {tu tz : TS} {t : TT} (h : EVT t σ H b) (h1 : b = true → ∀ H1, Same H H1 → tu { E with nx := tz E } σ H1) (k : b = false → ∀ H1, Same H H1 → tz E σ H1) : tSeq (tIfS t tu tNext) tz E σ H := q_if h h1 fun hb H1 s => k hb H1 s
/-- over zip of two lists of ints -/
theorem ev_lcZ {as bs : List Int} {e : Int → Int → PyData} {j k : Nat} {vs : List Nat} (h : EVA ti σ H [D K (dL as), D K (dL bs)]) (hz : as.length < 1000000) (hnl : ∀ a b, nl (e a b) = true)
    (hw : ∀ x y, wipe (((wipe σ vs).set j (some x)).set k (some y)) vs = wipe σ vs) (he : ∀ a b H1, Same H H1 → EV te (((wipe σ vs).set j (some (.int a))).set k (some (.int b))) H1 (D K (e a b))) :
    EV (tLc (RZ.iZipA K ti) (gTup K 2 (gCons (gName j) (gCons (gName k) gNil))) tYes te vs) σ H (D K (.list ((as.zip bs).map fun t => e t.1 t.2))) := fun H0 e0 Q q =>
  h H0 e0 _ fun ws H1 e1 ps => by
    obtain ⟨u1, u2, rfl, p1, p2⟩ := allP2 ps
    obtain ⟨a, xs, rfl, hq, hA⟩ := dp_listT p1
    obtain ⟨b, ys, rfl, hr, hB⟩ := dp_listT p2
    have hxs := ints_dp hA
    have hys := ints_dp hB
    have hzl : (as.zip bs).length = min as.length bs.length := List.length_zip
    refine ⟨a, b, xs, ys, rfl, .inl ⟨SqL.of hq, SqL.of hr, fun L nL => ?_⟩⟩
    refine ⟨fun i m H' => m = (as.zip bs).length - i ∧ i ≤ (as.zip bs).length ∧ Made K H1 L (((as.zip bs).take i).map fun t => e t.1 t.2) H', ⟨_, rfl, Nat.zero_le _, nL, same_new nL, [], upd_same, .nil⟩, ?_⟩
    rintro i m H2 ⟨rfl, hi, md⟩
    have qx : SqL K H2 a xs := SqL.of (md.2.1 _ _ hq)
    have qy : SqL K H2 b ys := SqL.of (md.2.1 _ _ hr)
    by_cases hlt : i < (as.zip bs).length
    · have ha : i < as.length := by omega
      have hb : i < bs.length := by omega
      have hzi : (as.zip bs)[i]? = some (as[i], bs[i]) := by rw [List.getElem?_zip_eq_some]; exact ⟨List.getElem?_eq_getElem ha, List.getElem?_eq_getElem hb⟩
      have hxi : xs[i]? = some (.int as[i]) := by rw [hxs, List.getElem?_map, List.getElem?_eq_getElem ha]; rfl
      have hyi : ys[i]? = some (.int bs[i]) := by rw [hys, List.getElem?_map, List.getElem?_eq_getElem hb]; rfl
      refine .inr ⟨⟨xs, ys, _, _, qx, qy, hxi, hyi⟩, fun H3 => i + 1 ≤ (as.zip bs).length ∧ Made K H1 L (((as.zip bs).take (i + 1)).map fun t => e t.1 t.2) H3, fun H3 hh => ⟨_, by omega, rfl, hh.1, hh.2⟩, fun x H3 yl => ?_⟩
      obtain ⟨T, x', y', rfl, nT, rfl, f1, f2⟩ := yl
      have hx' : x' = .int as[i] := by
        have := f1 xs qx
        rw [hxi] at this
        exact (Option.some.inj this).symm
      have hy' : y' = .int bs[i] := by
        have := f2 ys qy
        rw [hyi] at this
        exact (Option.some.inj this).symm
      subst hx' hy'
      have s3 : Same H2 (upd H2 T (.tup [.int as[i], .int bs[i]])) := same_new nT
      refine g_two (SqT.of upd_same) ⟨hw _ _, ?_⟩
      dsimp only [tYes]
      rw [if_pos rfl]
      obtain ⟨m1, m2, zs, m3, m4⟩ := md.up s3
      refine (he as[i] bs[i] _ ((e0.trans e1).trans m2)).go fun y H4 e4 py => ?_
      have h4 : H4 L = some (.lst zs) := e4 _ _ m3
      have nls : nlAll (((as.zip bs).take i).map fun t => e t.1 t.2) = true := nlAll_iff.mpr fun d hd => by obtain ⟨t, _, rfl⟩ := List.mem_map.mp hd; exact hnl _ _
      refine ⟨zs, h4, Nat.lt_of_lt_of_le (by rw [m4.len, List.length_map, List.length_take]; omega) sizeL, hlt, m1, same_mut (m2.trans e4) m1, _, upd_same, ?_⟩
      rw [List.take_add_one, hzi, List.map_append]
      exact TpAll.app (dpAll_off (notup_lst h4) _ _ nls (m4.same e4)) (.cons (dp_off (notup_lst h4) _ _ (hnl _ _) py) .nil)
    · have e12 : i = (as.zip bs).length := by omega
      subst e12
      rw [List.take_length] at md
      have l1 := hA.len
      have l2 := hB.len
      rw [List.length_map] at l1 l2
      obtain ⟨m1, m2, zs, m3, m4⟩ := md
      exact .inl ⟨⟨xs, ys, qx, qy, by omega⟩, q _ H2 (e1.trans m2) (dp_new_list m3 m4)⟩
end
theorem zip_up : ∀ {is : List Nat}, is.Pairwise (· < ·) → ((is.zip (is.drop 1)).any fun t => decide (t.2 ≤ t.1)) = false
  | [], _ => rfl
  | [_], _ => rfl
  | a :: b :: is, h => by
    have h1 := List.pairwise_cons.mp h
    have ih := zip_up h1.2
    have hab := h1.1 b List.mem_cons_self
    show (decide (b ≤ a) || ((b :: is).zip is).any fun t => decide (t.2 ≤ t.1)) = false
    rw [decide_eq_false (by omega)]
    exact ih
theorem sc_judge_lean : FnScope ["system", "indexes", "small", "index", "here", "there", "one"] ["system", "indexes"] (defScope (top 34)) := ⟨rfl, rfl, rfl, by decide +kernel, rfl, by decide +kernel, by decide +kernel⟩
section
variable {P : Program} {w : World} {K : PySem.W.Frag} {mg : Str → Option Value} {base : Heap} {CS CY : Addr}
theorem cl_jdg (T : Txt mg) (ky : KSy K CY) (d : DefAt K mg "judge_lean" (top 34)) (c_follows_from : Cl P w K mg base 5 "follows_from" (Prom (preFlw K CS CY))) (c_chosen : Cl P w K mg base 3 "chosen" (Prom (preCho K CS CY))) (c_factors : Cl P w K mg base 4 "factors" (Prom (preFac K CS CY))) : Cl P w K mg base 6 "judge_lean" (Prom (preJdg K CS CY)) := by
  refine mkCl d (ps := ["system", "indexes"]) (fun _ _ _ _ _ _ us hl => match us, hl with | [_, _], _ => rfl) sc_judge_lean ?_ fun f cdv A outer s H vs S Q E hr h q => ?_
  · rintro vs H S ⟨_, _, _, _, _, _, _, _, rfl, _⟩; rfl
  · obtain ⟨p, n, M, L, eqs, is, v0, v1, rfl, sm, hn, hs, ok, hM, hL, hi, hlt, hinc, hl, rfl⟩ := h
    refine ⟨_, pss_cons (ps_if (pt_not (pt_val (pe_callB (cr_allK K) rfl T.all rfl (pa_cons (pe_lc rfl sc_judge_lean.nd (pi_listK K (pv 1)) (blkOk_by (own := [("index", 3)]) (N := ["system", "indexes", "small", "index", "here", "there", "one"]) (sc := (defScope (top 34))) (by decide +kernel)) (fun _ _ _ _ _ => (pg_name (i := 3) sc_judge_lean.nd rfl (.inl rfl))) (fun _ _ _ _ _ => pts_nil) (fun _ _ _ _ _ => (pe_chain op_le op_lt pe_int (pv 3) (pe_callB (cr_lenK K) rfl T.len rfl (pa_cons (pe_fldK K (pv 0)) pa_nil))))) pa_nil))))
        (pss_one (ps_ret pe_bl))
        pss_nil)
      (pss_cons (ps_if (pt_val (pe_callB (cr_anyK K) rfl T.any rfl (pa_cons (pe_lc rfl sc_judge_lean.nd (RZ.pi_zipA rfl T.zip (pa_cons (pv 1) (pa_cons (pe_slice (sl_listK K) (pv 1) (po_some pe_int) po_none) pa_nil))) (blkOk_by (own := [("here", 4), ("there", 5)]) (N := ["system", "indexes", "small", "index", "here", "there", "one"]) (sc := (defScope (top 34))) (by decide +kernel)) (fun _ _ _ _ _ => (pg_tupK K (n := 2) (pgs_cons (pg_name (i := 4) sc_judge_lean.nd rfl (.inl rfl)) (pgs_cons (pg_name (i := 5) sc_judge_lean.nd rfl (.inl rfl)) pgs_nil)))) (fun _ _ _ _ _ => pts_nil) (fun _ _ _ _ _ => (pe_cmpR op_ge (pv 4) (pv 5) rfl))) pa_nil)))
        (pss_one (ps_ret pe_bl))
        pss_nil)
      (pss_cons (ps_if (pt_val (pe_callB (cr_anyK K) rfl T.any rfl (pa_cons (pe_lc rfl sc_judge_lean.nd (pi_listK K (pv 1)) (blkOk_by (own := [("index", 3)]) (N := ["system", "indexes", "small", "index", "here", "there", "one"]) (sc := (defScope (top 34))) (by decide +kernel)) (fun _ _ _ _ _ => (pg_name (i := 3) sc_judge_lean.nd rfl (.inl rfl))) (fun _ _ _ _ _ => pts_nil) (fun _ _ _ _ _ => (pe_k c_follows_from hr (by decide) rfl (pa_cons (pv 0) (pa_cons (pv 3) (pa_cons (pv 1) pa_nil)))))) pa_nil)))
        (pss_one (ps_ret pe_bl))
        pss_nil)
      (pss_cons (ps_set (i := 2) sc_judge_lean.nd rfl (.inr rfl) (pe_k c_chosen hr (by decide) rfl (pa_cons (pv 0) (pa_cons (pv 1) pa_nil))))
      (pss_one (ps_ret (pe_callB (cr_allK K) rfl T.all rfl (pa_cons (pe_lc rfl sc_judge_lean.nd (pi_listK K (pe_fldK K (pv 0))) (blkOk_by (own := [("one", 6)]) (N := ["system", "indexes", "small", "index", "here", "there", "one"]) (sc := (defScope (top 34))) (by decide +kernel)) (fun _ _ _ _ _ => (pg_name (i := 6) sc_judge_lean.nd rfl (.inl rfl))) (fun _ _ _ _ _ => pts_nil) (fun _ _ _ _ _ => (pe_cmpR op_notN (pe_k c_factors hr (by decide) rfl (pa_cons (pv 2) (pa_cons (pv 6) pa_nil))) pe_non rfl))) pa_nil))))))), ?_⟩
    have hm := ok.1
    have hS : ∀ {H1 : Hp}, Same H H1 → Sys K CS CY p n eqs v0 H1 := fun s => Mono.go s hs
    have hI : ∀ {H1 : Hp}, Same H H1 → D K (dX is) v1 H1 := fun s => Mono.go s hi
    refine q_ifN (b := false) ((evt_not (evt_B (K := K) (ev_allL (ns := is.map fun (i : Nat) => decide ((0 : Int) ≤ (i : Int)) && decide ((i : Int) < (eqs.length : Int))) ?_))).to ?_) (fun hb => by cases hb) fun _ H1 s1 => ?_
    · refine (ev_lcL (xs := is) (enc := fun (i : Nat) => .int (i : Int)) (p := fun _ => true) (e := fun (i : Nat) => .bool (decide ((0 : Int) ≤ (i : Int)) && decide ((i : Int) < (eqs.length : Int)))) (ev_var rfl hi) (by omega) (fun _ => rfl) ?_).eqD (by rw [gath_all, List.map_map]; rfl)
      intro i him x H3 s3 hx
      obtain rfl := dp_int hx
      exact item_name rfl evt_yes fun _ => ev_chain (f := fun i j => decide (i ≤ j)) (g := fun i j => decide (i < j)) ev_int (ev_vi rfl) ((ev_lenL (ds := eqs.map dPoly) (ev_eqs ky (ev_var rfl (hS s3)))).eqD (by rw [List.length_map]))
    · rw [List.all_map]
      have : (is.all (id ∘ fun (i : Nat) => decide ((0 : Int) ≤ (i : Int)) && decide ((i : Int) < (eqs.length : Int)))) = true := by
        rw [List.all_eq_true]
        intro i him
        have := hlt i him
        show (decide ((0 : Int) ≤ (i : Int)) && decide ((i : Int) < (eqs.length : Int))) = true
        rw [decide_eq_true (by omega), decide_eq_true (by omega)]; rfl
      rw [this]; rfl
    refine q_ifN (b := false) ((evt_B (K := K) (ev_anyL (ns := ((is.map fun (i : Nat) => ((i : Nat) : Int)).zip ((is.drop 1).map fun (i : Nat) => ((i : Nat) : Int))).map fun t => decide (t.2 ≤ t.1)) ?_)).to ?_) (fun hb => by cases hb) fun _ H2 s2 => ?_
    · refine (ev_lcZ (K := K) (as := is.map fun (i : Nat) => ((i : Nat) : Int)) (bs := (is.drop 1).map fun (i : Nat) => ((i : Nat) : Int)) (e := fun a b => .bool (decide (b ≤ a))) (eva_cons ((ev_var (P := D K (dX is)) rfl (hI s1)).eqD (by unfold dX dL; rw [List.map_map]; rfl)) (eva_cons ((ev_slL (ds := is.map fun (i : Nat) => .int (i : Int)) (ev_var (P := D K (dX is)) rfl (hI s1)) (evo_some (K := K) ev_int) evo_none).ld.eqD ?_) eva_nil)) (by rw [List.length_map]; omega) (fun _ _ => rfl) (fun _ _ => rfl) fun a b H3 s3 => ev_cmp (f := fun i j => decide (j ≤ i)) (ev_vi rfl) (ev_vi rfl)).eqD ?_
      · have := cutD_lo (is.map fun (i : Nat) => PyData.int (i : Int)) 1
        rw [show ((1 : Nat) : Int) = 1 from rfl] at this
        rw [this]
        unfold dL
        rw [List.map_map, ← List.map_drop]; rfl
      · rw [List.map_map]; rfl
    · rw [List.any_map]
      have h := zip_up hinc
      rw [List.zip_map, List.any_map]
      rw [← h]
      congr 1
      funext t
      show decide (((t.2 : Nat) : Int) ≤ ((t.1 : Nat) : Int)) = decide (t.2 ≤ t.1)
      rw [decide_eq_decide]; omega
    have s12 := s1.trans s2
    refine q_ifN (b := is.any fun i => flw p n eqs is i) ((evt_B (K := K) (ev_anyL (ns := is.map fun i => flw p n eqs is i) ?_)).to (by rw [List.any_map]; rfl)) (fun hb H3 s3 => ?_) fun hb H3 s3 => ?_
    · refine (ev_lcL (xs := is) (enc := fun (i : Nat) => .int (i : Int)) (p := fun _ => true) (e := fun (i : Nat) => .bool (flw p n eqs is i)) (ev_var rfl (hI s12)) (by omega) (fun _ => rfl) ?_).eqD (by rw [gath_all, List.map_map]; rfl)
      intro i him x H4 s4 hx
      obtain rfl := dp_int hx
      refine item_name rfl evt_yes fun _ => ev_call (eva_cons (P := Sys K CS CY p n eqs) (ev_var rfl (hS (s12.trans s4))) (eva_cons (P := D K (.int (i : Int))) (ev_vi rfl) (eva_cons (P := D K (dX is)) (ev_var rfl (hI (s12.trans s4))) eva_nil))) ?_
      intro vs H5 s5 ps
      obtain ⟨u1, u2, u3, rfl, a1, a2, a3⟩ := allP3 ps
      rw [dp_int a2]
      exact ⟨p, n, M, L, eqs, i, is, u1, u3, rfl, sm, hn, a1, ok, hM, hL, hlt i him, a3, hlt, hl, rfl⟩
    · refine s_ret (P := D K (.bool false)) ev_bl fun v H4 s4 hv4 => q v H4 ((s12.trans s3).trans s4) ?_
      have : jdg p n eqs is = false := by unfold jdg; rw [hb]; rfl
      rw [this]; exact hv4
    have s13 := s12.trans s3
    refine q_asg (P := Sys K CS CY p n (sel eqs is)) (ev_call (eva_cons (P := Sys K CS CY p n eqs) (ev_var rfl (hS s13)) (eva_cons (P := D K (dX is)) (ev_var rfl (hI s13)) eva_nil)) ?_) fun v4 H4 s4 hv4 => ?_
    · intro vs H5 s5 ps
      obtain ⟨u1, u2, rfl, a1, a2⟩ := allP2 ps
      exact ⟨p, n, eqs, is, u1, u2, rfl, a1, a2, hlt, hl, rfl⟩
    have s14 := s13.trans s4
    refine s_ret (P := D K (.bool (jdg p n eqs is))) ((ev_allL (ns := eqs.map fun f => fol p n (sel eqs is) f) ?_).eqD (by unfold jdg; rw [hb, List.all_map]; rfl)) fun v H5 s5 hv5 => q v H5 (s14.trans s5) hv5
    refine (ev_lcL (xs := eqs) (enc := dPoly) (p := fun _ => true) (e := fun f => .bool (fol p n (sel eqs is) f)) (ev_eqs ky (ev_var rfl (hS s14))) (by omega) (fun _ => rfl) ?_).eqD (by rw [gath_all, List.map_map]; rfl)
    intro f hf x H5 s5 hx
    refine item_name rfl evt_yes fun _ => ev_op (P := FV (fol p n (sel eqs is) f)) (R := Is .non) (ev_call (eva_cons (P := Sys K CS CY p n (sel eqs is)) (ev_var rfl (Mono.go s5 hv4)) (eva_cons (P := D K (dPoly f)) (ev_var rfl hx) eva_nil)) ?_) ev_is ?_
    · intro vs H6 s6 ps
      obtain ⟨u1, u2, rfl, a1, a2⟩ := allP2 ps
      exact ⟨p, n, is.length, L, sel eqs is, f, u1, u2, rfl, sm, hn, a1, a2, sel_ok ok hlt, ok.2 f hf, hl, hL, rfl⟩
    · intro x y H6 s6 px py Q2 q2
      obtain rfl : y = .non := py
      refine ⟨rfl, q2 _ H6 (Same.refl _) ?_⟩
      cases hbb : fol p n (sel eqs is) f with
      | true =>
        obtain ⟨a, rfl⟩ := px.1 hbb
        exact .bl true
      | false =>
        rw [px.2 hbb]
        exact .bl false
end
end SPw
namespace SPw
open PySem PySem.Spec PyProof.Rows L2
/-! a written dict from ints to ints -/
inductive DE : List DictEntry → List (Int × Int) → Prop
  | nil : DE [] []
  | cons {e : DictEntry} {es : List DictEntry} {k v : Int} {tab : List (Int × Int)} (hk : ∃ t, e.key = .int k t) (hv : ∃ t, e.val = .int v t) (hh : e.hash = hashInt k) (t : DE es tab) : DE (e :: es) ((k, v) :: tab)
def IntD (o : Obj) (tab : List (Int × Int)) : Prop := ∃ (es : List DictEntry) (n : Nat), o = { cls := .type "dict", dict := none, data := .dict es.toArray n, slots := #[] } ∧ DE es tab
theorem DE.keys {P : Program} {w : World} : ∀ {es : List DictEntry} {tab : List (Int × Int)}, DE es tab → ∀ e ∈ es, ∃ k, (mixKind P w).is k e.key = true ∧ e.hash = (mixKind P w).hash k
  | _, _, .nil, e, h => by cases h
  | _, _, .cons (k := k) ⟨t, hk⟩ _ hh r, e, h => by
    rcases List.mem_cons.mp h with rfl | h
    · refine ⟨.inl k, ?_, hh⟩
      show Value.isInt k _ = true
      rw [hk]; simp [Value.isInt]
    · exact DE.keys r e h
theorem DE.find {k : Int} : ∀ {es : List DictEntry} {tab : List (Int × Int)} {v : Int}, DE es tab → (tab.find? fun t => decide (t.1 = k)).map (·.2) = some v → ∃ t, (es.find? fun e => keyIs (.inl k) e.key).map (·.val) = some (.int v t)
  | _, _, v, .nil, h => by simp at h
  | _, _, v, .cons (k := k') (v := v') ⟨t, hk⟩ ⟨t', hv⟩ hh r, h => by
    rw [List.find?_cons] at h ⊢
    have e1 : keyIs (.inl k) (.int k' t) = decide (k' = k) := by
      show (k' == k) = decide (k' = k)
      by_cases h : k' = k <;> simp [h]
    rw [hk, e1]
    by_cases hkk : k' = k
    · simp only [hkk, decide_true] at h ⊢
      refine ⟨t', ?_⟩
      have : v' = v := by simpa using h
      rw [Option.map_some, hv, this]
    · simp only [hkk, decide_false] at h ⊢
      exact DE.find r h
def rIxKI (K : PySem.W.Frag) : R2 := fun x y H Q => ∃ (a : Addr) (o : Obj) (tab : List (Int × Int)) (k v : Int), x = .ref a ∧ y = .int k ∧ K.lookup a = some o ∧ IntD o tab ∧ (tab.find? fun t => decide (t.1 = k)).map (·.2) = some v ∧ Q (.int v) H
theorem ix_kint {X : Cx} : IxR X (rIxKI X.K) := by
  intro value slice pins s σ H x y v u Q I rx ry h hs
  obtain ⟨a, o, tab, k, i, rfl, rfl, hl, ⟨es, n, rfl, de⟩, hf, q⟩ := h
  obtain rfl : v = Value.ref a := rx
  obtain ⟨t, rfl⟩ := (show ∃ t, u = Value.int k t from ry)
  obtain ⟨t', hfe⟩ := de.find hf
  have hm : s.heap.MapOf (mixKind X.prog X.w) a (fun k => findBy (mixKind X.prog X.w).is es.toArray k) := ⟨_, es.toArray, n, I.kIn _ _ hl, ⟨rfl, rfl, rfl⟩, rfl, fun e he => de.keys e (by simpa using he), fun _ => rfl⟩
  have hfb : findBy (mixKind X.prog X.w).is es.toArray (.inl k) = some (.int i t') := by
    unfold findBy
    rw [List.find?_toArray]
    exact hfe
  refine tail_any hm.typeIs PySem.F.slot_dict_getitem.lookup (wpAny_getItem_of (knd := mixKind X.prog X.w) (k := .inl k) ?_ hm hfb ⟨.int i, H, I.tok _, ⟨_, rfl⟩, q⟩) hs
  show Value.isInt k (.int k t) = true
  simp [Value.isInt]
/-! is_name, Space -/
def lets : Str := "abcdefghijklmnopqrstuvwxyz"
def digs : Str := "0123456789"
def mopT : List (Int × Int) := [(2, 8), (3, 5), (5, 3), (7, 2)]
structure Txt2 (K : PySem.W.Frag) (mg : Str → Option Value) : Prop where
  lname : ∃ u, mg "LONGEST_NAME" = some u ∧ RelV (.int 12) u
  lets : ∃ u, mg "LETTERS" = some u ∧ RelV (.str lets) u
  digs : ∃ u, mg "DIGITS" = some u ∧ RelV (.str digs) u
  mnames : ∃ u, mg "MOST_NAMES" = some u ∧ RelV (.int 8) u
  primes : ∃ a, mg "PRIMES" = some (.ref a) ∧ ∀ H, SqT K H a [.int 2, .int 3, .int 5, .int 7]
  mop : ∃ a o, mg "MOST_OF_PRIME" = some (.ref a) ∧ K.lookup a = some o ∧ IntD o mopT
def preName (K : PySem.W.Frag) (vs : List V) (H : Hp) (S : VP) : Prop := ∃ (t : Str), vs = [.str t] ∧ t ∈ menu ∧ S = D K (.bool true)
def charOk (c : Nat) : Bool := decide (c ∈ lets.cps.toList) || decide (c ∈ digs.cps.toList)
theorem menu_ok : ∀ t ∈ menu, decide ((1 : Int) ≤ (t.length : Int)) = true ∧ decide ((t.length : Int) ≤ 12) = true ∧ t.cps.toList.all charOk = true ∧ (∃ c, t.cps.toList[0]? = some c ∧ decide (c ∈ lets.cps.toList) = true) := by
  intro t ht
  have h : ∀ t ∈ menu, (decide ((1 : Int) ≤ (t.length : Int)) && decide ((t.length : Int) ≤ 12) && t.cps.toList.all charOk && (match t.cps.toList[0]? with | some c => decide (c ∈ lets.cps.toList) | none => false)) = true := by decide +kernel
  have h1 := h t ht
  simp only [Bool.and_eq_true] at h1
  obtain ⟨⟨⟨h1, h2⟩, h3⟩, h4⟩ := h1
  refine ⟨h1, h2, h3, ?_⟩
  cases hc : t.cps.toList[0]? with
  | none => rw [hc] at h4; cases h4
  | some c => rw [hc] at h4; exact ⟨c, rfl, h4⟩
section
variable {K : PySem.W.Frag} {σ : Slots} {H : Hp} {tl te ta : TE}
theorem q_ifE {b : Bool} {E : Ends} {tu tz : TS} {t : TT} (h : EVT t σ H b) (h1 : b = true → ∀ H1, Same H H1 → tu { E with nx := tz E } σ H1) (k : b = false → ∀ H1, Same H H1 → tz E σ H1) : tSeq (tIfS t tu tNext) tz E σ H := q_if h h1 fun hb H1 s => k hb H1 s
/-- a comprehension over a text -/
theorem ev_lcS {t : Str} {e : Nat → PyData} {j : Nat} {vs : List Nat} (h : EV tl σ H (D K (.str t))) (hz : t.cps.size < 1000000) (hnl : ∀ c, nl (e c) = true) (hw : ∀ x, wipe ((wipe σ vs).set j (some x)) vs = wipe σ vs)
    (he : ∀ c H1, Same H H1 → EV te ((wipe σ vs).set j (some (.str ⟨#[c]⟩))) H1 (D K (e c))) : EV (tLc (iStr tl) (gName j) tYes te vs) σ H (D K (.list (t.cps.toList.map e))) := fun H0 e0 Q q =>
  h H0 e0 _ fun v H1 e1 pv => by
    refine ⟨t, dp_str pv, fun L nL => ?_⟩
    have hsz : t.cps.toList.length = t.cps.size := Array.length_toList
    refine ⟨fun i m H' => m = t.cps.toList.length - i ∧ i ≤ t.cps.toList.length ∧ Made K H1 L ((t.cps.toList.take i).map e) H', ⟨_, rfl, Nat.zero_le _, nL, same_new nL, [], upd_same, .nil⟩, ?_⟩
    rintro i m H2 ⟨rfl, hi, md⟩
    by_cases hlt : i < t.cps.toList.length
    · refine .inr ⟨by show i < t.cps.size; omega, fun H3 => i + 1 ≤ t.cps.toList.length ∧ Made K H1 L ((t.cps.toList.take (i + 1)).map e) H3, fun H3 hh => ⟨_, by omega, rfl, hh.1, hh.2⟩, fun x H3 yl => ?_⟩
      obtain ⟨rfl, c, hc, rfl⟩ := yl
      have hc' : t.cps.toList[i]? = some c := by rw [Array.getElem?_toList]; exact hc
      refine ⟨hw _, ?_⟩
      dsimp only [tYes]
      rw [if_pos rfl]
      obtain ⟨m1, m2, zs, m3, m4⟩ := md
      refine (he c _ ((e0.trans e1).trans m2)).go fun y H4 e4 py => ?_
      have h4 : H4 L = some (.lst zs) := e4 _ _ m3
      have nls : nlAll ((t.cps.toList.take i).map e) = true := nlAll_iff.mpr fun d hd => by obtain ⟨t, _, rfl⟩ := List.mem_map.mp hd; exact hnl _
      refine ⟨zs, h4, Nat.lt_of_lt_of_le (by rw [m4.len, List.length_map, List.length_take]; omega) sizeL, hlt, m1, same_mut (m2.trans e4) m1, _, upd_same, ?_⟩
      rw [List.take_add_one, hc', List.map_append]
      exact TpAll.app (dpAll_off (notup_lst h4) _ _ nls (m4.same e4)) (.cons (dp_off (notup_lst h4) _ _ (hnl _) py) .nil)
    · have e12 : i = t.cps.toList.length := by omega
      subst e12
      rw [List.take_length] at md
      obtain ⟨m1, m2, zs, m3, m4⟩ := md
      exact .inl ⟨by show t.cps.size ≤ _; omega, q _ H2 (e1.trans m2) (dp_new_list m3 m4)⟩
def rInS (neg : Bool) : R2 := fun x y H Q => ∃ (c : Nat) (z : Str), x = .str ⟨#[c]⟩ ∧ y = .str z ∧ Q (.bl (if neg then !decide (c ∈ z.cps.toList) else decide (c ∈ z.cps.toList))) H
end
theorem sc_is_name : FnScope ["text", "char"] ["text"] (defScope (top 14)) := ⟨rfl, rfl, rfl, by decide +kernel, rfl, by decide +kernel, by decide +kernel⟩
theorem sc_points : FnScope ["self"] ["self"] (defScope (inClass (top 19) 1)) := ⟨rfl, rfl, rfl, by decide +kernel, rfl, by decide +kernel, by decide +kernel⟩
theorem sc_spInit : FnScope ["self", "prime", "names", "name"] ["self", "prime", "names"] (defScope (inClass (top 19) 0)) := ⟨rfl, rfl, rfl, by decide +kernel, rfl, by decide +kernel, by decide +kernel⟩
def fits (p : Int) (n : Nat) : Prop := (p = 2 ∧ n ≤ 8) ∨ (p = 3 ∧ n ≤ 5) ∨ (p = 5 ∧ n ≤ 3) ∨ (p = 7 ∧ n ≤ 2)
def spSpInit (K : PySem.W.Frag) (CS : Addr) : Sp := fun vs H Q _ => ∃ (x dx : Addr) (p : Int) (n : Nat) (xs : List Str) (v2 : V), vs = [.ref x, .int p, v2] ∧ H x = some (.ins CS dx []) ∧ fits p n ∧ 1 ≤ n ∧ NamesOk n xs ∧ D K (dN xs) v2 H ∧ ∀ H', SameO x H H' → Spc K CS p n (.ref x) H' → Q .non H'
section
variable {P : Program} {w : World} {K : PySem.W.Frag} {mg : Str → Option Value} {base : Heap} {CS : Addr}
theorem cl_name (T : Txt mg) (T2 : Txt2 K mg) (d : DefAt K mg "is_name" (top 14)) : Cl P w K mg base 1 "is_name" (Prom (preName K)) := by
  refine mkCl d (ps := ["text"]) (fun _ _ _ _ _ _ us hl => match us, hl with | [_], _ => rfl) sc_is_name ?_ fun f cdv A outer s H vs S Q E hr h q => ?_
  · rintro vs H S ⟨_, rfl, _⟩; rfl
  · obtain ⟨t, rfl, ht, rfl⟩ := h
    obtain ⟨uL, gL1, gL2⟩ := T2.lname; obtain ⟨uA, gA1, gA2⟩ := T2.lets; obtain ⟨uD, gD1, gD2⟩ := T2.digs; refine ⟨_, pss_cons (ps_if (PW.pt (pw_or (pt_not (pt_chain op_le op_le pe_int (pe_callB call_len_str rfl T.len rfl (pa_cons (pv 0) pa_nil)) (pe_glob rfl gL1 gL2))) (pw_or1 (pt_cmpR op_notIn_sign (pe_ix ix_str (pv 0) pe_int (fun _ _ => rfl)) (pe_glob rfl gA1 gA2) rfl))))
        (pss_one (ps_ret pe_bl))
        pss_nil)
      (pss_one (ps_ret (pe_callB (cr_allK K) rfl T.all rfl (pa_cons (pe_lc rfl sc_is_name.nd (pi_str (pv 0)) (blkOk_by (own := [("char", 1)]) (N := ["text", "char"]) (sc := (defScope (top 14))) (by decide +kernel)) (fun _ _ _ _ _ => (pg_name (i := 1) sc_is_name.nd rfl (.inl rfl))) (fun _ _ _ _ _ => pts_nil) (fun _ _ _ _ _ => (pe_or (pe_cmpR op_in_sign (pv 1) (pe_glob rfl gA1 gA2) rfl) (pe_one (pe_cmpR op_in_sign (pv 1) (pe_glob rfl gD1 gD2) rfl))))) pa_nil)))), ?_⟩
    obtain ⟨m1, m2, m3, c0, m4, m5⟩ := menu_ok t ht
    have hlen : t.length < 13 := by have := of_decide_eq_true m2; omega
    have hll : t.length ≤ sizeLine := Nat.le_trans (by omega : t.length ≤ 1000000) sizeL
    have evLen : ∀ {σ : Slots} {H1 : Hp}, σ[0]? = some (some (.str t)) → EV (tCB (fun xs H Q => ∃ z : Str, xs = [.str z] ∧ z.length ≤ sizeLine ∧ Q (.int z.length) H) (tCons (tVar 0) tNil)) σ H1 (D K (.int (t.length : Int))) := fun h0 =>
      ev_cb (Ps := [D K (.str t)]) (eva_cons (ev_var h0 (.str t)) eva_nil) fun vs H1 _ ps Q q => by
        obtain ⟨v, rfl, p⟩ := allP1 ps
        exact ⟨t, by rw [dp_str p], hll, q _ H1 (Same.refl _) (.int _)⟩
    refine q_ifE (b := false) ((evt_or (evt_not (evt_test (K := K) (ev_chain (f := fun i j => decide (i ≤ j)) (g := fun i j => decide (i ≤ j)) ev_int (evLen rfl) ev_int))) fun _ => evt_test (K := K) (ev_op (P := Is (.str ⟨#[c0]⟩)) (R := Is (.str lets)) (S := D K (.bool (!decide (c0 ∈ lets.cps.toList)))) (ev_op (P := D K (.str t)) (R := D K (.int 0)) (ev_var rfl (.str t)) ev_int ?_) ev_is ?_)).to ?_) (fun hb => by cases hb) fun _ H1 s1 => ?_
    · intro x y H2 s2 px py Q2 q2
      obtain rfl := dp_str px
      obtain rfl := dp_int py
      exact ⟨t, 0, c0, rfl, rfl, hll, atI_nat (j := 0) m4, q2 _ H2 (Same.refl _) rfl⟩
    · intro x y H2 s2 px py Q2 q2
      obtain rfl : x = .str ⟨#[c0]⟩ := px
      obtain rfl : y = .str lets := py
      exact ⟨c0, lets, rfl, rfl, q2 _ H2 (Same.refl _) (.bl _)⟩
    · rw [m1, m2, m5]; rfl
    refine s_ret (P := D K (.bool true)) ((ev_allL (ns := t.cps.toList.map charOk) ((ev_lcS (t := t) (e := fun c => .bool (charOk c)) (ev_var rfl (.str t)) (Nat.lt_of_lt_of_le hlen (by decide)) (fun _ => rfl) (fun _ => rfl) fun c H3 s3 => ev_orV (ev_op (P := Is (.str ⟨#[c]⟩)) (R := Is (.str lets)) (S := D K (.bool (decide (c ∈ lets.cps.toList)))) (ev_var rfl rfl) ev_is ?_) fun _ => ev_op (P := Is (.str ⟨#[c]⟩)) (R := Is (.str digs)) (S := D K (.bool (decide (c ∈ digs.cps.toList)))) (ev_var rfl rfl) ev_is ?_).eqD (by rw [List.map_map]; rfl))).eqD (by rw [List.all_map]; exact congrArg PyData.bool m3)) fun v H2 s2 hv2 => q v H2 (s1.trans s2) hv2
    · intro x y H2 s2 px py Q2 q2
      obtain rfl : x = .str ⟨#[c]⟩ := px
      obtain rfl : y = .str lets := py
      exact ⟨c, lets, rfl, rfl, q2 _ H2 (Same.refl _) (.bl _)⟩
    · intro x y H2 s2 px py Q2 q2
      obtain rfl : x = .str ⟨#[c]⟩ := px
      obtain rfl : y = .str digs := py
      exact ⟨c, digs, rfl, rfl, q2 _ H2 (Same.refl _) (.bl _)⟩
theorem ok_spInit {f : Addr} {fd : FuncData} (F : Fun K "__init__" "Space.__init__" (inClass (top 19) 0) f fd) (T : Txt mg) (T2 : Txt2 K mg) (k : KSp K CS) (c_is_name : Cl P w K mg base 1 "is_name" (Prom (preName K))) : FnOk P w K mg base CX0 2 f fd ["self", "prime", "names"] (spSpInit K CS) := by
  refine F.ok sc_spInit (fun vs H Q E h => ?_) (fun cdv A outer s H vs Q E hr h => ?_)
  · obtain ⟨_, _, _, _, _, _, rfl, _⟩ := h
    rfl
  · obtain ⟨x, dx, p, n, xs, v2, rfl, hx, hfit, hn1, hok, hv, q⟩ := h
    obtain ⟨uM, gM1, gM2⟩ := T2.mnames
    obtain ⟨aP, gP1, gP2⟩ := T2.primes
    obtain ⟨aD, oD, gD1, gD2, gD3⟩ := T2.mop
    have hxl := hok.1
    have hn8 : n ≤ 8 := by unfold fits at hfit; omega
    refine ⟨_, pss_cons (ps_if (PW.pt (pw_or (pt_cmpR op_notIn_seq (pv 1) (pe_glob rfl gP1 (show RelV (.ref aP) (.ref aP) from rfl)) rfl) (pw_or1 (pt_not (pt_chain op_le op_le pe_int (pe_callB (cr_lenK K) rfl T.len rfl (pa_cons (pv 2) pa_nil)) (pe_glob rfl gM1 gM2)))))) (pss_one ps_never) pss_nil)
      (pss_cons (ps_if (PW.pt (pw_or (pt_not (pt_val (pe_callB (cr_allK K) rfl T.all rfl (pa_cons (pe_lc rfl sc_spInit.nd (pi_listK K (pv 2)) (blkOk_by (own := [("name", 3)]) (N := ["self", "prime", "names", "name"]) (sc := (defScope (inClass (top 19) 0))) (by decide +kernel)) (fun _ _ _ _ _ => (pg_name (i := 3) sc_spInit.nd rfl (.inl rfl))) (fun _ _ _ _ _ => pts_nil) (fun _ _ _ _ _ => (pe_k c_is_name hr (by decide) rfl (pa_cons (pv 3) pa_nil)))) pa_nil)))) (pw_or1 (pt_cmpR op_lt (pe_lenSetD rfl rfl T.len rfl T.set (pv 2)) (pe_callB (cr_lenK K) rfl T.len rfl (pa_cons (pv 2) pa_nil)) rfl)))) (pss_one ps_never) pss_nil)
      (pss_cons (ps_if (pt_cmpR op_gt (pe_callB (cr_lenK K) rfl T.len rfl (pa_cons (pv 2) pa_nil)) (pe_ix ix_kint (pe_glob rfl gD1 (show RelV (.ref aD) (.ref aD) from rfl)) (pv 1) (fun _ _ => rfl)) rfl) (pss_one ps_never) pss_nil)
      (pss_cons (ps_fld (pv 0) (pv 1) rfl) (pss_cons (ps_fld (pv 0) (pe_callTy (cr_listK K) rfl T.list rfl (pa_cons (pv 2) pa_nil)) rfl) (pss_one (ps_fld (pv 0) (pe_callB (cr_lenK K) rfl T.len rfl (pa_cons (pv 2) pa_nil)) rfl)))))), ?_⟩
    have evN : ∀ {σ : Slots} {H1 : Hp}, D K (dN xs) v2 H1 → σ[2]? = some (some v2) → EV (tCB (rLen K) (tCons (tVar 2) tNil)) σ H1 (D K (.int (n : Int))) := fun h h2 => (ev_lenL (ds := xs.map .str) (ev_var h2 h)).eqD (by rw [List.length_map, hxl])
    refine q_ifE (b := false) ((evt_or (evt_test (K := K) (b := false) (ev_op (P := Is (.int p)) (R := Is (.ref aP)) (ev_var rfl rfl) ev_is ?_)) fun _ => evt_not (evt_test (K := K) (ev_chain (f := fun i j => decide (i ≤ j)) (g := fun i j => decide (i ≤ j)) ev_int (evN hv rfl) ev_int))).to ?_) (fun hb => by cases hb) fun _ H1 s1 => ?_
    · intro y z H2 s2 py pz Q2 q2
      obtain rfl : y = .int p := py
      obtain rfl : z = .ref aP := pz
      refine ⟨aP, _, rfl, .inr (gP2 _), rfl, rfl, q2 _ H2 (Same.refl _) ?_⟩
      have : (!inV (V.int p) [.int 2, .int 3, .int 5, .int 7]) = false := by
        rcases hfit with ⟨rfl, _⟩ | ⟨rfl, _⟩ | ⟨rfl, _⟩ | ⟨rfl, _⟩ <;> rfl
      rw [if_pos rfl, this]
      exact .bl false
    · rw [decide_eq_true (by omega), decide_eq_true (by omega)]; rfl
    have hv1 : D K (dN xs) v2 H1 := Mono.go (P := D K (dN xs)) s1 hv
    refine q_ifE (b := false) ((evt_or (evt_not (evt_B (K := K) (ev_allL (ns := xs.map fun _ => true) ?_))) fun _ => evt_test (K := K) (ev_cmp (f := fun i j => decide (i < j)) (i := (n : Int)) ?_ (evN hv1 rfl))).to ?_) (fun hb => by cases hb) fun _ H2 s2 => ?_
    · refine (ev_lcL (xs := xs) (enc := .str) (p := fun _ => true) (e := fun _ => .bool true) (ev_var rfl hv1) (by omega) (fun _ => rfl) ?_).eqD (by rw [gath_all, List.map_map]; rfl)
      intro t ht y H3 s3 hy
      obtain rfl := dp_str hy
      refine item_name rfl evt_yes fun _ => ev_call (eva_cons (P := Is (.str t)) (ev_var rfl rfl) eva_nil) ?_
      intro vs H4 s4 ps
      obtain ⟨u1, rfl, a1⟩ := allP1 ps
      obtain rfl : u1 = .str t := a1
      exact ⟨t, rfl, hok.2.2 t ht, rfl⟩
    · intro H3 e3 Q3 q3
      have hv3 : D K (dN xs) v2 H3 := Mono.go (P := D K (dN xs)) e3 hv1
      obtain ⟨a, ys, rfl, hq, hA⟩ := dp_list hv3
      have hys : ys = xs.map V.str := by
        clear hq hv3 hv1 hv hok hxl evN
        have h : ∀ (ys : List V) (xs : List Str), TpAll K H3 ys (xs.map PyData.str) → ys = xs.map V.str := fun ys xs => by
          induction xs generalizing ys with
          | nil => intro h; cases h; rfl
          | cons x xs ih =>
            intro h
            cases h with
            | cons h1 h2 => rw [dp_str h1, ih _ h2]; rfl
        exact h ys xs hA
      refine ⟨_, rfl, a, xs, rfl, by rw [← hys]; exact hq, hok.2.1, by omega, q3 _ H3 (Same.refl _) ?_⟩
      rw [hxl]; exact .int _
    · rw [List.all_map, decide_eq_false (by omega)]
      have : (xs.all (id ∘ fun _ => true)) = true := by rw [List.all_eq_true]; intro _ _; rfl
      rw [this]; rfl
    have hv2 : D K (dN xs) v2 H2 := Mono.go (P := D K (dN xs)) s2 hv1
    obtain ⟨mx, hmx, hnm⟩ : ∃ mx : Int, (mopT.find? fun t => decide (t.1 = p)).map (·.2) = some mx ∧ (n : Int) ≤ mx := by
      rcases hfit with ⟨rfl, h⟩ | ⟨rfl, h⟩ | ⟨rfl, h⟩ | ⟨rfl, h⟩
      · exact ⟨8, rfl, by omega⟩
      · exact ⟨5, rfl, by omega⟩
      · exact ⟨3, rfl, by omega⟩
      · exact ⟨2, rfl, by omega⟩
    refine q_ifE (b := false) ((evt_test (K := K) (ev_cmp (f := fun i j => decide (j < i)) (j := mx) (evN hv2 rfl) (ev_op (P := Is (.ref aD)) (R := Is (.int p)) ev_is (ev_var rfl rfl) ?_))).to (decide_eq_false (by omega))) (fun hb => by cases hb) fun _ H3 s3 => ?_
    · intro y z H4 s4 py pz Q2 q2
      obtain rfl : y = .ref aD := py
      obtain rfl : z = .int p := pz
      exact ⟨aD, oD, mopT, p, mx, rfl, rfl, gD2, gD3, hmx, q2 _ H4 (Same.refl _) (.int _)⟩
    have h3x : H3 x = some (.ins CS dx []) := s3 _ _ (s2 _ _ (s1 _ _ hx))
    have hv3 : D K (dN xs) v2 H3 := Mono.go (P := D K (dN xs)) s3 hv2
    have sA : SameO x H H3 := same_O ((s1.trans s2).trans s3)
    refine ⟨_, rfl, .ref x, rfl, x, CS, dx, [], rfl, h3x, k.cls, k.prime, by decide, ?_⟩
    have t1 : SameO x H3 (upd H3 x (.ins CS dx (putF "prime" (.int p) []))) := upd_O
    have hv4 := dp_I h3x t1 _ _ hv3
    refine (ev_lstLN (K := K) (ds := xs.map .str) (ev_var rfl hv4)).go fun v H5 s5 hv5 => ?_
    have h5x : H5 x = some (.ins CS dx (putF "prime" (.int p) [])) := s5 _ _ upd_same
    refine ⟨.ref x, rfl, x, CS, dx, _, rfl, h5x, k.cls, k.names, (by show 1 < 1000; decide), ?_⟩
    have t2 : SameO x H5 (upd H5 x (.ins CS dx (putF "names" v (putF "prime" (.int p) [])))) := upd_O
    have hv6 := dp_I h5x t2 _ _ (Tp.same s5 _ _ hv4)
    refine (evN hv6 rfl).go fun w7 H7 s7 hw7 => ?_
    obtain rfl := dp_int hw7
    refine ⟨.ref x, rfl, x, CS, dx, _, rfl, s7 _ _ upd_same, k.cls, k.count, ?_, ?_⟩
    · show (if (("prime" : Str) = ("names" : Str)) then _ else _ :: _ : List (Str × V)).length < 1000
      rw [if_neg (by decide +kernel)]
      show 2 < 1000
      decide
    refine q _ (((sA.trans t1).trans (same_O s5)).trans ((t2.trans (same_O s7)).trans upd_O)) ⟨x, dx, _, rfl, upd_same, ?_, ?_, ?_⟩
    · rw [lookup_putF, if_neg (by decide +kernel), lookup_putF, if_neg (by decide +kernel), lookup_putF, if_pos rfl]
    · rw [lookup_putF, if_pos rfl]
    · rw [lookup_putF, if_neg (by decide +kernel), lookup_putF, if_neg (by decide +kernel), lookup_putF, if_neg (by decide +kernel)]; rfl
theorem ok_points {f : Addr} {fd : FuncData} (F : Fun K "points" "Space.points" (inClass (top 19) 1) f fd) (k : KSp K CS) (c_tuples_of : Cl P w K mg base 1 "tuples_of" (Prom (preTuples K))) : FnOk P w K mg base CX0 2 f fd ["self"] (Prom (prePoints K CS)) := by
  refine F.ok sc_points (fun vs H Q E h => ?_) (fun cdv A outer s H vs Q E hr h => ?_)
  · obtain ⟨S, ⟨_, _, _, rfl, _⟩, _⟩ := h
    rfl
  · obtain ⟨S, ⟨p, n, v, rfl, sm, hs, rfl⟩, q⟩ := h
    refine ⟨_, pss_one (ps_ret (pe_k c_tuples_of hr (by decide) rfl (pa_cons (pe_fldK K (pv 0)) (pa_cons (pe_fldK K (pv 0)) pa_nil)))), ?_⟩
    refine s_ret (P := D K (dPts (pts p n))) (ev_call (eva_cons (ev_prime k (ev_var rfl hs)) (eva_cons (ev_count k (ev_var rfl hs)) eva_nil)) ?_) fun v H2 s2 hv2 => q v H2 s2 hv2
    intro vs H3 s3 ps
    obtain ⟨u1, u2, rfl, a1, a2⟩ := allP2 ps
    rw [dp_int a1, dp_int a2]
    exact ⟨p, n, rfl, sm, rfl⟩
end
end SPw
namespace SPw
open PySem PySem.Spec PyProof.Rows L2
/-! data that may be compared -/
def SH (k : Nat) (d : PyData) : Prop := d.canLay0 = true ∧ d.depth ≤ k
theorem SH.mono {k m : Nat} {d : PyData} (h : SH k d) (e : k ≤ m) : SH m d := ⟨h.1, Nat.le_trans h.2 e⟩
theorem sh_int (i : Int) : SH 0 (.int i) := ⟨by simp [PyData.canLay0], by simp [PyData.depth]⟩
theorem sh_all {k : Nat} : ∀ {ds : List PyData}, (∀ d ∈ ds, SH k d) → PyData.canLayAll0 ds = true ∧ PyData.depthAll ds ≤ k
  | [], _ => ⟨by simp [PyData.canLayAll0], by simp [PyData.depthAll]⟩
  | d :: ds, h => by
    have h1 := h d List.mem_cons_self
    have h2 := sh_all fun e he => h e (List.mem_cons_of_mem _ he)
    refine ⟨by simp [PyData.canLayAll0, h1.1, h2.1], ?_⟩
    simp only [PyData.depthAll]
    have := h1.2
    have := h2.2
    omega
theorem sh_list {k : Nat} {ds : List PyData} (h : ∀ d ∈ ds, SH k d) : SH (k + 1) (.list ds) := ⟨by simp only [PyData.canLay0]; exact (sh_all h).1, by simp only [PyData.depth]; have := (sh_all h).2; omega⟩
theorem sh_tup {k : Nat} {ds : List PyData} (h : ∀ d ∈ ds, SH k d) : SH (k + 1) (.tuple ds) := ⟨by simp only [PyData.canLay0]; exact (sh_all h).1, by simp only [PyData.depth]; have := (sh_all h).2; omega⟩
theorem sh_map {α : Type} {k : Nat} {f : α → PyData} (h : ∀ a, SH k (f a)) (l : List α) : ∀ d ∈ l.map f, SH k d := fun d hd => by
  obtain ⟨a, _, rfl⟩ := List.mem_map.mp hd
  exact h a
theorem sh_dI (e : List Int) : SH 1 (dI e) := sh_tup (sh_map sh_int e)
theorem sh_dTerm (t : List Int × Int) : SH 2 (dTerm t) := sh_tup fun d hd => by
  rcases List.mem_cons.mp hd with rfl | hd
  · exact sh_dI _
  · rw [List.mem_singleton.mp hd]; exact (sh_int _).mono (by decide)
theorem sh_dPoly (ts : Poly) : SH 3 (dPoly ts) := sh_tup (sh_map sh_dTerm ts)
theorem sh_dEqs (fs : List Poly) : SH 4 (dEqs fs) := sh_list (sh_map sh_dPoly fs)
theorem sh_dPts (xs : List (List Int)) : SH 2 (dPts xs) := sh_list (sh_map sh_dI xs)
theorem sh_dX (is : List Nat) : SH 1 (dX is) := sh_list (sh_map (fun i => sh_int _) is)
theorem SH.shaped {k : Nat} {d : PyData} (h : SH k d) (e : k ≤ 64) : SeqAt.shaped d = true := by
  unfold SeqAt.shaped
  rw [h.1, decide_eq_true (Nat.le_trans h.2 e)]; rfl
theorem SH.refl {k : Nat} {d : PyData} (h : SH k d) : PyData.eqv d d = true := SeqAt.eqv_refl d h.1
section
variable {K : PySem.W.Frag} {σ : Slots} {H : Hp} {ta tb : TE}
/-- the same data twice -/
theorem ev_eqSame {k : Nat} {d : PyData} (hd : SH k d) (hk : k ≤ 64) (ha : EV ta σ H (D K d)) (hb : EV tb σ H (D K d)) : EV (tOp (rEqD K) ta tb) σ H (D K (.bool true)) :=
  ev_op ha hb fun x y H1 _ p q Q kk => ⟨d, d, Tp.dp _ _ p, Tp.dp _ _ q, hd.shaped hk, hd.shaped hk, kk _ H1 (Same.refl _) (by rw [hd.refl]; exact .bl true)⟩
theorem ev_neSame {k : Nat} {d : PyData} (hd : SH k d) (hk : k ≤ 64) (ha : EV ta σ H (D K d)) (hb : EV tb σ H (D K d)) : EV (tOp (rNeD K) ta tb) σ H (D K (.bool false)) :=
  ev_op ha hb fun x y H1 _ p q Q kk => ⟨d, d, Tp.dp _ _ p, Tp.dp _ _ q, hd.shaped hk, hd.shaped hk, kk _ H1 (Same.refl _) (by rw [hd.refl]; exact .bl false)⟩
end
end SPw
namespace SPw
open PySem PySem.Spec PyProof.Rows L2
/-! the plain law: no program in sight -/
section
variable {p : Int} {n : Nat} {eqs : List Poly}
theorem okp_iff {gs : List Poly} {f : Poly} {x : List Int} : okp p gs f x = true ↔ ((∀ g ∈ gs, val p g x = 0) → val p f x = 0) := by
  unfold okp
  rw [Bool.or_eq_true, List.any_eq_true]
  constructor
  · rintro (h | ⟨g, hg, h⟩) hz
    · exact of_decide_eq_true h
    · rw [decide_eq_true (hz g hg)] at h; cases h
  · intro h
    by_cases hf : val p f x = 0
    · exact .inl (decide_eq_true hf)
    · refine .inr (Classical.byContradiction fun hc => hf (h fun g hg => Classical.byContradiction fun hg0 => hc ⟨g, hg, ?_⟩))
      rw [decide_eq_false hg0]; rfl
theorem fol_iff {gs : List Poly} {f : Poly} : fol p n gs f = true ↔ ∀ x ∈ pts p n, (∀ g ∈ gs, val p g x = 0) → val p f x = 0 := by
  unfold fol
  rw [List.all_eq_true]
  exact ⟨fun h x hx => okp_iff.mp (h x hx), fun h x hx => okp_iff.mpr (h x hx)⟩
theorem sols_mem {gs : List Poly} {x : List Int} : x ∈ sols p n gs ↔ x ∈ pts p n ∧ ∀ g ∈ gs, val p g x = 0 := by
  unfold sols
  rw [List.mem_filter, List.all_eq_true]
  exact ⟨fun h => ⟨h.1, fun g hg => of_decide_eq_true (h.2 g hg)⟩, fun h => ⟨h.1, fun g hg => decide_eq_true (h.2 g hg)⟩⟩
theorem fol_sols {gs : List Poly} {f : Poly} : fol p n gs f = (sols p n gs).all fun x => decide (val p f x = 0) := by
  rw [Bool.eq_iff_iff, fol_iff, List.all_eq_true]
  exact ⟨fun h x hx => decide_eq_true (h x (sols_mem.mp hx).1 (sols_mem.mp hx).2), fun h x hx hz => of_decide_eq_true (h x (sols_mem.mpr ⟨hx, hz⟩))⟩
theorem sel_range : sel eqs (List.range eqs.length) = eqs := by
  unfold sel
  refine List.ext_getElem? fun i => ?_
  rw [List.getElem?_map]
  by_cases h : i < eqs.length
  · rw [List.getElem?_range h, List.getElem?_eq_getElem h, Option.map_some, getD_in h]
  · rw [List.getElem?_eq_none (by rw [List.length_range]; omega), List.getElem?_eq_none (by omega)]; rfl
theorem sel_era (is : List Nat) (j : Nat) : sel eqs (is.eraseIdx j) = (sel eqs is).eraseIdx j := map_era _ is j
/-- needless by the law's own words -/
theorem ndl_flw {is : List Nat} {j i : Nat} (nd : is.Nodup) (hj : is[j]? = some i) (hlt : ∀ k ∈ is, k < eqs.length) : ndl p n (sel eqs is) j = flw p n eqs is i := by
  unfold ndl flw
  rw [← rem_idx nd hj, sel_era, fol_sols, List.eraseIdx_eq_take_drop_succ]
  have : (sel eqs is).getD j [] = eqs.getD i [] := by
    have h1 : (sel eqs is)[j]? = some (eqs.getD i []) := by unfold sel; rw [List.getElem?_map, hj]; rfl
    have h2 := (List.getElem?_eq_some_iff.mp h1)
    obtain ⟨h3, h4⟩ := h2
    rw [getD_in h3, h4]
  rw [this]
theorem need_law {i : Nat} (hi : i < eqs.length) : flw p n eqs (List.range eqs.length) i = ndl p n eqs i := by
  have h := ndl_flw (p := p) (n := n) (eqs := eqs) (is := List.range eqs.length) (j := i) (i := i) List.nodup_range (List.getElem?_range hi) (fun k hk => List.mem_range.mp hk)
  rw [sel_range] at h
  exact h.symm
def Zk (p : Int) (eqs : List Poly) (k : Nat) (x : List Int) : Prop := val p (eqs.getD k []) x = 0
theorem flw_iff {ks : List Nat} {i : Nat} : flw p n eqs ks i = true ↔ ∀ x ∈ pts p n, (∀ k ∈ ks, k ≠ i → Zk p eqs k x) → Zk p eqs i x := by
  unfold flw
  rw [fol_iff]
  have hh : ∀ x, (∀ g ∈ sel eqs (rem ks i), val p g x = 0) ↔ ∀ k ∈ ks, k ≠ i → Zk p eqs k x := fun x => by
    constructor
    · intro h k hk hki
      refine h _ (List.mem_map.mpr ⟨k, List.mem_filter.mpr ⟨hk, ?_⟩, rfl⟩)
      rw [decide_eq_false hki]; rfl
    · intro h g hg
      obtain ⟨k, hk, rfl⟩ := List.mem_map.mp hg
      obtain ⟨h1, h2⟩ := List.mem_filter.mp hk
      refine h k h1 fun z => ?_
      rw [decide_eq_true z] at h2; cases h2
  exact ⟨fun h x hx hz => h x hx ((hh x).mpr hz), fun h x hx hz => h x hx ((hh x).mp hz)⟩
theorem fold_sub : ∀ (is ks : List Nat), ∀ k ∈ is.foldl (stepL p n eqs) ks, k ∈ ks
  | [], _, _, h => h
  | a :: is, ks, k, h => stepL_sub k (fold_sub is _ k h)
theorem fold_false : ∀ (is ks : List Nat) (i : Nat), i ∈ is → i ∈ is.foldl (stepL p n eqs) ks → ∃ ks', (∀ k ∈ is.foldl (stepL p n eqs) ks, k ∈ ks') ∧ flw p n eqs ks' i = false
  | a :: is, ks, i, hi, hf => by
    by_cases hia : i = a
    · subst hia
      refine ⟨ks, fun k hk => stepL_sub k (fold_sub is _ k hk), ?_⟩
      cases hb : flw p n eqs ks i with
      | false => rfl
      | true =>
        have h1 := fold_sub is _ i hf
        unfold stepL at h1
        rw [if_pos hb] at h1
        have h2 := (List.mem_filter.mp h1).2
        rw [decide_eq_true rfl] at h2
        cases h2
    · have hi' : i ∈ is := by
        rcases List.mem_cons.mp hi with h | h
        · exact absurd h hia
        · exact h
      exact fold_false is _ i hi' hf
theorem step_cover {ks : List Nat} {i : Nat} (h : ∀ x ∈ pts p n, (∀ k ∈ ks, Zk p eqs k x) → ∀ k, k < eqs.length → Zk p eqs k x) : ∀ x ∈ pts p n, (∀ k ∈ stepL p n eqs ks i, Zk p eqs k x) → ∀ k, k < eqs.length → Zk p eqs k x := by
  unfold stepL
  split
  · rename_i hb
    intro x hx hz
    refine h x hx fun k hk => ?_
    have hi := flw_iff.mp hb x hx fun k hk hki => hz k (List.mem_filter.mpr ⟨hk, by rw [decide_eq_false hki]; rfl⟩)
    by_cases hki : k = i
    · rw [hki]; exact hi
    · exact hz k (List.mem_filter.mpr ⟨hk, by rw [decide_eq_false hki]; rfl⟩)
  · exact h
theorem fold_cover : ∀ (is ks : List Nat), (∀ x ∈ pts p n, (∀ k ∈ ks, Zk p eqs k x) → ∀ k, k < eqs.length → Zk p eqs k x) → ∀ x ∈ pts p n, (∀ k ∈ is.foldl (stepL p n eqs) ks, Zk p eqs k x) → ∀ k, k < eqs.length → Zk p eqs k x
  | [], _, h => h
  | a :: is, ks, h => fold_cover is _ (step_cover h)
theorem fold_up : ∀ (is ks : List Nat), ks.Pairwise (· < ·) → (is.foldl (stepL p n eqs) ks).Pairwise (· < ·)
  | [], _, h => h
  | a :: is, ks, h => by
    refine fold_up is _ ?_
    unfold stepL
    split
    · exact List.Pairwise.filter _ h
    · exact h
theorem lean_lt : ∀ k ∈ leanF p n eqs, k < eqs.length := fun k hk => List.mem_range.mp (fold_sub _ _ k hk)
theorem lean_up : (leanF p n eqs).Pairwise (· < ·) := fold_up _ _ List.pairwise_lt_range
theorem lean_nd : (leanF p n eqs).Nodup := List.Pairwise.imp (fun h => Nat.ne_of_lt h) lean_up
theorem lean_not : ∀ i ∈ leanF p n eqs, flw p n eqs (leanF p n eqs) i = false := fun i hi => by
  obtain ⟨ks, h1, h2⟩ := fold_false (p := p) (n := n) (eqs := eqs) (List.range eqs.length) (List.range eqs.length) i (List.mem_range.mpr (lean_lt i hi)) hi
  cases hb : flw p n eqs (leanF p n eqs) i with
  | false => rfl
  | true =>
    have h3 : flw p n eqs ks i = true := flw_iff.mpr fun x hx hz => flw_iff.mp hb x hx fun k hk hki => hz k (h1 k hk) hki
    rw [h2] at h3; cases h3
theorem lean_cover : ∀ x ∈ pts p n, (∀ k ∈ leanF p n eqs, Zk p eqs k x) → ∀ k, k < eqs.length → Zk p eqs k x :=
  fold_cover _ _ fun x _ hz k hk => hz k (List.mem_range.mpr hk)
theorem sel_all {is : List Nat} {x : List Int} : (∀ g ∈ sel eqs is, val p g x = 0) ↔ ∀ k ∈ is, Zk p eqs k x :=
  ⟨fun h k hk => h _ (List.mem_map.mpr ⟨k, hk, rfl⟩), fun h g hg => by
    obtain ⟨k, hk, rfl⟩ := List.mem_map.mp hg
    exact h k hk⟩
theorem eqs_all {x : List Int} : (∀ g ∈ eqs, val p g x = 0) ↔ ∀ k, k < eqs.length → Zk p eqs k x := by
  constructor
  · intro h k hk
    unfold Zk
    rw [getD_in hk]
    exact h _ (List.getElem_mem hk)
  · intro h g hg
    obtain ⟨k, hk, rfl⟩ := List.getElem_of_mem hg
    have := h k hk
    unfold Zk at this
    rw [getD_in hk] at this
    exact this
theorem lean_sols : sols p n (sel eqs (leanF p n eqs)) = sols p n eqs := by
  unfold sols
  refine List.filter_congr fun x hx => ?_
  rw [Bool.eq_iff_iff, List.all_eq_true, List.all_eq_true]
  constructor
  · intro h g hg
    exact decide_eq_true (eqs_all.mpr (lean_cover x hx (sel_all.mp fun g hg => of_decide_eq_true (h g hg))) g hg)
  · intro h g hg
    exact decide_eq_true (sel_all.mpr (fun k hk => eqs_all.mp (fun g hg => of_decide_eq_true (h g hg)) k (lean_lt k hk)) g hg)
theorem lean_ndl : ∀ j, j < (sel eqs (leanF p n eqs)).length → ndl p n (sel eqs (leanF p n eqs)) j = false := fun j hj => by
  have hj' : j < (leanF p n eqs).length := by unfold sel at hj; rw [List.length_map] at hj; exact hj
  rw [ndl_flw lean_nd (List.getElem?_eq_getElem hj') lean_lt]
  exact lean_not _ (List.getElem_mem hj')
theorem lean_jdg : jdg p n eqs (leanF p n eqs) = true := by
  unfold jdg
  have h1 : ((leanF p n eqs).any fun i => flw p n eqs (leanF p n eqs) i) = false := by
    rw [List.any_eq_false]
    intro i hi
    rw [lean_not i hi]; exact Bool.false_ne_true
  rw [h1]
  show (true && _) = true
  rw [Bool.true_and, List.all_eq_true]
  intro f hf
  rw [fol_iff]
  intro x hx hz
  exact eqs_all.mpr (lean_cover x hx (sel_all.mp hz)) f hf
/-- one increasing list holds the members -/
theorem up_eq : ∀ {as bs : List Int}, as.Pairwise (· < ·) → bs.Pairwise (· < ·) → (∀ k, k ∈ as ↔ k ∈ bs) → as = bs
  | [], [], _, _, _ => rfl
  | [], b :: bs, _, _, h => by have := (h b).mpr List.mem_cons_self; cases this
  | a :: as, [], _, _, h => by have := (h a).mp List.mem_cons_self; cases this
  | a :: as, b :: bs, h1, h2, h => by
    obtain ⟨a1, a2⟩ := List.pairwise_cons.mp h1
    obtain ⟨b1, b2⟩ := List.pairwise_cons.mp h2
    have hab : a = b := by
      have ha := (h a).mp List.mem_cons_self
      have hb := (h b).mpr List.mem_cons_self
      rcases List.mem_cons.mp ha with e | ha
      · exact e
      · rcases List.mem_cons.mp hb with e | hb
        · exact e.symm
        · have := a1 b hb
          have := b1 a ha
          omega
    subst hab
    congr 1
    refine up_eq a2 b2 fun k => ⟨fun hk => ?_, fun hk => ?_⟩
    · rcases List.mem_cons.mp ((h k).mp (List.mem_cons_of_mem _ hk)) with e | h'
      · have := a1 k hk; omega
      · exact h'
    · rcases List.mem_cons.mp ((h k).mpr (List.mem_cons_of_mem _ hk)) with e | h'
      · have := b1 k hk; omega
      · exact h'
end
end SPw
namespace SPw
open PySem PySem.Spec PyProof.Rows L2
def preLaw (K : PySem.W.Frag) (vs : List V) (H : Hp) (S : VP) : Prop := ∃ (ns : List Int) (v : V), vs = [v] ∧ Scr K ns v H ∧ S = D K (.bool true)
theorem shape_fit (i : Nat) (hi : i < 10) : ∃ (p : Int) (n : Nat), shps.getD i (0, 0) = (p, (n : Int)) ∧ Sm p n ∧ 1 ≤ n ∧ fits p n := by
  rcases i with _ | _ | _ | _ | _ | _ | _ | _ | _ | _ | i
  · exact ⟨2, 1, rfl, ⟨by decide, by decide, by decide⟩, by decide, .inl ⟨rfl, by decide⟩⟩
  · exact ⟨2, 2, rfl, ⟨by decide, by decide, by decide⟩, by decide, .inl ⟨rfl, by decide⟩⟩
  · exact ⟨2, 3, rfl, ⟨by decide, by decide, by decide⟩, by decide, .inl ⟨rfl, by decide⟩⟩
  · exact ⟨3, 1, rfl, ⟨by decide, by decide, by decide⟩, by decide, .inr (.inl ⟨rfl, by decide⟩)⟩
  · exact ⟨3, 2, rfl, ⟨by decide, by decide, by decide⟩, by decide, .inr (.inl ⟨rfl, by decide⟩)⟩
  · exact ⟨5, 1, rfl, ⟨by decide, by decide, by decide⟩, by decide, .inr (.inr (.inl ⟨rfl, by decide⟩))⟩
  · exact ⟨2, 4, rfl, ⟨by decide, by decide, by decide⟩, by decide, .inl ⟨rfl, by decide⟩⟩
  · exact ⟨3, 3, rfl, ⟨by decide, by decide, by decide⟩, by decide, .inr (.inl ⟨rfl, by decide⟩)⟩
  · exact ⟨7, 1, rfl, ⟨by decide, by decide, by decide⟩, by decide, .inr (.inr (.inr ⟨rfl, by decide⟩))⟩
  · exact ⟨5, 2, rfl, ⟨by decide, by decide, by decide⟩, by decide, .inr (.inr (.inl ⟨rfl, by decide⟩))⟩
  · omega
section
variable {K : PySem.W.Frag} {σ : Slots} {H : Hp} {ta tb te : TE} {CS : Addr} {p : Int} {n : Nat} {w : World} {E : Ends} {tz : TS}
theorem q_asg2 {d1 d2 : PyData} {i j : Nat} (h : EV te σ H (D K (.tuple [d1, d2]))) (k : ∀ v1 v2 H1, Same H H1 → Tp K H1 v1 d1 → Tp K H1 v2 d2 → tz E ((σ.set i (some v1)).set j (some v2)) H1) : tSeq (tAsg te (gTup K 2 (gCons (gName i) (gCons (gName j) gNil)))) tz E σ H :=
  h.go fun v H1 s p => by
    obtain ⟨a, xs, rfl, hq, hA⟩ := dp_tupT p
    cases hA with
    | cons h1 hr =>
      cases hr with
      | cons h2 hr2 =>
        cases hr2
        exact g_two (SqT.of hq) (k _ _ H1 s h1 h2)
theorem ev_space_mk (ha : EV ta σ H (D K (.int p))) (hb : EV tb σ H (DS K (NamesOk n) dN)) (hf : fits p n) (hn : 1 ≤ n) : EV (tMake CS (spSpInit K CS) [] E0 (tCons ta (tCons tb tNil))) σ H (Spc K CS p n) := fun H1 e1 Q q =>
  (eva_cons ha (eva_cons hb eva_nil)) H1 e1 _ fun vs H2 e2 ps x dx hx hd _ => by
    obtain ⟨u1, u2, rfl, a1, xs, a2, a3⟩ := allP2 ps
    obtain rfl := dp_int a1
    have s := same_makes (o1 := .own x) (o2 := .ins CS dx []) hx hd
    refine ⟨x, dx, p, n, xs, u2, rfl, upd_same, hf, hn, a2, Tp.same s _ _ a3, fun H' sO hS => ⟨rfl, q _ H' ?_ hS⟩⟩
    exact e2.trans fun b u h => sO _ _ (ne_of_none h hx) (s _ _ h)
theorem ev_isiB {b : Bool} (h : EV te σ H (D K (.bool b))) : EV (tCB (rIsi K) (tCons te (tCons (tC (.ty "bool")) tNil))) σ H (D K (.bool true)) :=
  ev_cb (eva_cons h (eva_cons (P := Is (.ty "bool")) ev_is eva_nil)) fun vs H1 _ ps Q q => by
    obtain ⟨v1, v2, rfl, p1, p2⟩ := allP2 ps
    obtain rfl := dp_bool p1
    obtain rfl : v2 = .ty "bool" := p2
    exact ⟨_, _, .type "bool", .type "bool", true, rfl, .ty _, .base (.bl b), kit_ty rfl, q _ H1 (Same.refl _) (.bl true)⟩
theorem ev_isiL {ds : List PyData} (h : EV te σ H (D K (.list ds))) : EV (tCB (rIsi K) (tCons te (tCons (tC (.ty "list")) tNil))) σ H (D K (.bool true)) :=
  ev_cb (eva_cons h (eva_cons (P := Is (.ty "list")) ev_is eva_nil)) fun vs H1 _ ps Q q => by
    obtain ⟨v1, v2, rfl, p1, p2⟩ := allP2 ps
    obtain ⟨a, xs, rfl, ha, _⟩ := dp_listT p1
    obtain rfl : v2 = .ty "list" := p2
    exact ⟨_, _, .type "list", .type "list", true, rfl, .ty _, .base (.lst ha), kit_ty rfl, q _ H1 (Same.refl _) (.bl true)⟩
theorem dX_ints : ∀ {is : List Nat} {vs : List V}, TpAll K H vs (is.map fun (i : Nat) => PyData.int (i : Int)) → vs = (is.map fun (i : Nat) => ((i : Nat) : Int)).map V.int
  | [], vs, h => by cases h; rfl
  | i :: is, vs, h => by
    cases h with
    | cons h1 h2 => rw [dp_int h1, dX_ints h2]; rfl
def SV (w : World) (ns : List Int) : VP := fun v H => ∃ a c, v = .ref a ∧ H a = some (SetO w a (fun j => decide (j ∈ ns)) c) ∧ c ≤ ns.length
instance (w : World) (ns : List Int) : Mono (SV w ns) := ⟨fun e h => by
  obtain ⟨a, c, rfl, h1, h2⟩ := h
  exact ⟨a, c, rfl, e _ _ h1, h2⟩⟩
theorem ev_sortedSet {is : List Nat} (h : EV te σ H (D K (dX is))) (up : is.Pairwise (· < ·)) (hl : is.length < 60) : EV (tCB (rSortedSet w) (tCons (tCB (rSetI w K) (tCons te tNil)) tNil)) σ H (D K (dX is)) := by
  have h1 : EV (tCB (rSetI w K) (tCons te tNil)) σ H (SV w (is.map fun (i : Nat) => ((i : Nat) : Int))) := ev_cb (eva_cons h eva_nil) fun vs H1 _ ps Q q => by
    obtain ⟨v, rfl, p⟩ := allP1 ps
    obtain ⟨a, xs, rfl, hq, hA⟩ := dp_list p
    have hxs := dX_ints hA
    exact ⟨a, is.map fun (i : Nat) => ((i : Nat) : Int), rfl, by rw [← hxs]; exact hq, by rw [List.length_map]; exact hl, fun s c ns hc => q _ _ (same_new ns) ⟨s, c, rfl, upd_same, hc⟩⟩
  refine ev_cb (eva_cons h1 eva_nil) fun vs H1 _ ps Q q => ?_
  obtain ⟨v, rfl, s, c, rfl, hs, hc⟩ := allP1 ps
  rw [List.length_map] at hc
  refine ⟨s, _, c, rfl, hs, by omega, fun ms r m1 m2 m3 nr => ?_⟩
  have hup : (is.map fun (i : Nat) => ((i : Nat) : Int)).Pairwise (· < ·) := by
    rw [List.pairwise_map]
    exact List.Pairwise.imp (fun {a b} hab => by omega) up
  have hms : ms = is.map fun (i : Nat) => ((i : Nat) : Int) := up_eq m1 hup fun k => by rw [m2, decide_eq_true_iff]
  subst hms
  refine q _ _ (same_new nr) (dp_new_list upd_same ?_)
  have hh : ∀ (H : Hp) (l : List Nat), TpAll K H ((l.map fun (i : Nat) => ((i : Nat) : Int)).map V.int) (l.map fun (i : Nat) => PyData.int (i : Int)) := fun H l => by
    induction l with
    | nil => exact .nil
    | cons a l ih => exact .cons (.int _) ih
  exact hh _ _
end
section
variable {P : Program} {w : World} {K : PySem.W.Frag} {mg : Str → Option Value} {base : Heap}
theorem mkFn {x : Str} {st : Stmt} {N ps : List Str} {k : Nat} {pre : List V → Hp → VP → Prop} {f : Addr} {fd : FuncData} (F : Fun K x x st f fd)
    (hb : ∀ (kV doc pm : Value) (an : Option Addr) (cdv ct : Value) (us : List Value), us.length = ps.length → bindArgs (PySem.W.fnOf x x (defArgs st) (defBody st) (defScope st) .none kV doc pm an cdv ct) ⟨us, []⟩ = pure (ps.zip us))
    (S : FnScope N ps (defScope st)) (len : ∀ vs H S, pre vs H S → vs.length = ps.length)
    (hbody : ∀ (f : Addr) (cdv : Value) (A : Around) (outer : List Env) (s : Shared) (H : Hp) (vs : List V) (S : VP) (Q : VK) (E : XK), Room k (A.deeper (envOfC x (defScope st) s.heap.objs.size f cdv)) → pre vs H S → (∀ v H', Same H H' → S v H' → Q v H') →
      ∃ t, PSs (cxOf CX0 P w K mg base N x (defScope st) f cdv A outer s H E).nox (defBody st) t ∧ t { nx := fun _ H' => Q .non H', rt := Q } (start N vs) H) : FnOk P w K mg base CX0 (k + 1) f fd ps (Prom pre) :=
  F.ok S (fun vs H Q E h => by
    obtain ⟨S', h1, _⟩ := h
    exact len _ _ _ h1) fun cdv A outer s H vs Q E hr h => by
    obtain ⟨S', h1, h2⟩ := h
    exact hbody f cdv A outer s H vs S' Q E hr h1 h2
end
theorem sc_law : FnScope ["_law_script", "_law_prime", "_law_count", "_law_space", "_law_equations_here", "_law_system", "_law_index", "_law_told", "_law_found", "_law_chosen", "_law_k"] ["_law_script"] (defScope (top 55)) := ⟨rfl, rfl, rfl, by decide +kernel, rfl, by decide +kernel, by decide +kernel⟩
section
variable {P : Program} {w : World} {K : PySem.W.Frag} {mg : Str → Option Value} {base : Heap} {CS CY : Addr}
theorem ok_law {fL : Addr} {fdL : FuncData} (T : Txt mg) (ky : KSy K CY) (F : Fun K "law" "law" (top 55) fL fdL) (c__law_shape : Cl P w K mg base 1 "_law_shape" (Prom (preShape K))) (c__law_cell : Cl P w K mg base 1 "_law_cell" (Prom (preCell K))) (c__law_names : Cl P w K mg base 1 "_law_names" (Prom (preNames K)))
    (c_Space : ClK P w K mg base 2 CS "Space" (spSpInit K CS)) (c_System : ClK P w K mg base 1 CY "System" (spSysInit K CS CY)) (c__law_more_equations : Cl P w K mg base 5 "_law_more_equations" (Prom (preMore K))) (c_is_needless : Cl P w K mg base 6 "is_needless" (Prom (preNeed K CS CY)))
    (c__law_needless : Cl P w K mg base 4 "_law_needless" (Prom (preNdl K))) (c_lean : Cl P w K mg base 6 "lean" (Prom (preLean K CS CY))) (c__law_solutions : Cl P w K mg base 3 "_law_solutions" (Prom (preSols K))) (c_judge_lean : Cl P w K mg base 6 "judge_lean" (Prom (preJdg K CS CY))) :
    FnOk P w K mg base CX0 7 fL fdL ["_law_script"] (Prom (preLaw K)) := by
  refine mkFn F (ps := ["_law_script"]) (fun _ _ _ _ _ _ us hl => match us, hl with | [_], _ => rfl) sc_law ?_ fun f cdv A outer s H vs S Q E hr h q => ?_
  · rintro vs H S ⟨_, _, rfl, _⟩; rfl
  · obtain ⟨ns, v0, rfl, hsc, rfl⟩ := h
    refine ⟨_, pss_cons (ps_asg (pe_k c__law_shape hr (by decide) rfl (pa_cons (pe_op op_mod (pe_callTy cr_int rfl T.int rfl (pa_cons (pe_k c__law_cell hr (by decide) rfl (pa_cons (pv 0) (pa_cons pe_int pa_nil))) pa_nil)) pe_int) pa_nil)) (pg_tupK K (n := 2) (pgs_cons (pg_name (i := 1) sc_law.nd rfl (.inr rfl)) (pgs_cons (pg_name (i := 2) sc_law.nd rfl (.inr rfl)) pgs_nil))))
      (pss_cons (ps_set (i := 3) sc_law.nd rfl (.inl rfl) (pe_kc c_Space hr (by decide) rfl (pa_cons (pv 1) (pa_cons (pe_k c__law_names hr (by decide) rfl (pa_cons (pe_k c__law_cell hr (by decide) rfl (pa_cons (pv 0) (pa_cons pe_int pa_nil))) (pa_cons (pv 2) pa_nil))) pa_nil))))
      (pss_cons (ps_set (i := 4) sc_law.nd rfl (.inr rfl) (pe_k c__law_more_equations hr (by decide) rfl (pa_cons (pv 1) (pa_cons (pv 2) (pa_cons (pe_k c__law_cell hr (by decide) rfl (pa_cons (pv 0) (pa_cons pe_int pa_nil))) (pa_cons (pe_k c__law_cell hr (by decide) rfl (pa_cons (pv 0) (pa_cons pe_int pa_nil))) pa_nil))))))
      (pss_cons (ps_set (i := 5) sc_law.nd rfl (.inl rfl) (pe_kc c_System hr (by decide) rfl (pa_cons (pv 3) (pa_cons (pe_callTy (cr_listK K) rfl T.list rfl (pa_cons (pv 4) pa_nil)) pa_nil))))
      (pss_cons (ps_for PassesOwn.never rfl (pi_range1 rfl T.range (pa_cons (pe_callB (cr_lenK K) rfl T.len rfl (pa_cons (pv 4) pa_nil)) pa_nil)) (pg_name (i := 6) sc_law.nd rfl (.inl rfl))
        (pss_cons (ps_set (i := 7) sc_law.nd rfl (.inl rfl) (pe_k c_is_needless hr (by decide) rfl (pa_cons (pv 5) (pa_cons (pv 6) pa_nil))))
        (pss_one (ps_if (PW.pt (pw_or (pt_not (pt_val (pe_callB call_isi rfl T.isinst rfl (pa_cons (pv 7) (pa_cons (pe_bltn rfl T.bool (u := .type "bool") rfl (show RelV (.ty "bool") (.type "bool") from rfl)) pa_nil))))) (pw_or1 (pt_cmpR op_ne (pv 7) (pe_k c__law_needless hr (by decide) rfl (pa_cons (pv 1) (pa_cons (pv 2) (pa_cons (pv 4) (pa_cons (pv 6) pa_nil))))) rfl))))
          (pss_one (ps_ret pe_bl))
          pss_nil))))
      (pss_cons (ps_set (i := 8) sc_law.nd rfl (.inl rfl) (pe_k c_lean hr (by decide) rfl (pa_cons (pv 5) pa_nil)))
      (pss_cons (ps_if (PW.pt (pw_or (pt_not (pt_val (pe_callB call_isi rfl T.isinst rfl (pa_cons (pv 8) (pa_cons (pe_bltn rfl T.list (u := .type "list") rfl (show RelV (.ty "list") (.type "list") from rfl)) pa_nil))))) (pw_or1 (pt_cmpR (op_neD hr.units) (pv 8) (pe_callB (cr_sortedSet rfl) rfl T.sorted rfl (pa_cons (pe_callTy (cr_setI rfl) rfl T.set rfl (pa_cons (pv 8) pa_nil)) pa_nil)) rfl))))
        (pss_one (ps_ret pe_bl))
        pss_nil)
      (pss_cons (ps_if (pt_not (pt_val (pe_callB (cr_allK K) rfl T.all rfl (pa_cons (pe_lc rfl sc_law.nd (pi_listK K (pv 8)) (blkOk_by (own := [("_law_index", 6)]) (N := ["_law_script", "_law_prime", "_law_count", "_law_space", "_law_equations_here", "_law_system", "_law_index", "_law_told", "_law_found", "_law_chosen", "_law_k"]) (sc := (defScope (top 55))) (by decide +kernel)) (fun _ _ _ _ _ => (pg_name (i := 6) sc_law.nd rfl (.inl rfl))) (fun _ _ _ _ _ => pts_nil) (fun _ _ _ _ _ => (pe_chain op_le op_lt pe_int (pv 6) (pe_callB (cr_lenK K) rfl T.len rfl (pa_cons (pv 4) pa_nil))))) pa_nil))))
        (pss_one (ps_ret pe_bl))
        pss_nil)
      (pss_cons (ps_set (i := 9) sc_law.nd rfl (.inr rfl) (pe_lc rfl sc_law.nd (pi_listK K (pv 8)) (blkOk_by (own := [("_law_index", 6)]) (N := ["_law_script", "_law_prime", "_law_count", "_law_space", "_law_equations_here", "_law_system", "_law_index", "_law_told", "_law_found", "_law_chosen", "_law_k"]) (sc := (defScope (top 55))) (by decide +kernel)) (fun _ _ _ _ _ => (pg_name (i := 6) sc_law.nd rfl (.inl rfl))) (fun _ _ _ _ _ => pts_nil) (fun _ _ _ _ _ => (pe_ix (ix_listK K) (pv 4) (pv 6) (fun _ _ => rfl)))))
      (pss_cons (ps_if (pt_cmpR (op_neD hr.units) (pe_k c__law_solutions hr (by decide) rfl (pa_cons (pv 1) (pa_cons (pv 2) (pa_cons (pv 9) pa_nil)))) (pe_k c__law_solutions hr (by decide) rfl (pa_cons (pv 1) (pa_cons (pv 2) (pa_cons (pv 4) pa_nil)))) rfl)
        (pss_one (ps_ret pe_bl))
        pss_nil)
      (pss_cons (ps_if (pt_val (pe_callB (cr_anyK K) rfl T.any rfl (pa_cons (pe_lc rfl sc_law.nd (pi_range1 rfl T.range (pa_cons (pe_callB (cr_lenK K) rfl T.len rfl (pa_cons (pv 9) pa_nil)) pa_nil)) (blkOk_by (own := [("_law_k", 10)]) (N := ["_law_script", "_law_prime", "_law_count", "_law_space", "_law_equations_here", "_law_system", "_law_index", "_law_told", "_law_found", "_law_chosen", "_law_k"]) (sc := (defScope (top 55))) (by decide +kernel)) (fun _ _ _ _ _ => (pg_name (i := 10) sc_law.nd rfl (.inl rfl))) (fun _ _ _ _ _ => pts_nil) (fun _ _ _ _ _ => (pe_k c__law_needless hr (by decide) rfl (pa_cons (pv 1) (pa_cons (pv 2) (pa_cons (pv 9) (pa_cons (pv 10) pa_nil))))))) pa_nil)))
        (pss_one (ps_ret pe_bl))
        pss_nil)
      (pss_one (ps_ret (pe_and (pe_cmpR op_isBl (pe_k c_judge_lean hr (by decide) rfl (pa_cons (pv 5) (pa_cons (pe_callTy (cr_listK K) rfl T.list rfl (pa_cons (pv 8) pa_nil)) pa_nil))) pe_bl rfl) (pe_one (pe_cmpR (op_eqD hr.units) (pe_fldK K (pv 5)) (pv 4) rfl))))))))))))))), ?_⟩
    have cell : ∀ {σ : Slots} {H1 : Hp} (k : Nat), k < 100 → Same H H1 → σ[0]? = some (some v0) → EV (tCall (Prom (preCell K)) [] E0 (tCons (tVar 0) (tCons (tC (.int (k : Int))) tNil))) σ H1 (D K (.int (ns.getD k 0))) := fun k hk s h0 =>
      ev_call (eva_cons (P := Scr K ns) (ev_var h0 (Mono.go s hsc)) (eva_cons (P := D K (.int (k : Int))) ev_int eva_nil)) fun vs H2 s2 ps => by
        obtain ⟨u1, u2, rfl, a1, a2⟩ := allP2 ps
        rw [dp_int a2]
        exact ⟨ns, k, u1, rfl, a1, hk, rfl⟩
    obtain ⟨i0, hi0, hie⟩ : ∃ i : Nat, i < 10 ∧ ns.getD 0 0 % 10 = (i : Int) := ⟨(ns.getD 0 0 % 10).toNat, by omega, by omega⟩
    obtain ⟨p, n, hpn, sm, hn, hfit⟩ := shape_fit i0 hi0
    refine q_asg2 (K := K) (d1 := .int p) (d2 := .int (n : Int)) (ev_call (eva_cons (P := D K (.int (i0 : Int))) ((ev_iiC (f := fun i j => i % j) (ev_intI (cell 0 (by decide) (Same.refl _) rfl)) ev_int (by decide)).eqD (by rw [hie])) eva_nil) ?_) fun v1 v2 H1 s1 hv1 hv2 => ?_
    · intro vs H2 s2 ps
      obtain ⟨u1, rfl, a1⟩ := allP1 ps
      rw [dp_int a1]
      exact ⟨i0, rfl, by omega, by rw [hpn]⟩
    obtain rfl := dp_int hv1
    obtain rfl := dp_int hv2
    refine q_asg (P := Spc K CS p n) (ev_space_mk (ev_vi rfl) (ev_call (eva_cons (P := D K (.int (ns.getD 1 0))) (cell 1 (by decide) s1 rfl) (eva_cons (P := D K (.int (n : Int))) (ev_vi rfl) eva_nil)) ?_) hfit hn) fun v3 H2 s2 hv3 => ?_
    · intro vs H2 s2 ps
      obtain ⟨u1, u2, rfl, a1, a2⟩ := allP2 ps
      rw [dp_int a1, dp_int a2]
      exact ⟨_, n, rfl, by have := sm.n; omega, rfl⟩
    refine q_asg (P := DS K (EqsOk p n 6 252) dEqs) (ev_call (eva_cons (P := D K (.int p)) (ev_vi rfl) (eva_cons (P := D K (.int (n : Int))) (ev_vi rfl) (eva_cons (P := D K (.int (ns.getD 2 0))) (cell 2 (by decide) (s1.trans s2) rfl) (eva_cons (P := D K (.int (ns.getD 3 0))) (cell 3 (by decide) (s1.trans s2) rfl) eva_nil)))) ?_) fun v4 H3 s3 hv4 => ?_
    · intro vs H3 s3 ps
      obtain ⟨u1, u2, u3, u4, rfl, a1, a2, a3, a4⟩ := allP4 ps
      rw [dp_int a1, dp_int a2, dp_int a3, dp_int a4]
      exact ⟨p, _, _, n, rfl, sm, hn, rfl⟩
    obtain ⟨eqs, ok, hE⟩ := hv4
    have hE3 : D K (dEqs eqs) v4 H3 := hE
    have hm := ok.1
    refine q_asg (P := Sys K CS CY p n eqs) (ev_system (ev_var rfl (Mono.go s3 hv3)) (ev_lstL (ds := eqs.map dPoly) (ev_var rfl hE3))) fun v5 H4 s4 hv5 => ?_
    have hE4 : D K (dEqs eqs) v4 H4 := Mono.go s4 hE3
    have needE : ∀ {σ : Slots} {H5 : Hp} (gs : List Poly) (vg : V) (a i : Nat) (M : Nat), D K (dEqs gs) vg H5 → EqsOk p n M 252 gs → M ≤ 1000 → σ[1]? = some (some (.int p)) → σ[2]? = some (some (.int (n : Int))) → σ[a]? = some (some vg) → ∀ b, σ[b]? = some (some (.int (i : Int))) → i < gs.length →
        EV (tCall (Prom (preNdl K)) [] E0 (tCons (tVar 1) (tCons (tVar 2) (tCons (tVar a) (tCons (tVar b) tNil))))) σ H5 (D K (.bool (ndl p n gs i))) := fun gs vg a i M hg hok hM h1 h2 ha b hb hi =>
      ev_call (eva_cons (P := D K (.int p)) (ev_vi h1) (eva_cons (P := D K (.int (n : Int))) (ev_vi h2) (eva_cons (P := D K (dEqs gs)) (ev_var ha hg) (eva_cons (P := D K (.int (i : Int))) (ev_vi hb) eva_nil)))) fun vs H6 s6 ps => by
        obtain ⟨u1, u2, u3, u4, rfl, a1, a2, a3, a4⟩ := allP4 ps
        rw [dp_int a1, dp_int a2, dp_int a4]
        exact ⟨p, n, M, 252, i, gs, u3, rfl, sm, a3, hok, hM, by decide, hi, rfl⟩
    refine q_forR (K := K) (n := (eqs.length : Int)) (eva_cons ((ev_lenL (ds := eqs.map dPoly) (ev_var rfl hE4)).eqD (by rw [List.length_map])) eva_nil) (by omega) (by omega)
      (fun i σ' H' => ∃ (y z : Option V), Same H4 H' ∧ σ' = [some v0, some (.int p), some (.int (n : Int)), some v3, some v4, some v5, y, z, none, none, none]) (fun H5 s5 => ⟨_, _, s5, rfl⟩) ?_ ?_
    · rintro i σ' H' hi ⟨y, z, sI, rfl⟩
      have hin : i < eqs.length := by omega
      refine q_asg (P := D K (.bool (flw p n eqs (List.range eqs.length) i))) (ev_call (eva_cons (P := Sys K CS CY p n eqs) (ev_var rfl (Mono.go sI hv5)) (eva_cons (P := D K (.int (i : Int))) (ev_vi rfl) eva_nil)) ?_) fun v7 H7 s7 hv7 => ?_
      · intro vs H6 s6 ps
        obtain ⟨u1, u2, rfl, a1, a2⟩ := allP2 ps
        rw [dp_int a2]
        exact ⟨p, n, 6, 252, eqs, i, u1, rfl, sm, hn, a1, ok, by decide, by decide, hin, rfl⟩
      refine s_if (b := false) ((evt_or (evt_not (evt_B (K := K) (ev_isiB (ev_var rfl hv7)))) fun _ => evt_test (K := K) (ev_neB (ev_var rfl hv7) (needE eqs v4 4 i 6 (Mono.go (P := D K (dEqs eqs)) (sI.trans s7) hE4) ok (by decide) rfl rfl rfl 6 rfl hin))).to ?_) (fun hb => by cases hb) fun _ H8 s8 => ⟨_, _, (sI.trans s7).trans s8, rfl⟩
      rw [need_law hin, decide_eq_true rfl]; rfl
    · rintro σ' H5 ⟨y, z, s5, rfl⟩
      have hE5 : D K (dEqs eqs) v4 H5 := Mono.go s5 hE4
      have hS5 : Sys K CS CY p n eqs v5 H5 := Mono.go s5 hv5
      have hLl : (leanF p n eqs).length ≤ eqs.length := by
        have h := (List.Nodup.length_le_of_subset (lean_nd (p := p) (n := n) (eqs := eqs)) (fun k hk => List.mem_range.mpr (lean_lt k hk) : leanF p n eqs ⊆ List.range eqs.length))
        rw [List.length_range] at h; exact h
      have ok2 : EqsOk p n (leanF p n eqs).length 252 (sel eqs (leanF p n eqs)) := sel_ok ok lean_lt
      refine q_asg (P := D K (dX (leanF p n eqs))) (ev_call (eva_cons (P := Sys K CS CY p n eqs) (ev_var rfl hS5) eva_nil) ?_) fun v8 H6 s6 hv8 => ?_
      · intro vs H6 s6 ps
        obtain ⟨u1, rfl, a1⟩ := allP1 ps
        exact ⟨p, n, 6, 252, eqs, u1, rfl, sm, hn, a1, ok, by decide, by decide, rfl⟩
      refine q_ifE (b := false) ((evt_or (evt_not (evt_B (K := K) (ev_isiL (ev_var (P := D K (dX (leanF p n eqs))) rfl hv8)))) fun _ => evt_test (K := K) (ev_neSame (sh_dX _) (by decide) (ev_var rfl hv8) (ev_sortedSet (ev_var rfl hv8) lean_up (by omega)))).to rfl) (fun hb => by cases hb) fun _ H7 s7 => ?_
      have hE7 : D K (dEqs eqs) v4 H7 := Mono.go (s6.trans s7) hE5
      have hX7 : D K (dX (leanF p n eqs)) v8 H7 := Mono.go s7 hv8
      refine q_ifE (b := false) ((evt_not (evt_B (K := K) (ev_allL (ns := (leanF p n eqs).map fun (i : Nat) => decide ((0 : Int) ≤ (i : Int)) && decide ((i : Int) < (eqs.length : Int))) ?_))).to ?_) (fun hb => by cases hb) fun _ H8 s8 => ?_
      · refine (ev_lcL (xs := leanF p n eqs) (enc := fun (i : Nat) => .int (i : Int)) (p := fun _ => true) (e := fun (i : Nat) => .bool (decide ((0 : Int) ≤ (i : Int)) && decide ((i : Int) < (eqs.length : Int)))) (ev_var rfl hX7) (by omega) (fun _ => rfl) ?_).eqD (by rw [gath_all, List.map_map]; rfl)
        intro i him x H9 s9 hx
        obtain rfl := dp_int hx
        exact item_name rfl evt_yes fun _ => ev_chain (f := fun i j => decide (i ≤ j)) (g := fun i j => decide (i < j)) ev_int (ev_vi rfl) ((ev_lenL (ds := eqs.map dPoly) (ev_var rfl (Mono.go (P := D K (dEqs eqs)) s9 hE7))).eqD (by rw [List.length_map]))
      · rw [List.all_map]
        have : ((leanF p n eqs).all (id ∘ fun (i : Nat) => decide ((0 : Int) ≤ (i : Int)) && decide ((i : Int) < (eqs.length : Int)))) = true := by
          rw [List.all_eq_true]
          intro i him
          have := lean_lt i him
          show (decide ((0 : Int) ≤ (i : Int)) && decide ((i : Int) < (eqs.length : Int))) = true
          rw [decide_eq_true (by omega), decide_eq_true (by omega)]; rfl
        rw [this]; rfl
      have hE8 : D K (dEqs eqs) v4 H8 := Mono.go s8 hE7
      have hX8 : D K (dX (leanF p n eqs)) v8 H8 := Mono.go s8 hX7
      refine q_asg (P := D K (dEqs (sel eqs (leanF p n eqs)))) ((ev_lcL (xs := leanF p n eqs) (enc := fun (i : Nat) => .int (i : Int)) (p := fun _ => true) (e := fun i => dPoly (eqs.getD i [])) (ev_var rfl hX8) (by omega) (fun _ => nl_dPoly _) ?_).eqD (by rw [gath_all]; unfold dEqs sel; rw [List.map_map]; rfl)) fun v9 H9 s9 hv9 => ?_
      · intro i him x H9 s9 hx
        obtain rfl := dp_int hx
        have hl := lean_lt i him
        exact item_name rfl evt_yes fun _ => ev_ixL (ds := eqs.map dPoly) (k := i) (ev_var rfl (Mono.go (P := D K (dEqs eqs)) s9 hE8)) (ev_vi rfl) rfl (by rw [List.getElem?_map, List.getElem?_eq_getElem hl, getD_in hl]; rfl)
      have hE9 : D K (dEqs eqs) v4 H9 := Mono.go s9 hE8
      refine q_ifE (b := false) (evt_test (K := K) (ev_neSame (sh_dPts (sols p n eqs)) (by decide) (ev_call (S := D K (dPts (sols p n eqs))) (eva_cons (P := D K (.int p)) (ev_vi rfl) (eva_cons (P := D K (.int (n : Int))) (ev_vi rfl) (eva_cons (P := D K (dEqs (sel eqs (leanF p n eqs)))) (ev_var rfl hv9) eva_nil))) ?_) (ev_call (S := D K (dPts (sols p n eqs))) (eva_cons (P := D K (.int p)) (ev_vi rfl) (eva_cons (P := D K (.int (n : Int))) (ev_vi rfl) (eva_cons (P := D K (dEqs eqs)) (ev_var rfl hE9) eva_nil))) ?_))) (fun hb => by cases hb) fun _ Ha sa => ?_
      · intro vs Hb sb ps
        obtain ⟨u1, u2, u3, rfl, a1, a2, a3⟩ := allP3 ps
        rw [dp_int a1, dp_int a2]
        exact ⟨p, n, _, 252, _, u3, rfl, sm, a3, ok2, by omega, by decide, by rw [lean_sols]⟩
      · intro vs Hb sb ps
        obtain ⟨u1, u2, u3, rfl, a1, a2, a3⟩ := allP3 ps
        rw [dp_int a1, dp_int a2]
        exact ⟨p, n, 6, 252, eqs, u3, rfl, sm, a3, ok, by decide, by decide, rfl⟩
      have hC : D K (dEqs (sel eqs (leanF p n eqs))) v9 Ha := Mono.go sa hv9
      have hsl : (sel eqs (leanF p n eqs)).length = (leanF p n eqs).length := by unfold sel; rw [List.length_map]
      refine q_ifE (b := false) ((evt_B (K := K) (ev_anyL (ns := (List.range (sel eqs (leanF p n eqs)).length).map fun j => if j < (sel eqs (leanF p n eqs)).length then ndl p n (sel eqs (leanF p n eqs)) j else false) ?_)).to ?_) (fun hb => by cases hb) fun _ Hb sb => ?_
      · refine (ev_lcR (n := ((sel eqs (leanF p n eqs)).length : Int)) (p := fun _ => true) (e := fun j => .bool (if j < (sel eqs (leanF p n eqs)).length then ndl p n (sel eqs (leanF p n eqs)) j else false)) (eva_cons ((ev_lenL (ds := (sel eqs (leanF p n eqs)).map dPoly) (ev_var rfl hC)).eqD (by rw [List.length_map])) eva_nil) (by omega) (by omega) (fun _ => rfl) ?_).eqD (by rw [gath_all, Int.toNat_natCast, List.map_map]; rfl)
        intro j hj Hc sc
        have hjn : j < (sel eqs (leanF p n eqs)).length := by omega
        refine item_name rfl evt_yes fun _ => ?_
        rw [if_pos hjn]
        exact needE (sel eqs (leanF p n eqs)) v9 9 j _ (Mono.go (P := D K (dEqs (sel eqs (leanF p n eqs)))) sc hC) ok2 (by omega) rfl rfl rfl 10 rfl hjn
      · rw [List.any_map, List.any_eq_false]
        intro j hj
        have hjn := List.mem_range.mp hj
        show ¬ (if j < (sel eqs (leanF p n eqs)).length then ndl p n (sel eqs (leanF p n eqs)) j else false) = true
        rw [if_pos hjn, lean_ndl j hjn]; exact Bool.false_ne_true
      have sH : Same H5 Hb := ((((s6.trans s7).trans s8).trans s9).trans sa).trans sb
      have hSb : Sys K CS CY p n eqs v5 Hb := Mono.go sH hS5
      have hEb : D K (dEqs eqs) v4 Hb := Mono.go sH hE5
      have hXb : D K (dX (leanF p n eqs)) v8 Hb := Mono.go ((s9.trans sa).trans sb) hX8
      refine s_ret (P := D K (.bool true)) ((ev_andV (b := true) (c := true) (ev_op (P := D K (.bool true)) (R := D K (.bool true)) (S := D K (.bool true)) (ev_call (eva_cons (P := Sys K CS CY p n eqs) (ev_var rfl hSb) (eva_cons (P := D K (dX (leanF p n eqs))) (ev_lstL (ds := (leanF p n eqs).map fun (i : Nat) => .int (i : Int)) (ev_var (P := D K (dX (leanF p n eqs))) rfl hXb)) eva_nil)) ?_) ev_bl ?_) fun _ => ev_eqSame (sh_dEqs eqs) (by decide) (ev_eqs ky (ev_var rfl hSb)) (ev_var rfl hEb)).eqD rfl) fun v Hc sc hvc => q v Hc (((((s1.trans s2).trans s3).trans s4).trans s5).trans (sH.trans sc)) hvc
      · intro vs Hc sc ps
        obtain ⟨u1, u2, rfl, a1, a2⟩ := allP2 ps
        exact ⟨p, n, 6, 252, eqs, leanF p n eqs, u1, u2, rfl, sm, hn, a1, ok, by decide, by decide, a2, lean_lt, lean_up, by omega, by rw [lean_jdg]⟩
      · intro x y Hc sc px py Q2 q2
        obtain rfl := dp_bool px
        obtain rfl := dp_bool py
        exact ⟨true, true, rfl, rfl, q2 _ Hc (Same.refl _) (.bl _)⟩
end
end SPw
namespace SPw
open PySem PySem.Spec PyProof.Rows L2
section
variable {K : PySem.W.Frag} {h : Heap} {mg : Str → Option Value}
theorem at_of {x : Str} {st : Stmt} {f : Addr} {oc : Value} {od an : Option Addr} {osl : Array (Option Value)} {kV doc pm cdv ct : Value} (X : K.In h) (G : h.Ns mainGlobals mg) (a : PySem.W.nsIn K mainGlobals x = some (some (.ref f)))
    (l : K.lookup f = some ⟨oc, od, .func (PySem.W.fnOf x x (defArgs st) (defBody st) (defScope st) .none kV doc pm an cdv ct), osl⟩) (c : PySem.W.codeIn K cdv x = true) (k : PySem.W.keepIn K (.ref f) = true) : DefAt K mg x st :=
  ⟨f, _, fun_mk l c k, PySem.W.mg_of X G a⟩
theorem glob_of {x : Str} {u : Value} {v : V} (X : K.In h) (G : h.Ns mainGlobals mg) (a : PySem.W.nsIn K mainGlobals x = some (some u)) (r : RelV v u) : ∃ u, mg x = some u ∧ RelV v u := ⟨u, PySem.W.mg_of X G a, r⟩
/-- a class of the text that is made -/
structure AtC (K : PySem.W.Frag) (mg : Str → Option Value) (x : Str) (C : Addr) (qual : Str) (st : Stmt) : Prop where
  cl : Cls K C
  here : mg x = some (.ref C)
  ini : ∃ f fd, Fun K "__init__" qual st f fd ∧ Mk K C f
theorem c_of {x qual : Str} {C f : Addr} {st : Stmt} {oc : Value} {od an : Option Addr} {osl : Array (Option Value)} {kV doc pm cdv ct : Value} (X : K.In h) (G : h.Ns mainGlobals mg) (a : PySem.W.nsIn K mainGlobals x = some (some (.ref C)))
    (b : PySem.W.findIn K (.ref C) "__init__" = some (some (.ref f))) (i : PySem.W.isFn K (.ref f) = true) (l : K.lookup f = some ⟨oc, od, .func (PySem.W.fnOf "__init__" qual (defArgs st) (defBody st) (defScope st) .none kV doc pm an cdv ct), osl⟩)
    (c : PySem.W.codeIn K cdv qual = true) (k : PySem.W.keepIn K (.ref f) = true) (pg : PySem.W.plainGet K C Str.empty = true) (hd : PySem.W.hasDictIn K C = true) (po : PySem.W.plainOver K C = true)
    (sa : PySem.W.findIn K (.ref C) "__setattr__" = some (some (.builtin "object.__setattr__"))) (mk : PySem.W.makesIn K C = true) (kc : PySem.W.keepIn K (.ref C) = true) : AtC K mg x C qual st :=
  ⟨⟨pg, hd, po, sa⟩, PySem.W.mg_of X G a, f, _, fun_mk l c k, ⟨mk, b, i, kc⟩⟩
structure AtM (K : PySem.W.Frag) (C : Addr) (m qual : Str) (st : Stmt) : Prop where
  ex : ∃ f fd, Fun K m qual st f fd ∧ Meth K C m f
theorem m_of {C f : Addr} {m qual : Str} {st : Stmt} {oc : Value} {od an : Option Addr} {osl : Array (Option Value)} {kV doc pm cdv ct : Value} (b : PySem.W.findIn K (.ref C) m = some (some (.ref f))) (i : PySem.W.isFn K (.ref f) = true)
    (l : K.lookup f = some ⟨oc, od, .func (PySem.W.fnOf m qual (defArgs st) (defBody st) (defScope st) .none kV doc pm an cdv ct), osl⟩) (c : PySem.W.codeIn K cdv qual = true) (k : PySem.W.keepIn K (.ref f) = true) : AtM K C m qual st :=
  ⟨f, _, fun_mk l c k, ⟨b, i, k⟩⟩
theorem primes_of {a : Addr} {o : Obj} {t1 t2 t3 t4 : Tok} {n : Nat} (X : K.In h) (G : h.Ns mainGlobals mg) (g : PySem.W.nsIn K mainGlobals "PRIMES" = some (some (.ref a))) (l : K.lookup a = some o) (ho : o = { cls := .type "tuple", data := .seq #[.int 2 t1, .int 3 t2, .int 5 t3, .int 7 t4] n }) :
    ∃ a, mg "PRIMES" = some (.ref a) ∧ ∀ H, SqT K H a [.int 2, .int 3, .int 5, .int 7] := by
  subst ho
  exact ⟨a, PySem.W.mg_of X G g, fun H => .inr ⟨_, _, n, l, rfl, rfl, Nat.le_trans (by decide : (4 : Nat) ≤ 1000000) sizeL, .cons ⟨_, rfl⟩ (.cons ⟨_, rfl⟩ (.cons ⟨_, rfl⟩ (.cons ⟨_, rfl⟩ .nil)))⟩⟩
theorem mop_of {a : Addr} {o : Obj} {t1 t2 t3 t4 u1 u2 u3 u4 : Tok} {n : Nat} (X : K.In h) (G : h.Ns mainGlobals mg) (g : PySem.W.nsIn K mainGlobals "MOST_OF_PRIME" = some (some (.ref a))) (l : K.lookup a = some o)
    (ho : o = { cls := .type "dict", dict := none, data := .dict #[⟨2, .int 2 t1, .int 8 u1⟩, ⟨3, .int 3 t2, .int 5 u2⟩, ⟨5, .int 5 t3, .int 3 u3⟩, ⟨7, .int 7 t4, .int 2 u4⟩] n, slots := #[] }) :
    ∃ a o, mg "MOST_OF_PRIME" = some (.ref a) ∧ K.lookup a = some o ∧ IntD o mopT := by
  subst ho
  exact ⟨a, _, PySem.W.mg_of X G g, l, _, n, rfl, .cons ⟨_, rfl⟩ ⟨_, rfl⟩ (by show (2 : Int) = hashInt 2; decide +kernel) (.cons ⟨_, rfl⟩ ⟨_, rfl⟩ (by show (3 : Int) = hashInt 3; decide +kernel) (.cons ⟨_, rfl⟩ ⟨_, rfl⟩ (by show (5 : Int) = hashInt 5; decide +kernel) (.cons ⟨_, rfl⟩ ⟨_, rfl⟩ (by show (7 : Int) = hashInt 7; decide +kernel) .nil)))⟩
end

theorem fin {P : Program} {w : World} {K : PySem.W.Frag} {mg : Str → Option Value} {fa fL CS CY : Addr} {oc : Value} {od an : Option Addr} {osl : Array (Option Value)} {kV doc pm cdv ct : Value} (hfa : mg "law" = some (.ref fa)) (hfL : mg "law" = some (.ref fL))
    (lL : K.lookup fL = some ⟨oc, od, .func (PySem.W.fnOf "law" "law" (defArgs (top 55)) (defBody (top 55)) (defScope (top 55)) .none kV doc pm an cdv ct), osl⟩) (cL : PySem.W.codeIn K cdv "law" = true) (kL : PySem.W.keepIn K (.ref fL) = true)
    (T : Txt mg) (T2 : Txt2 K mg) (cS : AtC K mg "Space" CS "Space.__init__" (inClass (top 19) 0)) (n1 : PySem.W.findIn K (.ref CS) "prime" = some none) (n2 : PySem.W.findIn K (.ref CS) "names" = some none) (n3 : PySem.W.findIn K (.ref CS) "count" = some none) (mP : AtM K CS "points" "Space.points" (inClass (top 19) 1))
    (cY : AtC K mg "System" CY "System.__init__" (inClass (top 27) 0)) (n4 : PySem.W.findIn K (.ref CY) "space" = some none) (n5 : PySem.W.findIn K (.ref CY) "equations" = some none)
    (d_raised_number : DefAt K mg "raised_number" (top 11)) (d_tuples_of : DefAt K mg "tuples_of" (top 12)) (d_inverse : DefAt K mg "inverse" (top 13)) (d_is_name : DefAt K mg "is_name" (top 14)) (d_value_of : DefAt K mg "value_of" (top 18)) (d_from_numbers : DefAt K mg "from_numbers" (top 21)) (d_value : DefAt K mg "value" (top 22)) (d_numbers_of : DefAt K mg "numbers_of" (top 24)) (d_polynomial_of : DefAt K mg "polynomial_of" (top 25)) (d_factors : DefAt K mg "factors" (top 28)) (d_chosen : DefAt K mg "chosen" (top 30)) (d_follows_from : DefAt K mg "follows_from" (top 31)) (d_is_needless : DefAt K mg "is_needless" (top 32)) (d_lean : DefAt K mg "lean" (top 33)) (d_judge_lean : DefAt K mg "judge_lean" (top 34)) (d__law_cell : DefAt K mg "_law_cell" (top 36)) (d__law_digits : DefAt K mg "_law_digits" (top 37)) (d__law_shape : DefAt K mg "_law_shape" (top 38)) (d__law_names : DefAt K mg "_law_names" (top 39)) (d__law_points : DefAt K mg "_law_points" (top 40)) (d__law_made : DefAt K mg "_law_made" (top 41)) (d__law_drawn : DefAt K mg "_law_drawn" (top 42)) (d__law_power_value : DefAt K mg "_law_power_value" (top 43)) (d__law_value : DefAt K mg "_law_value" (top 44)) (d__law_plus : DefAt K mg "_law_plus" (top 45)) (d__law_scaled : DefAt K mg "_law_scaled" (top 46)) (d__law_minus : DefAt K mg "_law_minus" (top 47)) (d__law_lessened : DefAt K mg "_law_lessened" (top 48)) (d__law_times : DefAt K mg "_law_times" (top 49)) (d__law_constant : DefAt K mg "_law_constant" (top 50)) (d__law_equations : DefAt K mg "_law_equations" (top 51)) (d__law_solutions : DefAt K mg "_law_solutions" (top 52)) (d__law_more_equations : DefAt K mg "_law_more_equations" (top 53)) (d__law_needless : DefAt K mg "_law_needless" (top 54)) :
    ∃ fd : FuncData, (∀ (s : Shared) (v : Value), BindsTo s fd ⟨[v], []⟩ [("_law_script", v)]) ∧ ∀ base : Heap, K.In base → base.Ns mainGlobals mg → FnOk P w K mg base CX0 7 fa fd ["_law_script"] (Prom (preLaw K)) := by
  have e := hfa.symm.trans hfL
  cases e
  refine ⟨PySem.W.fnOf "law" "law" (defArgs (top 55)) (defBody (top 55)) (defScope (top 55)) .none kV doc pm an cdv ct, fun s v => .of_eq rfl, fun base _ _ => ?_⟩
  have k : KSp K CS := ⟨cS.cl, n1, n2, n3⟩
  have ky : KSy K CY := ⟨cY.cl, n4, n5⟩
  have raised := cl_raised (P := P) (w := w) (K := K) (mg := mg) (base := base) T d_raised_number
  have tuples := cl_tuples (P := P) (w := w) (base := base) T d_tuples_of
  have inverse := cl_inverse (P := P) (w := w) (base := base) T d_inverse raised
  have valueof := cl_value_of (P := P) (w := w) (base := base) T k d_value_of raised
  have value := cl_value (P := P) (w := w) (base := base) T k d_value valueof
  have cell := cl_cell (P := P) (w := w) (base := base) T d__law_cell
  have digits := cl_digits (P := P) (w := w) (base := base) T d__law_digits
  have shape := cl_shape (P := P) (w := w) (base := base) T d__law_shape
  have names := cl_names (P := P) (w := w) (base := base) T d__law_names
  have lpoints := cl_points (P := P) (w := w) (base := base) T d__law_points
  have lpv := cl_pv (P := P) (w := w) (base := base) T d__law_power_value
  have lv := cl_lv (P := P) (w := w) (base := base) T d__law_value lpv
  have made := cl_made (P := P) (w := w) (base := base) T d__law_made
  have plus := cl_plus (P := P) (w := w) (base := base) T d__law_plus made
  have scaled := cl_scaled (P := P) (w := w) (base := base) T d__law_scaled
  have minus := cl_minus (P := P) (w := w) (base := base) T d__law_minus plus scaled
  have const := cl_const (P := P) (w := w) (base := base) T d__law_constant made
  have less := cl_less (P := P) (w := w) (base := base) T d__law_lessened
  have drawn := cl_drawn (P := P) (w := w) (base := base) T d__law_drawn digits made
  have times := cl_times (P := P) (w := w) (base := base) T d__law_times less made
  have solsC := cl_sols (P := P) (w := w) (base := base) T d__law_solutions lpoints lv
  have ndlC := cl_ndl (P := P) (w := w) (base := base) T d__law_needless solsC lv
  have eqsC := cl_eqs (P := P) (w := w) (base := base) T d__law_equations digits lpoints drawn minus const lv
  have more := cl_more (P := P) (w := w) (base := base) T d__law_more_equations eqsC digits times drawn plus
  have num := cl_num (P := P) (w := w) (base := base) T d_numbers_of raised
  have fromC := cl_from (P := P) (w := w) (base := base) T k d_from_numbers
  obtain ⟨fP, fdP, FP, MP⟩ := mP.ex
  have points : ClM P w K mg base 2 CS "points" (Prom (prePoints K CS)) := ⟨fP, fdP, ["self"], ok_points FP k tuples, MP, FP.binds fun _ _ _ _ _ _ us hl => match us, hl with | [_], _ => rfl⟩
  have poly := cl_poly (P := P) (w := w) (base := base) T k d_polynomial_of num fromC points
  have fac := cl_fac (P := P) (w := w) (base := base) T k ky d_factors value inverse poly points
  obtain ⟨fY, fdY, FY, MY⟩ := cY.ini
  have system : ClK P w K mg base 1 CY "System" (spSysInit K CS CY) := ⟨fY, fdY, ["self", "space", "equations"], ok_sysInit FY T ky, MY, cY.here, FY.binds fun _ _ _ _ _ _ us hl => match us, hl with | [_, _, _], _ => rfl⟩
  have name := cl_name (P := P) (w := w) (base := base) T T2 d_is_name
  obtain ⟨fS, fdS, FS, MS⟩ := cS.ini
  have space : ClK P w K mg base 2 CS "Space" (spSpInit K CS) := ⟨fS, fdS, ["self", "prime", "names"], ok_spInit FS T T2 k name, MS, cS.here, FS.binds fun _ _ _ _ _ _ us hl => match us, hl with | [_, _, _], _ => rfl⟩
  have cho := cl_cho (P := P) (w := w) (base := base) T ky d_chosen system
  have flwC := cl_flw (P := P) (w := w) (base := base) T ky d_follows_from cho fac
  have need := cl_need (P := P) (w := w) (base := base) T ky d_is_needless flwC
  have leanC := cl_lean (P := P) (w := w) (base := base) T ky d_lean flwC
  have jdgC := cl_jdg (P := P) (w := w) (base := base) T ky d_judge_lean flwC cho fac
  exact ok_law T ky (fun_mk lL cL kL) shape cell names space system more need ndlC leanC solsC jdgC
theorem walk {l : PySem.W.OpenLaw} {q : Program} {loose : List Str} {XP : (Str → Option Value) → Heap → Prop} {YP : World → Heap → Prop} {d : DefRec} {K : Params → PySem.W.Frag} (hn : l.most = some 63) (hdf : d.params.defaults = [])
    (hY : ∀ (w : World) (h : Heap), YP w h → (K w.params).In h)
    (F : ∀ (w : World) (mg : Str → Option Value) (fa : Addr) (h : Heap), (K w.params).In h → h.Ns mainGlobals mg → mg d.name = some (.ref fa) →
      ∃ fd : FuncData, (∀ (s : Shared) (u : Value), BindsTo s fd ⟨[u], []⟩ [("_law_script", u)]) ∧ ∀ base : Heap, (K w.params).In base → base.Ns mainGlobals mg → FnOk l.prog w (K w.params) mg base CX0 7 fa fd ["_law_script"] (Prom (preLaw (K w.params)))) :
    PySem.W.WalkO q loose XP YP l.row.toRowW d [] (fun f vs => PySem.call f vs) :=
  L2.walk_of (n := 63) (k := 7) (x := "_law_script") (CX := fun _ => CX0) (sp := fun w => Prom (preLaw (K w.params))) hn (by decide) hdf ⟨rfl, by decide, by decide⟩ hY F (fun _ _ a ns _ _ hS => ⟨_, ⟨ns, .ref a, rfl, ⟨a, rfl, hS⟩, rfl⟩, fun v _ _ hv => dp_bool hv⟩) fun _ _ _ _ _ z => z
end SPw

open PySem PySem.W PyProof.Rows in
set_option maxRecDepth 100000 in
set_option maxHeartbeats 0 in
theorem PySem.Challenge.cw_standingpowers_k55_whole_lean_choices_holds : PySem.Challenge.rw_standingpowers_k55_whole_lean_choices.Holds := by
  w_on; o_law; k_head; (case hw => w_witness2)
  k_fill
  refine SPw.walk (l := PySem.Challenge.rw_standingpowers_k55_whole_lean_choices) rfl rfl (fun w h Y => PySem.W.km_in_of Y) ?F
  case F =>
    intro w mg fa h KX G hmg
    refine' SPw.fin hmg (PySem.W.mg_of KX G ?aL) ?lL ?cL ?kL ⟨PySem.W.mg_none_of KX G ?z0, PySem.W.mg_none_of KX G ?z1, PySem.W.mg_none_of KX G ?z2, PySem.W.mg_none_of KX G ?z3, PySem.W.mg_none_of KX G ?z4, PySem.W.mg_none_of KX G ?z5, PySem.W.mg_none_of KX G ?z6, PySem.W.mg_none_of KX G ?z7, PySem.W.mg_none_of KX G ?z8, PySem.W.mg_none_of KX G ?z9, PySem.W.mg_none_of KX G ?z10, PySem.W.mg_none_of KX G ?z11, PySem.W.mg_none_of KX G ?z12, PySem.W.mg_none_of KX G ?z13⟩ ⟨SPw.glob_of KX G ?ga1 ?gr1, SPw.glob_of KX G ?ga2 ?gr2, SPw.glob_of KX G ?ga3 ?gr3, SPw.glob_of KX G ?ga4 ?gr4, SPw.primes_of KX G ?qa ?ql ?qo, SPw.mop_of KX G ?ma ?ml ?mo⟩ (SPw.c_of KX G ?s1 ?s2 ?s3 ?s4 ?s5 ?s6 ?s7 ?s8 ?s9 ?sa ?sb ?sc) ?n1 ?n2 ?n3 (SPw.m_of ?p1 ?p2 ?p3 ?p4 ?p5) (SPw.c_of KX G ?y1 ?y2 ?y3 ?y4 ?y5 ?y6 ?y7 ?y8 ?y9 ?ya ?yb ?yc) ?n4 ?n5 (SPw.at_of KX G ?a0 ?l0 ?c0 ?k0) (SPw.at_of KX G ?a1 ?l1 ?c1 ?k1) (SPw.at_of KX G ?a2 ?l2 ?c2 ?k2) (SPw.at_of KX G ?a3 ?l3 ?c3 ?k3) (SPw.at_of KX G ?a4 ?l4 ?c4 ?k4) (SPw.at_of KX G ?a5 ?l5 ?c5 ?k5) (SPw.at_of KX G ?a6 ?l6 ?c6 ?k6) (SPw.at_of KX G ?a7 ?l7 ?c7 ?k7) (SPw.at_of KX G ?a8 ?l8 ?c8 ?k8) (SPw.at_of KX G ?a9 ?l9 ?c9 ?k9) (SPw.at_of KX G ?a10 ?l10 ?c10 ?k10) (SPw.at_of KX G ?a11 ?l11 ?c11 ?k11) (SPw.at_of KX G ?a12 ?l12 ?c12 ?k12) (SPw.at_of KX G ?a13 ?l13 ?c13 ?k13) (SPw.at_of KX G ?a14 ?l14 ?c14 ?k14) (SPw.at_of KX G ?a15 ?l15 ?c15 ?k15) (SPw.at_of KX G ?a16 ?l16 ?c16 ?k16) (SPw.at_of KX G ?a17 ?l17 ?c17 ?k17) (SPw.at_of KX G ?a18 ?l18 ?c18 ?k18) (SPw.at_of KX G ?a19 ?l19 ?c19 ?k19) (SPw.at_of KX G ?a20 ?l20 ?c20 ?k20) (SPw.at_of KX G ?a21 ?l21 ?c21 ?k21) (SPw.at_of KX G ?a22 ?l22 ?c22 ?k22) (SPw.at_of KX G ?a23 ?l23 ?c23 ?k23) (SPw.at_of KX G ?a24 ?l24 ?c24 ?k24) (SPw.at_of KX G ?a25 ?l25 ?c25 ?k25) (SPw.at_of KX G ?a26 ?l26 ?c26 ?k26) (SPw.at_of KX G ?a27 ?l27 ?c27 ?k27) (SPw.at_of KX G ?a28 ?l28 ?c28 ?k28) (SPw.at_of KX G ?a29 ?l29 ?c29 ?k29) (SPw.at_of KX G ?a30 ?l30 ?c30 ?k30) (SPw.at_of KX G ?a31 ?l31 ?c31 ?k31) (SPw.at_of KX G ?a32 ?l32 ?c32 ?k32) (SPw.at_of KX G ?a33 ?l33 ?c33 ?k33)
    (case aL => k_is)
    (case lL => k_is)
    (case cL => k_is)
    (case kL => k_is)
    (case z0 => k_is)
    (case z1 => k_is)
    (case z2 => k_is)
    (case z3 => k_is)
    (case z4 => k_is)
    (case z5 => k_is)
    (case z6 => k_is)
    (case z7 => k_is)
    (case z8 => k_is)
    (case z9 => k_is)
    (case z10 => k_is)
    (case z11 => k_is)
    (case z12 => k_is)
    (case z13 => k_is)
    (case ga1 => k_is)
    (case gr1 => exact ⟨_, rfl⟩)
    (case ga2 => k_is)
    (case gr2 => exact ⟨_, rfl⟩)
    (case ga3 => k_is)
    (case gr3 => exact ⟨_, rfl⟩)
    (case ga4 => k_is)
    (case gr4 => exact ⟨_, rfl⟩)
    (case qa => k_is)
    (case ql => k_is)
    (case qo => exact rfl)
    (case ma => k_is)
    (case ml => k_is)
    (case mo => exact rfl)
    (case s1 => k_is)
    (case s2 => k_is)
    (case s3 => k_is)
    (case s4 => k_is)
    (case s5 => k_is)
    (case s6 => k_is)
    (case s7 => k_is)
    (case s8 => k_is)
    (case s9 => k_is)
    (case sa => k_is)
    (case sb => k_is)
    (case sc => k_is)
    (case p1 => k_is)
    (case p2 => k_is)
    (case p3 => k_is)
    (case p4 => k_is)
    (case p5 => k_is)
    (case y1 => k_is)
    (case y2 => k_is)
    (case y3 => k_is)
    (case y4 => k_is)
    (case y5 => k_is)
    (case y6 => k_is)
    (case y7 => k_is)
    (case y8 => k_is)
    (case y9 => k_is)
    (case ya => k_is)
    (case yb => k_is)
    (case yc => k_is)
    (case n1 => k_is)
    (case n2 => k_is)
    (case n3 => k_is)
    (case n4 => k_is)
    (case n5 => k_is)
    (case a0 => k_is)
    (case l0 => k_is)
    (case c0 => k_is)
    (case k0 => k_is)
    (case a1 => k_is)
    (case l1 => k_is)
    (case c1 => k_is)
    (case k1 => k_is)
    (case a2 => k_is)
    (case l2 => k_is)
    (case c2 => k_is)
    (case k2 => k_is)
    (case a3 => k_is)
    (case l3 => k_is)
    (case c3 => k_is)
    (case k3 => k_is)
    (case a4 => k_is)
    (case l4 => k_is)
    (case c4 => k_is)
    (case k4 => k_is)
    (case a5 => k_is)
    (case l5 => k_is)
    (case c5 => k_is)
    (case k5 => k_is)
    (case a6 => k_is)
    (case l6 => k_is)
    (case c6 => k_is)
    (case k6 => k_is)
    (case a7 => k_is)
    (case l7 => k_is)
    (case c7 => k_is)
    (case k7 => k_is)
    (case a8 => k_is)
    (case l8 => k_is)
    (case c8 => k_is)
    (case k8 => k_is)
    (case a9 => k_is)
    (case l9 => k_is)
    (case c9 => k_is)
    (case k9 => k_is)
    (case a10 => k_is)
    (case l10 => k_is)
    (case c10 => k_is)
    (case k10 => k_is)
    (case a11 => k_is)
    (case l11 => k_is)
    (case c11 => k_is)
    (case k11 => k_is)
    (case a12 => k_is)
    (case l12 => k_is)
    (case c12 => k_is)
    (case k12 => k_is)
    (case a13 => k_is)
    (case l13 => k_is)
    (case c13 => k_is)
    (case k13 => k_is)
    (case a14 => k_is)
    (case l14 => k_is)
    (case c14 => k_is)
    (case k14 => k_is)
    (case a15 => k_is)
    (case l15 => k_is)
    (case c15 => k_is)
    (case k15 => k_is)
    (case a16 => k_is)
    (case l16 => k_is)
    (case c16 => k_is)
    (case k16 => k_is)
    (case a17 => k_is)
    (case l17 => k_is)
    (case c17 => k_is)
    (case k17 => k_is)
    (case a18 => k_is)
    (case l18 => k_is)
    (case c18 => k_is)
    (case k18 => k_is)
    (case a19 => k_is)
    (case l19 => k_is)
    (case c19 => k_is)
    (case k19 => k_is)
    (case a20 => k_is)
    (case l20 => k_is)
    (case c20 => k_is)
    (case k20 => k_is)
    (case a21 => k_is)
    (case l21 => k_is)
    (case c21 => k_is)
    (case k21 => k_is)
    (case a22 => k_is)
    (case l22 => k_is)
    (case c22 => k_is)
    (case k22 => k_is)
    (case a23 => k_is)
    (case l23 => k_is)
    (case c23 => k_is)
    (case k23 => k_is)
    (case a24 => k_is)
    (case l24 => k_is)
    (case c24 => k_is)
    (case k24 => k_is)
    (case a25 => k_is)
    (case l25 => k_is)
    (case c25 => k_is)
    (case k25 => k_is)
    (case a26 => k_is)
    (case l26 => k_is)
    (case c26 => k_is)
    (case k26 => k_is)
    (case a27 => k_is)
    (case l27 => k_is)
    (case c27 => k_is)
    (case k27 => k_is)
    (case a28 => k_is)
    (case l28 => k_is)
    (case c28 => k_is)
    (case k28 => k_is)
    (case a29 => k_is)
    (case l29 => k_is)
    (case c29 => k_is)
    (case k29 => k_is)
    (case a30 => k_is)
    (case l30 => k_is)
    (case c30 => k_is)
    (case k30 => k_is)
    (case a31 => k_is)
    (case l31 => k_is)
    (case c31 => k_is)
    (case k31 => k_is)
    (case a32 => k_is)
    (case l32 => k_is)
    (case c32 => k_is)
    (case k32 => k_is)
    (case a33 => k_is)
    (case l33 => k_is)
    (case c33 => k_is)
    (case k33 => k_is)
