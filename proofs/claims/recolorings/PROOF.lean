import PyProof.Rows.All
import Wide.All
import OpenK.AllK
import Wide.FinOn
import HandS.ForMost
import HandS.Evl
import HandS.Walk
import HandS.Steps
import HandS.Zip
import HandS.Conv
import HandS.TupAny
import HandS.TupSets
import HandS.SortInts
import HandS.Deep
import HandS.DictComp
import HandS.IsInst
import HandS.TupLen
import HandS.DictTup
import HandS.Star
import HandS.Style
import HandS.ForSpec
import KE.KDictZip
import KE.GoesMore
import KE.GoesZip
import KE.KDictDisplayH
import KE.KDictSum
import HandS.SortOrd
import HandS.NamedTupSort
import PySem.Challenge.RW_terraces_k39_whole_recolorings
set_option Elab.async false
set_option linter.all false
set_option maxRecDepth 100000
set_option maxHeartbeats 4000000
/-! GA: readings by data. Rp: a value stands for data; ED: an expression evaluates to data; Src: what a for walks, as a list of data. -/
namespace G
open PySem L2 Evl

/-! ### data in a heap -/
mutual
inductive Rp (H : Hp) : V → PyData → Prop
  | non : Rp H .non .none
  | bl (b : Bool) : Rp H (.bl b) (.bool b)
  | int (i : Int) : Rp H (.int i) (.int i)
  | lst {a : Addr} {xs : List V} {ds : List PyData} : H a = some (.lst xs) → RpAll H xs ds → Rp H (.ref a) (.list ds)
  | tup {a : Addr} {xs : List V} {ds : List PyData} : H a = some (.tup xs) → RpAll H xs ds → Rp H (.ref a) (.tuple ds)
inductive RpAll (H : Hp) : List V → List PyData → Prop
  | nil : RpAll H [] []
  | cons {v : V} {vs : List V} {d : PyData} {ds : List PyData} : Rp H v d → RpAll H vs ds → RpAll H (v :: vs) (d :: ds)
end
mutual
theorem Rp.mono {H H' : Hp} (e : Ex H H') : ∀ {v : V} {d : PyData}, Rp H v d → Rp H' v d
  | _, _, .non => .non
  | _, _, .bl b => .bl b
  | _, _, .int i => .int i
  | _, _, .lst h r => .lst (e _ _ h) (RpAll.mono e r)
  | _, _, .tup h r => .tup (e _ _ h) (RpAll.mono e r)
theorem RpAll.mono {H H' : Hp} (e : Ex H H') : ∀ {vs : List V} {ds : List PyData}, RpAll H vs ds → RpAll H' vs ds
  | _, _, .nil => .nil
  | _, _, .cons h r => .cons (Rp.mono e h) (RpAll.mono e r)
end
mutual
theorem Rp.dp {K : PySem.W.Frag} {H : Hp} : ∀ {v : V} {d : PyData}, Rp H v d → Dp K H v d
  | _, _, .non => .non
  | _, _, .bl b => .bl b
  | _, _, .int i => .int i
  | _, _, .lst h r => .lst (SqL.of h) (RpAll.dp r)
  | _, _, .tup h r => .tup (SqT.of h) (RpAll.dp r)
theorem RpAll.dp {K : PySem.W.Frag} {H : Hp} : ∀ {vs : List V} {ds : List PyData}, RpAll H vs ds → DpAll K H vs ds
  | _, _, .nil => .nil
  | _, _, .cons h r => .cons (Rp.dp h) (RpAll.dp r)
end
theorem RpAll.len {H : Hp} : ∀ {vs : List V} {ds : List PyData}, RpAll H vs ds → vs.length = ds.length
  | _, _, .nil => rfl
  | _, _, .cons _ r => by rw [List.length_cons, List.length_cons, r.len]
theorem RpAll.get {H : Hp} : ∀ {vs : List V} {ds : List PyData} {i : Nat} {v : V}, RpAll H vs ds → vs[i]? = some v → ∃ d, ds[i]? = some d ∧ Rp H v d
  | _, _, _, _, .nil, h => by simp at h
  | _, _, 0, _, .cons (d := d) r _, h => ⟨d, rfl, by simp at h; rw [← h]; exact r⟩
  | _, _, i + 1, v, .cons _ r, h => by
    obtain ⟨d, h1, h2⟩ := RpAll.get (i := i) r (by simpa using h)
    exact ⟨d, by simpa using h1, h2⟩
theorem RpAll.getD {H : Hp} : ∀ {vs : List V} {ds : List PyData} {i : Nat} {d : PyData}, RpAll H vs ds → ds[i]? = some d → ∃ v, vs[i]? = some v ∧ Rp H v d
  | _, _, _, _, .nil, h => by simp at h
  | _, _, 0, _, .cons (v := v) r _, h => ⟨v, rfl, by simp at h; rw [← h]; exact r⟩
  | _, _, i + 1, d, .cons _ r, h => by
    obtain ⟨v, h1, h2⟩ := RpAll.getD (i := i) r (by simpa using h)
    exact ⟨v, by simpa using h1, h2⟩
theorem RpAll.snoc {H : Hp} : ∀ {vs : List V} {ds : List PyData} {v : V} {d : PyData}, RpAll H vs ds → Rp H v d → RpAll H (vs ++ [v]) (ds ++ [d])
  | _, _, _, _, .nil, h => .cons h .nil
  | _, _, _, _, .cons r t, h => .cons r (RpAll.snoc t h)
theorem RpAll.app {H : Hp} : ∀ {vs ws : List V} {ds es : List PyData}, RpAll H vs ds → RpAll H ws es → RpAll H (vs ++ ws) (ds ++ es)
  | _, _, _, _, .nil, h => h
  | _, _, _, _, .cons r t, h => .cons r (RpAll.app t h)
theorem RpAll.set {H : Hp} : ∀ {vs : List V} {ds : List PyData} {v : V} {d : PyData} (i : Nat), RpAll H vs ds → Rp H v d → RpAll H (vs.set i v) (ds.set i d)
  | _, _, _, _, _, .nil, _ => .nil
  | _, _, _, _, 0, .cons _ t, h => .cons h t
  | _, _, _, _, i + 1, .cons r t, h => .cons r (RpAll.set i t h)
theorem RpAll.take {H : Hp} : ∀ {vs : List V} {ds : List PyData} (n : Nat), RpAll H vs ds → RpAll H (vs.take n) (ds.take n)
  | _, _, 0, _ => .nil
  | _, _, _ + 1, .nil => .nil
  | _, _, n + 1, .cons r t => .cons r (RpAll.take n t)
theorem RpAll.drop {H : Hp} : ∀ {vs : List V} {ds : List PyData} (n : Nat), RpAll H vs ds → RpAll H (vs.drop n) (ds.drop n)
  | _, _, 0, r => r
  | _, _, _ + 1, .nil => .nil
  | _, _, n + 1, .cons _ t => RpAll.drop n t
theorem RpAll.erase {H : Hp} : ∀ {vs : List V} {ds : List PyData} (n : Nat), RpAll H vs ds → RpAll H (vs.eraseIdx n) (ds.eraseIdx n)
  | _, _, _, .nil => .nil
  | _, _, 0, .cons _ t => t
  | _, _, n + 1, .cons r t => .cons r (RpAll.erase n t)
theorem RpAll.rev {H : Hp} : ∀ {vs : List V} {ds : List PyData}, RpAll H vs ds → RpAll H vs.reverse ds.reverse
  | _, _, .nil => .nil
  | _, _, .cons r t => by rw [List.reverse_cons, List.reverse_cons]; exact (RpAll.rev t).snoc r
theorem RpAll.ints {H : Hp} : ∀ (ns : List Int), RpAll H (ns.map V.int) (ns.map PyData.int)
  | [] => .nil
  | _ :: ns => .cons (.int _) (RpAll.ints ns)
theorem RpAll.ints_of {H : Hp} : ∀ {ns : List Int} {vs : List V}, RpAll H vs (ns.map PyData.int) → vs = ns.map V.int
  | [], _, .nil => rfl
  | _ :: _, _, .cons (.int _) r => by rw [RpAll.ints_of r]; rfl
theorem RpAll.bls_of {H : Hp} : ∀ {ns : List Bool} {vs : List V}, RpAll H vs (ns.map PyData.bool) → vs = ns.map V.bl
  | [], _, .nil => rfl
  | _ :: _, _, .cons (.bl _) r => by rw [RpAll.bls_of r]; rfl
theorem Rp.int_of {H : Hp} {v : V} {i : Int} (h : Rp H v (.int i)) : v = .int i := by cases h; rfl
theorem Rp.bl_of {H : Hp} {v : V} {b : Bool} (h : Rp H v (.bool b)) : v = .bl b := by cases h; rfl
theorem Rp.non_of {H : Hp} {v : V} (h : Rp H v .none) : v = .non := by cases h; rfl
theorem Rp.lst_of {H : Hp} {v : V} {ds : List PyData} (h : Rp H v (.list ds)) : ∃ a xs, v = .ref a ∧ H a = some (.lst xs) ∧ RpAll H xs ds := by
  cases h with
  | lst h r => exact ⟨_, _, rfl, h, r⟩
theorem Rp.tup_of {H : Hp} {v : V} {ds : List PyData} (h : Rp H v (.tuple ds)) : ∃ a xs, v = .ref a ∧ H a = some (.tup xs) ∧ RpAll H xs ds := by
  cases h with
  | tup h r => exact ⟨_, _, rfl, h, r⟩

/-! ### a heap without what is being changed -/
def cut (H : Hp) (ms : List Addr) : Hp := fun a => if ms.contains a then none else H a
theorem cut_nil (H : Hp) : cut H [] = H := rfl
theorem cut_in {H : Hp} {ms : List Addr} {a : Addr} (h : a ∈ ms) : cut H ms a = none := by
  unfold cut; rw [if_pos (List.contains_iff_mem.mpr h)]
theorem cut_out {H : Hp} {ms : List Addr} {a : Addr} (h : a ∉ ms) : cut H ms a = H a := by
  unfold cut; rw [if_neg (fun z => h (List.contains_iff_mem.mp z))]
theorem cut_some {H : Hp} {ms : List Addr} {a : Addr} {o : HO} (h : cut H ms a = some o) : a ∉ ms ∧ H a = some o := by
  by_cases z : a ∈ ms
  · rw [cut_in z] at h; cases h
  · rw [cut_out z] at h; exact ⟨z, h⟩
theorem ex_cut {H H' : Hp} {ms : List Addr} (e : Ex H H') : Ex (cut H ms) (cut H' ms) := fun a o h => by
  obtain ⟨z, h⟩ := cut_some h
  rw [cut_out z]; exact e a o h
theorem cut_le {H : Hp} {ms : List Addr} : Ex (cut H ms) H := fun a o h => (cut_some h).2
theorem cut_sub {H : Hp} {ms ms' : List Addr} (h : ∀ m ∈ ms', m ∈ ms) : Ex (cut H ms) (cut H ms') := fun a o q => by
  obtain ⟨z, q⟩ := cut_some q
  rw [cut_out fun y => z (h a y)]; exact q
theorem cut_upd {H : Hp} {ms : List Addr} {m : Addr} {o : HO} (h : m ∈ ms) : cut (upd H m o) ms = cut H ms := by
  funext a
  by_cases z : a ∈ ms
  · rw [cut_in z, cut_in z]
  · rw [cut_out z, cut_out z, upd_ne (fun e => z (by rw [e]; exact h))]
/-- a new object that will be changed -/
theorem cut_new {H : Hp} {ms : List Addr} {p : Addr} {o : HO} (h : H p = none) : Ex (cut H ms) (cut (upd H p o) (p :: ms)) := fun a u q => by
  obtain ⟨z, q⟩ := cut_some q
  have hap : a ≠ p := ne_of_none q h
  rw [cut_out (by simp [hap, z]), upd_ne hap]; exact q
/-- all that is being changed stands -/
def Live (H : Hp) (ms : List Addr) : Prop := ∀ m ∈ ms, ∃ o, H m = some o
theorem Live.nil {H : Hp} : Live H [] := fun _ h => by cases h
theorem Live.mono {H H' : Hp} {ms : List Addr} (h : Live H ms) (e : Ex H H') : Live H' ms := fun m hm => let ⟨o, q⟩ := h m hm; ⟨o, e m o q⟩
theorem Live.out {H : Hp} {ms : List Addr} {p : Addr} (h : Live H ms) (n : H p = none) : p ∉ ms := fun z => by
  obtain ⟨o, q⟩ := h p z
  rw [n] at q; cases q
theorem Live.cons {H : Hp} {ms : List Addr} {p : Addr} {o : HO} (h : Live H ms) (q : H p = some o) : Live H (p :: ms) := fun m hm => by
  rcases List.mem_cons.mp hm with rfl | hm
  · exact ⟨o, q⟩
  · exact h m hm
theorem Live.upd {H : Hp} {ms : List Addr} {p : Addr} {o : HO} (h : Live H ms) : Live (upd H p o) ms := fun m hm => by
  by_cases e : m = p
  · subst e; exact ⟨o, upd_same⟩
  · obtain ⟨u, q⟩ := h m hm; exact ⟨u, by rw [upd_ne e]; exact q⟩

/-! ### what evaluates to what -/
def EvP (te : TE) (σ : L2.St) (H : Hp) (P : V → Hp → Prop) : Prop := ∀ H1, Ex H H1 → ∀ Q : VK, (∀ v H2, Ex H1 H2 → P v H2 → Q v H2) → te σ H1 Q
/-- to data, that stands apart from ms -/
abbrev ED (ms : List Addr) (te : TE) (σ : L2.St) (H : Hp) (d : PyData) : Prop := EvP te σ H fun v H2 => Rp (cut H2 ms) v d
def EA (ms : List Addr) (ta : TA) (σ : L2.St) (H : Hp) (ds : List PyData) : Prop := ∀ H1, Ex H H1 → ∀ Q : List V → Hp → Prop, (∀ vs H2, Ex H1 H2 → RpAll (cut H2 ms) vs ds → Q vs H2) → ta σ H1 Q
def EO (to : TO) (σ : L2.St) (H : Hp) (o : Option Int) : Prop := ∀ H1, Ex H H1 → ∀ Q : Option Int → Hp → Prop, (∀ H2, Ex H1 H2 → Q o H2) → to σ H1 Q

section
variable {K : PySem.W.Frag} {σ : L2.St} {H H' : Hp} {ms : List Addr} {ta tb te tl th : TE} {t u : TT} {P : V → Hp → Prop} {v : V} {d d1 d2 : PyData} {i j : Int} {b : Bool}
theorem EvP.mono (e : Ex H H') (h : EvP te σ H P) : EvP te σ H' P := fun H1 a Q q => h H1 (e.trans a) Q q
theorem EvP.imp {P' : V → Hp → Prop} (h : EvP te σ H P) (k : ∀ v H2, Ex H H2 → P v H2 → P' v H2) : EvP te σ H P' := fun H1 a Q q => h H1 a Q fun v H2 e p => q v H2 e (k v H2 (a.trans e) p)
theorem EvP.ev (h : Ev te σ H v) (k : ∀ H2, Ex H H2 → P v H2) : EvP te σ H P := fun H1 a Q q => h H1 a Q fun H2 e => q v H2 e (k H2 (a.trans e))
theorem e_at (h : σ[0]? = some (some v)) (r : Rp (cut H ms) v d) : ED ms (tVar 0) σ H d := fun H1 a Q q => ⟨v, h, q v H1 (Ex.refl H1) (r.mono (ex_cut a))⟩
theorem e_var {k : Nat} (h : σ[k]? = some (some v)) (r : Rp (cut H ms) v d) : ED ms (tVar k) σ H d := fun H1 a Q q => ⟨v, h, q v H1 (Ex.refl H1) (r.mono (ex_cut a))⟩
/-- a name that holds a thing by its address -/
theorem e_ref {k : Nat} (h : σ[k]? = some (some v)) : EvP (tVar k) σ H fun w H2 => w = v := fun H1 a Q q => ⟨v, h, q v H1 (Ex.refl H1) rfl⟩
theorem e_int : ED ms (tC (.int i)) σ H (.int i) := fun H1 a Q q => q _ H1 (Ex.refl H1) (.int i)
theorem e_bl : ED ms (tC (.bl b)) σ H (.bool b) := fun H1 a Q q => q _ H1 (Ex.refl H1) (.bl b)
theorem e_non : ED ms (tC .non) σ H .none := fun H1 a Q q => q _ H1 (Ex.refl H1) .non
/-- two in a row, then an operation -/
theorem e_op2 {r : R2} {P1 P2 P3 : V → Hp → Prop} (ha : EvP ta σ H P1) (hb : ∀ H1, Ex H H1 → EvP tb σ H1 P2) (hm : ∀ x H1 H2, Ex H1 H2 → P1 x H1 → P1 x H2)
    (hr : ∀ x y H2, Ex H H2 → P1 x H2 → P2 y H2 → ∀ Q : VK, (∀ v H3, Ex H2 H3 → P3 v H3 → Q v H3) → r x y H2 Q) : EvP (tOp r ta tb) σ H P3 := fun H1 e Q q =>
  ha H1 e _ fun x H2 e2 p1 => hb H2 (e.trans e2) H2 (Ex.refl H2) _ fun y H3 e3 p2 => hr x y H3 ((e.trans e2).trans e3) (hm x H2 H3 e3 p1) p2 Q fun v H4 e4 p3 => q v H4 ((e2.trans e3).trans e4) p3
theorem rp_keep {H1 H2 : Hp} {x : V} (e : Ex H1 H2) (h : Rp (cut H1 ms) x d) : Rp (cut H2 ms) x d := h.mono (ex_cut e)
theorem e_opD {r : R2} (ha : ED ms ta σ H d1) (hb : ED ms tb σ H d2) (hr : ∀ x y H2, Ex H H2 → Rp (cut H2 ms) x d1 → Rp (cut H2 ms) y d2 → ∀ Q : VK, (∀ v H3, Ex H2 H3 → P v H3 → Q v H3) → r x y H2 Q) : EvP (tOp r ta tb) σ H P :=
  e_op2 ha (fun _ e => hb.mono e) (fun _ _ _ e h => rp_keep e h) hr
theorem e_I0 {g : Int → Int → Int} (ha : ED ms ta σ H (.int i)) (hb : ED ms tb σ H (.int j)) : ED ms (tOp (rI0 fun i j => .int (g i j)) ta tb) σ H (.int (g i j)) :=
  e_opD ha hb fun x y H2 _ rx ry Q q => by
    cases rx.int_of; cases ry.int_of
    exact ⟨i, j, rfl, rfl, q _ H2 (Ex.refl H2) (.int _)⟩
theorem e_B0 {g : Int → Int → Bool} (ha : ED ms ta σ H (.int i)) (hb : ED ms tb σ H (.int j)) : ED ms (tOp (rI0 fun i j => .bl (g i j)) ta tb) σ H (.bool (g i j)) :=
  e_opD ha hb fun x y H2 _ rx ry Q q => by
    cases rx.int_of; cases ry.int_of
    exact ⟨i, j, rfl, rfl, q _ H2 (Ex.refl H2) (.bl _)⟩
theorem e_IC {C : Int → Int → Prop} {g : Int → Int → Int} (ha : ED ms ta σ H (.int i)) (hb : ED ms tb σ H (.int j)) (hc : C i j) : ED ms (tOp (rI C fun i j => .int (g i j)) ta tb) σ H (.int (g i j)) :=
  e_opD ha hb fun x y H2 _ rx ry Q q => by
    cases rx.int_of; cases ry.int_of
    exact ⟨i, j, rfl, rfl, hc, q _ H2 (Ex.refl H2) (.int _)⟩
theorem e_neg (ha : ED ms ta σ H (.int i)) : ED ms (tUn (rU fun i => .int (-i)) ta) σ H (.int (-i)) := fun H1 e Q q => ha H1 e _ fun x H2 e2 rx => by
  cases rx.int_of
  exact ⟨i, rfl, q _ H2 e2 (.int _)⟩
def scalD : PyData → Bool
  | .none => true | .int _ => true | .bool _ => true | _ => false
def eqD : PyData → PyData → Bool
  | .int i, .int j => decide (i = j)
  | .bool a, .bool b => decide (a = b)
  | .none, .none => true
  | _, _ => false
theorem e_eqD_aux {x y : V} (rx : Rp (cut H ms) x d1) (ry : Rp (cut H ms) y d2) (h1 : d1 = .none ∨ ∃ i, d1 = .int i) (h2 : d2 = .none ∨ ∃ i, d2 = .int i) : scal x y = true ∧ decide (x = y) = eqD d1 d2 := by
  rcases h1 with rfl | ⟨i, rfl⟩ <;> rcases h2 with rfl | ⟨j, rfl⟩
  · cases rx.non_of; cases ry.non_of; exact ⟨rfl, by simp [eqD]⟩
  · cases rx.non_of; cases ry.int_of; exact ⟨rfl, by simp [eqD]⟩
  · cases rx.int_of; cases ry.non_of; exact ⟨rfl, by simp [eqD]⟩
  · cases rx.int_of; cases ry.int_of; exact ⟨rfl, by simp [eqD]⟩
theorem e_eq (ha : ED ms ta σ H (.int i)) (hb : ED ms tb σ H (.int j)) : ED ms (tOp rEq ta tb) σ H (.bool (decide (i = j))) := e_opD ha hb fun x y H2 _ rx ry Q q => by
  cases rx.int_of; cases ry.int_of
  refine ⟨rfl, q _ H2 (Ex.refl H2) ?_⟩
  have e : decide (V.int i = V.int j) = decide (i = j) := by simp
  rw [e]; exact .bl _
theorem e_ne (ha : ED ms ta σ H (.int i)) (hb : ED ms tb σ H (.int j)) : ED ms (tOp rNe ta tb) σ H (.bool (!decide (i = j))) := e_opD ha hb fun x y H2 _ rx ry Q q => by
  cases rx.int_of; cases ry.int_of
  refine ⟨rfl, q _ H2 (Ex.refl H2) ?_⟩
  have e : decide (V.int i = V.int j) = decide (i = j) := by simp
  rw [e]; exact .bl _
/-- None or an int on the left -/
theorem e_neO (ha : ED ms ta σ H d1) (h1 : d1 = .none ∨ ∃ i, d1 = .int i) (hb : ED ms tb σ H (.int j)) : ED ms (tOp rNe ta tb) σ H (.bool (!eqD d1 (.int j))) := e_opD ha hb fun x y H2 _ rx ry Q q => by
  obtain ⟨s, e⟩ := e_eqD_aux rx ry h1 (.inr ⟨j, rfl⟩)
  refine ⟨s, q _ H2 (Ex.refl H2) ?_⟩
  rw [e]; exact .bl _
theorem e_neB {a c : Bool} (ha : ED ms ta σ H (.bool a)) (hb : ED ms tb σ H (.bool c)) : ED ms (tOp rNe ta tb) σ H (.bool (!decide (a = c))) := e_opD ha hb fun x y H2 _ rx ry Q q => by
  cases rx.bl_of; cases ry.bl_of
  refine ⟨rfl, q _ H2 (Ex.refl H2) ?_⟩
  have e : decide (V.bl a = V.bl c) = decide (a = c) := by simp
  rw [e]; exact .bl _
theorem e_eqB {a c : Bool} (ha : ED ms ta σ H (.bool a)) (hb : ED ms tb σ H (.bool c)) : ED ms (tOp rEq ta tb) σ H (.bool (decide (a = c))) := e_opD ha hb fun x y H2 _ rx ry Q q => by
  cases rx.bl_of; cases ry.bl_of
  refine ⟨rfl, q _ H2 (Ex.refl H2) ?_⟩
  have e : decide (V.bl a = V.bl c) = decide (a = c) := by simp
  rw [e]; exact .bl _
def isNoneD : PyData → Bool
  | .none => true | _ => false
theorem isNone_rp {x : V} (h : Rp H x d) : decide (x = .non) = isNoneD d := by cases h <;> simp [isNoneD]
/-- x is None -/
theorem e_isN (ha : ED ms ta σ H d) : ED ms (tOp (fun x y H Q => y = .non ∧ Q (.bl (decide (x = .non))) H) ta (tC .non)) σ H (.bool (isNoneD d)) := e_opD ha e_non fun x y H2 _ rx ry Q q => by
  cases ry.non_of
  refine ⟨rfl, q _ H2 (Ex.refl H2) ?_⟩
  rw [isNone_rp rx]; exact .bl _
theorem e_notN (ha : ED ms ta σ H d) : ED ms (tOp (fun x y H Q => y = .non ∧ Q (.bl (!decide (x = .non))) H) ta (tC .non)) σ H (.bool (!isNoneD d)) := e_opD ha e_non fun x y H2 _ rx ry Q q => by
  cases ry.non_of
  refine ⟨rfl, q _ H2 (Ex.refl H2) ?_⟩
  rw [isNone_rp rx]; exact .bl _
/-- == of data at any depth -/
theorem e_eqDp (ha : ED ms ta σ H d1) (hb : ED ms tb σ H d2) (s1 : SeqAt.shaped d1 = true) (s2 : SeqAt.shaped d2 = true) : ED ms (tOp (rEqD K) ta tb) σ H (.bool (PyData.eqv d1 d2)) := e_opD ha hb fun x y H2 _ rx ry Q q =>
  ⟨d1, d2, (rx.mono cut_le).dp, (ry.mono cut_le).dp, s1, s2, q _ H2 (Ex.refl H2) (.bl _)⟩
theorem e_neDp (ha : ED ms ta σ H d1) (hb : ED ms tb σ H d2) (s1 : SeqAt.shaped d1 = true) (s2 : SeqAt.shaped d2 = true) : ED ms (tOp (rNeD K) ta tb) σ H (.bool (!PyData.eqv d1 d2)) := e_opD ha hb fun x y H2 _ rx ry Q q =>
  ⟨d1, d2, (rx.mono cut_le).dp, (ry.mono cut_le).dp, s1, s2, q _ H2 (Ex.refl H2) (.bl _)⟩
/-! ### places -/
theorem atI_all {vs : List V} {ds : List PyData} (h : RpAll H vs ds) {k : Int} (e : atI ds k = some d) : ∃ v, atI vs k = some v ∧ Rp H v d := by
  unfold atI at e ⊢
  rw [h.len]
  cases q : ixN ds.length k with
  | none => rw [q] at e; cases e
  | some n =>
    rw [q] at e
    exact h.getD e
theorem e_ixL {ds : List PyData} (ha : ED ms ta σ H (.list ds)) (hb : ED ms tb σ H (.int j)) (e : atI ds j = some d) : ED ms (tOp (rIxL K) ta tb) σ H d := e_opD ha hb fun x y H2 _ rx ry Q q => by
  obtain ⟨a, xs, rfl, h, r⟩ := rx.lst_of
  cases ry.int_of
  obtain ⟨v, e1, r1⟩ := atI_all r e
  exact ⟨a, xs, j, v, rfl, rfl, SqL.of (cut_some h).2, e1, q v H2 (Ex.refl H2) r1⟩
theorem e_ixT {ds : List PyData} (ha : ED ms ta σ H (.tuple ds)) (hb : ED ms tb σ H (.int j)) (e : atI ds j = some d) : ED ms (tOp (rIxT K) ta tb) σ H d := e_opD ha hb fun x y H2 _ rx ry Q q => by
  obtain ⟨a, xs, rfl, h, r⟩ := rx.tup_of
  cases ry.int_of
  obtain ⟨v, e1, r1⟩ := atI_all r e
  exact ⟨a, xs, j, v, rfl, rfl, SqT.of (cut_some h).2, e1, q v H2 (Ex.refl H2) r1⟩
/-- xs[i], xs a list that is being changed -/
theorem e_ixM {p : Addr} {xs : List V} (ha : EvP ta σ H fun w _ => w = .ref p) (hp : H p = some (.lst xs)) (hb : ED ms tb σ H (.int j)) (e : atI xs j = some v) (r : Rp (cut H ms) v d) : ED ms (tOp (rIxL K) ta tb) σ H d :=
  e_op2 ha (fun _ e => hb.mono e) (fun _ _ _ _ h => h) fun x y H2 e2 rx ry Q q => by
    subst rx
    cases ry.int_of
    exact ⟨p, xs, j, v, rfl, rfl, SqL.of (e2 p _ hp), e, q v H2 (Ex.refl H2) (r.mono (ex_cut e2))⟩
/-! ### arguments, displays, calls -/
theorem a_nil : EA ms tNil σ H [] := fun H1 _ Q q => q [] H1 (Ex.refl H1) .nil
theorem a_cons {tr : TA} {ds : List PyData} (h : ED ms te σ H d) (hr : EA ms tr σ H ds) : EA ms (tCons te tr) σ H (d :: ds) := fun H1 e Q q =>
  h H1 e _ fun v H2 e2 r => hr H2 (e.trans e2) _ fun vs H3 e3 rs => q (v :: vs) H3 (e2.trans e3) (.cons (rp_keep e3 r) rs)
theorem EA.mono {tr : TA} {ds : List PyData} (e : Ex H H') (h : EA ms tr σ H ds) : EA ms tr σ H' ds := fun H1 a Q q => h H1 (e.trans a) Q q
theorem sz {n : Nat} (h : n ≤ 100000) : n ≤ sizeLine := Evl.sz_of h
theorem rp_new {p : Addr} {xs : List V} {ds : List PyData} {H1 : Hp} (hp : H1 p = none) (L : Live H1 ms) (r : RpAll (cut H1 ms) xs ds) : Rp (cut (upd H1 p (.tup xs)) ms) (.ref p) (.tuple ds) :=
  .tup (by rw [cut_out (L.out hp), upd_same]) (r.mono (ex_cut (Ex.new hp)))
theorem rl_new {p : Addr} {xs : List V} {ds : List PyData} {H1 : Hp} (hp : H1 p = none) (L : Live H1 ms) (r : RpAll (cut H1 ms) xs ds) : Rp (cut (upd H1 p (.lst xs)) ms) (.ref p) (.list ds) :=
  .lst (by rw [cut_out (L.out hp), upd_same]) (r.mono (ex_cut (Ex.new hp)))
theorem e_tup {ta : TA} {ds : List PyData} (h : EA ms ta σ H ds) (hz : ds.length ≤ 100000) (L : Live H ms) : ED ms (tTup ta) σ H (.tuple ds) := fun H1 e Q q =>
  h H1 e _ fun vs H2 e2 r => ⟨sz (by rw [r.len]; exact hz), fun p hp => q _ _ (e2.trans (Ex.new hp)) (rp_new hp (L.mono (e.trans e2)) r)⟩
theorem e_lst {ta : TA} {ds : List PyData} (h : EA ms ta σ H ds) (hz : ds.length ≤ 100000) (L : Live H ms) : ED ms (tLst ta) σ H (.list ds) := fun H1 e Q q =>
  h H1 e _ fun vs H2 e2 r => ⟨sz (by rw [r.len]; exact hz), fun p hp => q _ _ (e2.trans (Ex.new hp)) (rl_new hp (L.mono (e.trans e2)) r)⟩
/-- a new list, to be changed -/
theorem n_lst {ta : TA} {ds : List PyData} (h : EA ms ta σ H ds) (hz : ds.length ≤ 100000) : EvP (tLst ta) σ H fun v H2 => ∃ p xs, v = .ref p ∧ H p = none ∧ H2 p = some (.lst xs) ∧ RpAll (cut H2 (p :: ms)) xs ds := fun H1 e Q q =>
  h H1 e _ fun vs H2 e2 r => ⟨sz (by rw [r.len]; exact hz), fun p hp => q _ _ (e2.trans (Ex.new hp)) ⟨p, vs, rfl, fresh_back (e.trans e2) hp, upd_same, r.mono (cut_new hp)⟩⟩
/-- a def that gives data for data -/
def PSp (R : List PyData → PyData → Prop) : Sp := fun vs H Q _ => ∃ ds d, RpAll H vs ds ∧ R ds d ∧ ∀ v H', Ex H H' → Rp H' v d → Q v H'
/-- .. with what is being changed kept apart: the callee sees only its data -/
def PSm (R : List PyData → PyData → Prop) : Sp := fun vs H Q _ => ∃ ds d ms, RpAll (cut H ms) vs ds ∧ Live H ms ∧ R ds d ∧ ∀ v H', Ex H H' → Rp (cut H' ms) v d → Q v H'
theorem e_call {R : List PyData → PyData → Prop} {E : XK} {ta : TA} {ds : List PyData} (h : EA ms ta σ H ds) (L : Live H ms) (hR : R ds d) : ED ms (tCall (PSm R) [] E ta) σ H d := fun H1 e Q q =>
  h H1 e _ fun vs H2 e2 r => ⟨ds, d, ms, by rw [List.append_nil]; exact r, L.mono (e.trans e2), hR, fun v H' e3 r' => q v H' (e2.trans e3) r'⟩
/-! ### tests -/
theorem t_B {te : TE} (h : ED ms te σ H (.bool b)) : EvT (tB te) σ H b := fun H1 e Q q => h H1 e _ fun v H2 e2 r => ⟨b, r.bl_of, q H2 e2⟩
theorem t_T {te : TE} (h : ED ms te σ H (.bool b)) : EvT (tTest te) σ H b := fun H1 e Q q => h H1 e _ fun v H2 e2 r => ⟨b, r.bl_of, q H2 e2⟩
theorem e_andV {a c : Bool} (h1 : ED ms ta σ H (.bool a)) (h2 : a = true → ED ms tb σ H (.bool c)) : ED ms (tAndV ta tb) σ H (.bool (a && c)) := fun H1 e Q q => h1 H1 e _ fun v H2 e2 r => ⟨a, r.bl_of, by
  cases a with
  | true =>
    show tb σ H2 Q
    exact h2 rfl H2 (e.trans e2) Q fun w H3 e3 r3 => q w H3 (e2.trans e3) r3
  | false =>
    show Q (.bl false) H2
    exact q _ H2 e2 (.bl _)⟩
theorem e_notV {a : Bool} (h1 : ED ms ta σ H (.bool a)) : ED ms (tNotV ta) σ H (.bool (!a)) := fun H1 e Q q => h1 H1 e _ fun v H2 e2 r => ⟨a, r.bl_of, q _ H2 e2 (.bl _)⟩
theorem e_if (h : EvT t σ H b) (h1 : b = true → EvP ta σ H P) (h2 : b = false → EvP tb σ H P) : EvP (tIf t ta tb) σ H P := fun H1 e Q q => h H1 e _ fun H2 e2 => by
  cases b with
  | true =>
    show ta σ H2 Q
    exact h1 rfl H2 (e.trans e2) Q fun w H3 e3 r3 => q w H3 (e2.trans e3) r3
  | false =>
    show tb σ H2 Q
    exact h2 rfl H2 (e.trans e2) Q fun w H3 e3 r3 => q w H3 (e2.trans e3) r3
theorem t_pt (h : EvT t σ H b) (e : b = true) : EvT t σ H true := e ▸ h
theorem t_is {c : Bool} (h : EvT t σ H b) (e : b = c) : EvT t σ H c := e ▸ h
theorem e_is (h : ED ms te σ H d1) (e : d1 = d2) : ED ms te σ H d2 := e ▸ h
/-- a <= b <= c -/
theorem e_chain {tc : TE} {g g' : Int → Int → Bool} {k : Int} (ha : ED ms ta σ H (.int i)) (hb : ED ms tb σ H (.int j)) (hc : ED ms tc σ H (.int k)) :
    ED ms (tChain (rI0 fun i j => .bl (g i j)) (rI0 fun i j => .bl (g' i j)) ta tb tc) σ H (.bool (g i j && g' j k)) := fun H1 e Q q =>
  ha H1 e _ fun x H2 e2 rx => hb H2 (e.trans e2) _ fun y H3 e3 ry => by
    cases rx.int_of; cases ry.int_of
    refine ⟨i, j, rfl, rfl, g i j, rfl, ?_⟩
    cases hg : g i j with
    | false => exact q _ H3 (e2.trans e3) (by rw [hg, Bool.false_and]; exact .bl _)
    | true =>
      refine hc H3 ((e.trans e2).trans e3) _ fun z H4 e4 rz => ?_
      cases rz.int_of
      exact ⟨j, k, rfl, rfl, q _ H4 ((e2.trans e3).trans e4) (by rw [hg, Bool.true_and]; exact .bl _)⟩
end
end G

set_option Elab.async false
set_option linter.all false
set_option maxRecDepth 100000
set_option maxHeartbeats 4000000
/-! GB: what a for walks as a list of data; comprehensions; loops; built-ins. -/
namespace G
open PySem L2 Evl RZ

def Src (ms : List Addr) (wi : TI) (σ : L2.St) (H : Hp) (ds : List PyData) : Prop := ∀ H1, Ex H H1 → ∀ R : It → Hp → Prop,
  (∀ (J : It) (H2 : Hp) (Y : Nat → Hp → V → Hp → Prop), Ex H1 H2 → Walk J ds.length (fun Hc => Ex (cut H2 ms) Hc) Y →
    (∀ (i : Nat) (Hc : Hp) (v : V) (H' : Hp), i < ds.length → Ex (cut H2 ms) Hc → Y i Hc v H' → Ex Hc H' ∧ ∀ ms' d, Ex (cut H2 ms) (cut Hc ms') → Live Hc ms' → ds[i]? = some d → Rp (cut H' ms') v d) → R J H2) → wi σ H1 R

section
variable {K : PySem.W.Frag} {σ : L2.St} {H H' : Hp} {ms : List Addr} {ta tb te tl th : TE} {t u : TT} {P : V → Hp → Prop} {v : V} {d d1 d2 : PyData} {i j : Int} {b : Bool} {ds es : List PyData}
theorem Src.mono {wi : TI} (e : Ex H H') (h : Src ms wi σ H ds) : Src ms wi σ H' ds := fun H1 a R q => h H1 (e.trans a) R q
theorem src_list (h : ED ms tl σ H (.list ds)) : Src ms (iList K tl) σ H ds := fun H1 e R q => h H1 e _ fun v H2 e2 r => by
  obtain ⟨a, xs, rfl, ha, ra⟩ := r.lst_of
  refine ⟨a, rfl, ⟨xs, SqL.of (cut_some ha).2⟩, q (Itl K a) H2 (YAt xs) e2 ?_ fun i Hc v H' hi eg y => ?_⟩
  · rw [← ra.len]
    exact walk_list.mono (fun Hc eg => SqL.of (eg a _ ha)) fun _ _ _ _ _ _ y => y
  · obtain ⟨rfl, hv⟩ := y
    refine ⟨Ex.refl _, fun ms' d e3 _ hd => ?_⟩
    obtain ⟨d', h1, h2⟩ := ra.get hv
    rw [hd] at h1; cases h1
    exact h2.mono e3
theorem src_tup (h : ED ms tl σ H (.tuple ds)) : Src ms (iTup K tl) σ H ds := fun H1 e R q => h H1 e _ fun v H2 e2 r => by
  obtain ⟨a, xs, rfl, ha, ra⟩ := r.tup_of
  refine ⟨a, rfl, ⟨xs, SqT.of (cut_some ha).2⟩, q (Itt K a) H2 (YAt xs) e2 ?_ fun i Hc v H' hi eg y => ?_⟩
  · rw [← ra.len]
    exact walk_tup.mono (fun Hc eg => SqT.of (eg a _ ha)) fun _ _ _ _ _ _ y => y
  · obtain ⟨rfl, hv⟩ := y
    refine ⟨Ex.refl _, fun ms' d e3 _ hd => ?_⟩
    obtain ⟨d', h1, h2⟩ := ra.get hv
    rw [hd] at h1; cases h1
    exact h2.mono e3
/-- the ints lo, lo + 1, .. -/
def rgD (lo : Int) (n : Nat) : List PyData := (List.range n).map fun (k : Nat) => PyData.int (lo + (k : Int))
theorem rgD_len {lo : Int} {n : Nat} : (rgD lo n).length = n := by unfold rgD; rw [List.length_map, List.length_range]
theorem rgD_get {lo : Int} {n k : Nat} {d : PyData} (h : (rgD lo n)[k]? = some d) : k < n ∧ d = .int (lo + (k : Int)) := by
  unfold rgD at h
  rw [List.getElem?_map] at h
  by_cases hk : k < n
  · rw [List.getElem?_range hk] at h
    exact ⟨hk, (Option.some.inj h).symm⟩
  · rw [List.getElem?_eq_none (by rw [List.length_range]; omega)] at h
    cases h
theorem rgD_mem {lo : Int} {n : Nat} {d : PyData} (h : d ∈ rgD lo n) : ∃ k : Nat, k < n ∧ d = .int (lo + (k : Int)) := by
  obtain ⟨k, hk, e⟩ := List.mem_map.mp h
  exact ⟨k, List.mem_range.mp hk, e.symm⟩
theorem src_rg {lo : Int} {n : Nat} {H2 : Hp} : Walk (Itr lo n) (rgD lo n).length (fun Hc => Ex (cut H2 ms) Hc) (YFn fun k => .int (lo + (k : Int))) ∧
    ∀ (i : Nat) (Hc : Hp) (v : V) (H' : Hp), i < (rgD lo n).length → Ex (cut H2 ms) Hc → YFn (fun k => .int (lo + (k : Int))) i Hc v H' → Ex Hc H' ∧ ∀ ms' d, Ex (cut H2 ms) (cut Hc ms') → Live Hc ms' → (rgD lo n)[i]? = some d → Rp (cut H' ms') v d := by
  refine ⟨?_, fun i Hc v H' hi eg y => ?_⟩
  · rw [rgD_len]
    exact walk_range.mono (fun _ _ => trivial) fun _ _ _ _ _ _ y => y
  · obtain ⟨rfl, rfl⟩ := y
    refine ⟨Ex.refl _, fun ms' d _ _ hd => ?_⟩
    rw [(rgD_get hd).2]; exact .int _
theorem src_rg1 {ta : TA} (h : EA ms ta σ H [.int j]) (hj : 0 ≤ j ∧ j ≤ 100000) : Src ms (iRng1 ta) σ H (rgD 0 j.toNat) := fun H1 e R q => h H1 e _ fun vs H2 e2 r => by
  have e1 : vs = [V.int j] := RpAll.ints_of (ns := [j]) r
  subst e1
  exact ⟨j, rfl, by omega, by omega, q _ H2 _ e2 src_rg.1 src_rg.2⟩
theorem src_rg2 {ta : TA} (h : EA ms ta σ H [.int i, .int j]) (hi : -100000 ≤ i ∧ i ≤ 100000) (hj : -100000 ≤ j ∧ j ≤ 100000) : Src ms (iRng2 ta) σ H (rgD i (j - i).toNat) := fun H1 e R q => h H1 e _ fun vs H2 e2 r => by
  have e1 : vs = [V.int i, V.int j] := RpAll.ints_of (ns := [i, j]) r
  subst e1
  exact ⟨i, j, rfl, ⟨by omega, by omega, by omega, by omega⟩, q _ H2 _ e2 src_rg.1 src_rg.2⟩
/-- with a step -/
def rgC (lo c : Int) (n : Nat) : List PyData := (List.range n).map fun (k : Nat) => PyData.int (lo + (k : Int) * c)
theorem rgC_len {lo c : Int} {n : Nat} : (rgC lo c n).length = n := by unfold rgC; rw [List.length_map, List.length_range]
theorem rgC_get {lo c : Int} {n k : Nat} {d : PyData} (h : (rgC lo c n)[k]? = some d) : k < n ∧ d = .int (lo + (k : Int) * c) := by
  unfold rgC at h
  rw [List.getElem?_map] at h
  by_cases hk : k < n
  · rw [List.getElem?_range hk] at h
    exact ⟨hk, (Option.some.inj h).symm⟩
  · rw [List.getElem?_eq_none (by rw [List.length_range]; omega)] at h
    cases h
theorem src_rg3 {ta : TA} {c : Int} {n : Nat} (h : EA ms ta σ H [.int i, .int j, .int c]) (hc : RgC i j c n) : Src ms (iRng3 ta) σ H (rgC i c n) := fun H1 e R q => h H1 e _ fun vs H2 e2 r => by
  have e1 : vs = [V.int i, V.int j, V.int c] := RpAll.ints_of (ns := [i, j, c]) r
  subst e1
  refine ⟨i, j, c, n, rfl, hc, q (Itc i c n) H2 (YFn fun k => .int (i + (k : Nat) * c)) e2 ?_ fun k Hc v H' hi eg y => ?_⟩
  · rw [rgC_len]
    exact walk_rangeC.mono (fun _ _ => trivial) fun _ _ _ _ _ _ y => y
  · obtain ⟨rfl, rfl⟩ := y
    refine ⟨Ex.refl _, fun ms' d _ _ hd => ?_⟩
    rw [(rgC_get hd).2]; exact .int _
/-- pairs of two lists -/
def zipD (ds es : List PyData) : List PyData := (ds.zip es).map fun p => .tuple [p.1, p.2]
theorem zipD_len {ds es : List PyData} : (zipD ds es).length = min ds.length es.length := by unfold zipD; rw [List.length_map, List.length_zip]
theorem zipD_get {k : Nat} (h : (zipD ds es)[k]? = some d) : ∃ a b, ds[k]? = some a ∧ es[k]? = some b ∧ d = .tuple [a, b] := by
  unfold zipD at h
  rw [List.getElem?_map] at h
  cases q : (ds.zip es)[k]? with
  | none => rw [q] at h; cases h
  | some p =>
    rw [q] at h
    obtain ⟨h1, h2⟩ := List.getElem?_zip_eq_some.mp q
    exact ⟨p.1, p.2, h1, h2, (Option.some.inj h).symm⟩
theorem zipD_mem (h : d ∈ zipD ds es) : ∃ (k : Nat) (a b : PyData), ds[k]? = some a ∧ es[k]? = some b ∧ d = .tuple [a, b] := by
  obtain ⟨k, hk, e⟩ := List.getElem_of_mem h
  obtain ⟨a, b, h1, h2, h3⟩ := zipD_get (k := k) (d := d) (by rw [List.getElem?_eq_getElem hk, e])
  exact ⟨k, a, b, h1, h2, h3⟩
theorem pair_new {ms' : List Addr} {Hc : Hp} {T : Addr} {x y : V} (hT : Hc T = none) (L : Live Hc ms') (rx : Rp (cut Hc ms') x d1) (ry : Rp (cut Hc ms') y d2) : Rp (cut (upd Hc T (.tup [x, y])) ms') (.ref T) (.tuple [d1, d2]) :=
  .tup (by rw [cut_out (L.out hT), upd_same]) (.cons (rx.mono (ex_cut (Ex.new hT))) (.cons (ry.mono (ex_cut (Ex.new hT))) .nil))
theorem src_zipL {ta : TA} (h : EA ms ta σ H [.list ds, .list es]) : Src ms (iZip K ta) σ H (zipD ds es) := fun H1 e R q => h H1 e _ fun vs H2 e2 r => by
  cases r with
  | cons r1 r =>
  cases r with
  | cons r2 r =>
  cases r
  obtain ⟨a, xs, rfl, ha, ra⟩ := r1.lst_of
  obtain ⟨b, ys, rfl, hb, rb⟩ := r2.lst_of
  refine ⟨a, b, xs, ys, rfl, SqL.of (cut_some ha).2, SqL.of (cut_some hb).2, q (Itz K a b) H2 (YPair (fun i => xs[i]?) (fun i => ys[i]?)) e2 ?_ fun i Hc v H' hi eg y => ?_⟩
  · exact (walk_zip (by rw [zipD_len, ra.len, rb.len])).mono (fun Hc eg => ⟨SqL.of (eg a _ ha), SqL.of (eg b _ hb)⟩) fun _ _ _ _ _ _ y => y
  · obtain ⟨T, x, z, rfl, hT, rfl, h1, h2⟩ := y
    refine ⟨Ex.new hT, fun ms' d e3 L hd => ?_⟩
    obtain ⟨p, p', hp, hp', rfl⟩ := zipD_get hd
    obtain ⟨q1, g1, g2⟩ := ra.get h1
    obtain ⟨q2, g3, g4⟩ := rb.get h2
    rw [hp] at g1; cases g1
    rw [hp'] at g3; cases g3
    exact pair_new hT L (g2.mono e3) (g4.mono e3)
theorem walk_zipT {a b : Addr} {xs ys : List V} {n : Nat} (hn : n = min xs.length ys.length) : Walk (ItzT K a b) n (fun H => SqT K H a xs ∧ SqT K H b ys) (YPair (fun i => xs[i]?) (fun i => ys[i]?)) := by
  subst hn
  refine ⟨fun i _ hi q => ?_, fun _ q => ⟨xs, ys, q.1, q.2, by omega⟩, fun i H v H' _ q y => ?_⟩
  · have h1 : i < xs.length := by omega
    have h2 : i < ys.length := by omega
    exact ⟨xs, ys, xs[i], ys[i], q.1, q.2, by simp [h1], by simp [h2]⟩
  · obtain ⟨T, x, z, h1, h2, h3, h4, h5⟩ := y
    exact ⟨T, x, z, h1, h2, h3, h4 xs q.1, h5 ys q.2⟩
theorem src_zipAT {ta : TA} (h : EA ms ta σ H [.tuple ds, .tuple es]) : Src ms (iZipA K ta) σ H (zipD ds es) := fun H1 e R q => h H1 e _ fun vs H2 e2 r => by
  cases r with
  | cons r1 r =>
  cases r with
  | cons r2 r =>
  cases r
  obtain ⟨a, xs, rfl, ha, ra⟩ := r1.tup_of
  obtain ⟨b, ys, rfl, hb, rb⟩ := r2.tup_of
  refine ⟨a, b, xs, ys, rfl, .inr ⟨SqT.of (cut_some ha).2, SqT.of (cut_some hb).2, q (ItzT K a b) H2 (YPair (fun i => xs[i]?) (fun i => ys[i]?)) e2 ?_ fun i Hc v H' hi eg y => ?_⟩⟩
  · exact (walk_zipT (by rw [zipD_len, ra.len, rb.len])).mono (fun Hc eg => ⟨SqT.of (eg a _ ha), SqT.of (eg b _ hb)⟩) fun _ _ _ _ _ _ y => y
  · obtain ⟨T, x, z, rfl, hT, rfl, h1, h2⟩ := y
    refine ⟨Ex.new hT, fun ms' d e3 L hd => ?_⟩
    obtain ⟨p, p', hp, hp', rfl⟩ := zipD_get hd
    obtain ⟨q1, g1, g2⟩ := ra.get h1
    obtain ⟨q2, g3, g4⟩ := rb.get h2
    rw [hp] at g1; cases g1
    rw [hp'] at g3; cases g3
    exact pair_new hT L (g2.mono e3) (g4.mono e3)
theorem src_zipAL {ta : TA} (h : EA ms ta σ H [.list ds, .list es]) : Src ms (iZipA K ta) σ H (zipD ds es) := fun H1 e R q => h H1 e _ fun vs H2 e2 r => by
  cases r with
  | cons r1 r =>
  cases r with
  | cons r2 r =>
  cases r
  obtain ⟨a, xs, rfl, ha, ra⟩ := r1.lst_of
  obtain ⟨b, ys, rfl, hb, rb⟩ := r2.lst_of
  refine ⟨a, b, xs, ys, rfl, .inl ⟨SqL.of (cut_some ha).2, SqL.of (cut_some hb).2, q (Itz K a b) H2 (YPair (fun i => xs[i]?) (fun i => ys[i]?)) e2 ?_ fun i Hc v H' hi eg y => ?_⟩⟩
  · exact (walk_zip (by rw [zipD_len, ra.len, rb.len])).mono (fun Hc eg => ⟨SqL.of (eg a _ ha), SqL.of (eg b _ hb)⟩) fun _ _ _ _ _ _ y => y
  · obtain ⟨T, x, z, rfl, hT, rfl, h1, h2⟩ := y
    refine ⟨Ex.new hT, fun ms' d e3 L hd => ?_⟩
    obtain ⟨p, p', hp, hp', rfl⟩ := zipD_get hd
    obtain ⟨q1, g1, g2⟩ := ra.get h1
    obtain ⟨q2, g3, g4⟩ := rb.get h2
    rw [hp] at g1; cases g1
    rw [hp'] at g3; cases g3
    exact pair_new hT L (g2.mono e3) (g4.mono e3)
/-- enumerate -/
def enumD (ds : List PyData) : List PyData := zipD (rgD 0 ds.length) ds
theorem enumD_len : (enumD ds).length = ds.length := by unfold enumD; rw [zipD_len, rgD_len]; omega
theorem enumD_get {k : Nat} (h : (enumD ds)[k]? = some d) : ∃ b, ds[k]? = some b ∧ d = .tuple [.int (k : Int), b] := by
  obtain ⟨a, b, h1, h2, h3⟩ := zipD_get h
  obtain ⟨_, rfl⟩ := rgD_get h1
  rw [Int.zero_add] at h3
  exact ⟨b, h2, h3⟩
theorem src_enum {ta : TA} (h : EA ms ta σ H [.list ds]) : Src ms (iEnum K ta) σ H (enumD ds) := fun H1 e R q => h H1 e _ fun vs H2 e2 r => by
  cases r with
  | cons r1 r =>
  cases r
  obtain ⟨a, xs, rfl, ha, ra⟩ := r1.lst_of
  refine ⟨a, xs, rfl, SqL.of (cut_some ha).2, q (Ite K a) H2 (YPair (fun i => some (.int (i : Nat))) (fun i => xs[i]?)) e2 ?_ fun i Hc v H' hi eg y => ?_⟩
  · rw [enumD_len, ← ra.len]
    exact walk_enum.mono (fun Hc eg => SqL.of (eg a _ ha)) fun _ _ _ _ _ _ y => y
  · obtain ⟨T, x, z, rfl, hT, rfl, h1, h2⟩ := y
    refine ⟨Ex.new hT, fun ms' d e3 L hd => ?_⟩
    obtain ⟨p', hp', rfl⟩ := enumD_get hd
    obtain ⟨q2, g3, g4⟩ := ra.get h2
    rw [hp'] at g3; cases g3
    cases h1
    exact pair_new hT L (.int _) (g4.mono e3)

/-! ### targets -/
theorem g_tup2 {ma mb : Nat} {Hx : Hp} (e : Ex Hx H) (r : Rp Hx v (.tuple [d1, d2])) : ∃ x y, Rp Hx x d1 ∧ Rp Hx y d2 ∧ ∀ (σ' : L2.St) (Q : L2.St → Hp → Prop), Q ((σ'.set ma (some x)).set mb (some y)) H → gTup K 2 (gCons (gName ma) (gCons (gName mb) gNil)) v σ' H Q := by
  obtain ⟨a, xs, rfl, ha, ra⟩ := r.tup_of
  cases ra with
  | cons r1 r =>
  cases r with
  | cons r2 r =>
  cases r
  exact ⟨_, _, r1, r2, fun σ' Q q => ⟨a, _, rfl, SqT.of (e a _ ha), rfl, _, _, rfl, _, _, rfl, rfl, q⟩⟩

/-! ### a list comprehension -/
theorem e_lcT {α : Type} {xs : List α} {enc : α → PyData} {wi : TI} {g : TG} {tt : TT} {vs : List Nat} (f : α → Bool) (r : α → PyData) (S : Src ms wi σ H (xs.map enc)) (hn : xs.length ≤ 40000) (L : Live H ms)
    (step : ∀ (ms' : List Addr) (a : α) (v : V) (H1 : Hp), a ∈ xs → Ex H H1 → Ex (cut H ms) (cut H1 ms') → Live H1 ms' → Rp (cut H1 ms') v (enc a) →
      ∃ σ2, (∀ Q : L2.St → Hp → Prop, Q σ2 H1 → g v (wipe σ vs) H1 Q) ∧ wipe σ2 vs = wipe σ vs ∧ EvT tt σ2 H1 (f a) ∧ (f a = true → ED ms' te σ2 H1 (r a))) :
    ED ms (tLc wi g tt te vs) σ H (.list ((xs.filter f).map r)) := fun H0 e Q q => S H0 e _ fun J H2 Y e2 W hY => fun Dl hD => by
  have L2' : Live H2 ms := L.mono (e.trans e2)
  have hDm : Dl ∉ ms := L2'.out hD
  refine lc_it W (fun i Hc => ∃ acc, Hc Dl = some (.lst acc) ∧ RpAll (cut Hc (Dl :: ms)) acc (((xs.take i).filter f).map r) ∧ Ex H2 Hc) ?h0 ?hG ?hs ?hd
  case h0 => exact ⟨[], upd_same, by rw [List.take_zero]; exact .nil, Ex.new hD⟩
  case hG => exact fun i Hc hi ⟨acc, h1, h2, h3⟩ => cut_le.trans h3
  case hs =>
    rintro i x Hc H' hi ⟨acc, h1, h2, h3⟩ hy
    obtain ⟨ey, ry⟩ := hY i Hc x H' hi (cut_le.trans h3) hy
    have hi' : i < xs.length := by rw [List.length_map] at hi; exact hi
    have hxi : xs[i]? = some xs[i] := List.getElem?_eq_getElem hi'
    have hdi : (xs.map enc)[i]? = some (enc xs[i]) := by rw [List.getElem?_map, hxi]; rfl
    have ec : Ex (cut H2 ms) (cut Hc (Dl :: ms)) := fun a o z => by
      obtain ⟨z1, z2⟩ := cut_some z
      have : a ≠ Dl := ne_of_none z2 hD
      rw [cut_out (by simp [this, z1])]
      exact h3 a o z2
    have Lc : Live Hc (Dl :: ms) := (L2'.mono h3).cons h1
    obtain ⟨σ2, hg, hw, ht, he⟩ := step (Dl :: ms) xs[i] x H' (List.getElem_mem hi') (((e.trans e2).trans h3).trans ey) (((ex_cut (e.trans e2)).trans ec).trans (ex_cut ey)) (Lc.mono ey) (ry (Dl :: ms) _ ec Lc hdi)
    refine hg _ ⟨hw, ht H' (Ex.refl H') _ fun H3 e3 => ?_⟩
    have tk : xs.take (i + 1) = xs.take i ++ [xs[i]] := by rw [List.take_add_one, hxi]; rfl
    cases hf : f xs[i] with
    | false =>
      refine ⟨acc, e3 Dl _ (ey Dl _ h1), ?_, (h3.trans ey).trans e3⟩
      rw [tk, List.filter_append, List.filter_cons, if_neg (by rw [hf]; decide), List.filter_nil, List.append_nil]
      exact h2.mono (ex_cut (ey.trans e3))
    | true =>
      show te σ2 H3 _
      refine he hf H3 e3 _ fun y H4 e4 r4 => ⟨acc, e4 Dl _ (e3 Dl _ (ey Dl _ h1)), ?_, acc ++ [y], upd_same, ?_, ?_⟩
      · have := h2.len
        rw [List.length_map] at this
        have := List.length_filter_le f (xs.take i)
        have := List.length_take_le i xs
        exact Evl.sz_lt (by omega)
      · rw [cut_upd List.mem_cons_self, tk, List.filter_append, List.filter_cons, if_pos hf, List.filter_nil, List.map_append]
        exact (h2.mono (ex_cut ((ey.trans e3).trans e4))).snoc r4
      · exact Ex.mut (((h3.trans ey).trans e3).trans e4) hD
  case hd =>
    rintro Hc ⟨acc, h1, h2, h3⟩
    rw [List.length_map, List.take_length] at h2
    refine q (.ref Dl) Hc (e2.trans h3) (.lst (by rw [cut_out hDm]; exact h1) (h2.mono (cut_sub fun m hm => List.mem_cons_of_mem _ hm)))
theorem e_lc {wi : TI} {g : TG} {tt : TT} {vs : List Nat} (f : PyData → Bool) (r : PyData → PyData) (S : Src ms wi σ H ds) (hn : ds.length ≤ 40000) (L : Live H ms)
    (step : ∀ (ms' : List Addr) (d : PyData) (v : V) (H1 : Hp), d ∈ ds → Ex H H1 → Ex (cut H ms) (cut H1 ms') → Live H1 ms' → Rp (cut H1 ms') v d →
      ∃ σ2, (∀ Q : L2.St → Hp → Prop, Q σ2 H1 → g v (wipe σ vs) H1 Q) ∧ wipe σ2 vs = wipe σ vs ∧ EvT tt σ2 H1 (f d) ∧ (f d = true → ED ms' te σ2 H1 (r d))) :
    ED ms (tLc wi g tt te vs) σ H (.list ((ds.filter f).map r)) := e_lcT (xs := ds) (enc := fun d => d) f r (by rw [List.map_id']; exact S) hn L step
/-- no test -/
theorem t_yes : EvT tYes σ H true := fun H1 e Q q => q H1 (Ex.refl H1)
theorem filter_yes : ds.filter (fun _ => true) = ds := List.filter_eq_self.mpr fun _ _ => rfl
theorem e_map {wi : TI} {g : TG} {vs : List Nat} (r : PyData → PyData) (S : Src ms wi σ H ds) (hn : ds.length ≤ 40000) (L : Live H ms)
    (step : ∀ (ms' : List Addr) (d : PyData) (v : V) (H1 : Hp), d ∈ ds → Ex H H1 → Ex (cut H ms) (cut H1 ms') → Live H1 ms' → Rp (cut H1 ms') v d →
      ∃ σ2, (∀ Q : L2.St → Hp → Prop, Q σ2 H1 → g v (wipe σ vs) H1 Q) ∧ wipe σ2 vs = wipe σ vs ∧ ED ms' te σ2 H1 (r d)) :
    ED ms (tLc wi g tYes te vs) σ H (.list (ds.map r)) := by
  have := e_lc (fun _ => true) r S hn L (te := te) (g := g) (tt := tYes) (vs := vs) fun ms' d v H1 a1 a2 a3 a4 a5 => by
    obtain ⟨σ2, h1, h2, h3⟩ := step ms' d v H1 a1 a2 a3 a4 a5
    exact ⟨σ2, h1, h2, t_yes, fun _ => h3⟩
  rw [filter_yes] at this
  exact this

theorem e_mapT {α : Type} {xs : List α} {enc : α → PyData} {wi : TI} {g : TG} {vs : List Nat} (r : α → PyData) (S : Src ms wi σ H (xs.map enc)) (hn : xs.length ≤ 40000) (L : Live H ms)
    (step : ∀ (ms' : List Addr) (a : α) (v : V) (H1 : Hp), a ∈ xs → Ex H H1 → Ex (cut H ms) (cut H1 ms') → Live H1 ms' → Rp (cut H1 ms') v (enc a) →
      ∃ σ2, (∀ Q : L2.St → Hp → Prop, Q σ2 H1 → g v (wipe σ vs) H1 Q) ∧ wipe σ2 vs = wipe σ vs ∧ ED ms' te σ2 H1 (r a)) :
    ED ms (tLc wi g tYes te vs) σ H (.list (xs.map r)) := by
  have := e_lcT (fun _ => true) r S hn L (te := te) (g := g) (tt := tYes) (vs := vs) fun ms' d v H1 a1 a2 a3 a4 a5 => by
    obtain ⟨σ2, h1, h2, h3⟩ := step ms' d v H1 a1 a2 a3 a4 a5
    exact ⟨σ2, h1, h2, t_yes, fun _ => h3⟩
  rw [List.filter_eq_self.mpr fun _ _ => rfl] at this
  exact this

theorem e_isN_t (ha : ED ms ta σ H d) : EvT (tTest (tOp (fun x y H Q => y = .non ∧ Q (.bl (decide (x = .non))) H) ta (tC .non))) σ H (isNoneD d) := t_T (e_isN ha)
theorem e_notN_t (ha : ED ms ta σ H d) : EvT (tTest (tOp (fun x y H Q => y = .non ∧ Q (.bl (!decide (x = .non))) H) ta (tC .non))) σ H (!isNoneD d) := t_T (e_notN ha)
/-! ### for and while -/
variable {D : Ends} {tu : TS}
/-- H1: the heap at the loop's start; what is walked stands outside ms -/
theorem s_for {wi : TI} {g : TG} (S : Src ms wi σ H ds) (Pv : Hp → Nat → L2.St → Hp → Prop) (h0 : ∀ H1, Ex H H1 → Pv H1 0 σ H1)
    (hk : ∀ H1 i σ' H', Ex H H1 → i ≤ ds.length → Pv H1 i σ' H' → Ex (cut H1 ms) H')
    (hs : ∀ H1 i d v σ' Hc H', Ex H H1 → ds[i]? = some d → Pv H1 i σ' Hc → Ex Hc H' → (∀ ms', Ex (cut H1 ms) (cut Hc ms') → Live Hc ms' → Rp (cut H' ms') v d) →
      g v σ' H' fun σ2 H2 => tu { D with nx := Pv H1 (i + 1), ct := Pv H1 (i + 1), bk := D.nx } σ2 H2)
    (hd : ∀ H1 σ' H', Ex H H1 → Pv H1 ds.length σ' H' → D.nx σ' H') : tFor wi g tu D σ H := S H (Ex.refl H) _ fun J H2 Y e2 W hY =>
  for_it W (Pv H2) (h0 H2 e2) (fun i σ' H' hi p => hk _ i σ' H' e2 hi p)
    (fun i x σ' Hc H' hi p y => by
      obtain ⟨ey, ry⟩ := hY i Hc x H' hi (hk _ i σ' Hc e2 (Nat.le_of_lt hi) p) y
      exact hs _ i ds[i] x σ' Hc H' e2 (List.getElem?_eq_getElem hi) p ey fun ms' ec L => ry ms' _ ec L (List.getElem?_eq_getElem hi))
    fun σ' H' p => hd _ σ' H' e2 p
theorem s_seqfor {wi : TI} {g : TG} {tz : TS} (S : Src ms wi σ H ds) (Pv : Hp → Nat → L2.St → Hp → Prop) (h0 : ∀ H1, Ex H H1 → Pv H1 0 σ H1)
    (hk : ∀ H1 i σ' H', Ex H H1 → i ≤ ds.length → Pv H1 i σ' H' → Ex (cut H1 ms) H')
    (hs : ∀ H1 i d v σ' Hc H', Ex H H1 → ds[i]? = some d → Pv H1 i σ' Hc → Ex Hc H' → (∀ ms', Ex (cut H1 ms) (cut Hc ms') → Live Hc ms' → Rp (cut H' ms') v d) →
      g v σ' H' fun σ2 H2 => tu { D with nx := Pv H1 (i + 1), ct := Pv H1 (i + 1), bk := tz D } σ2 H2)
    (hd : ∀ H1 σ' H', Ex H H1 → Pv H1 ds.length σ' H' → tz D σ' H') : tSeq (tFor wi g tu) tz D σ H := s_for (D := { D with nx := tz D }) S Pv h0 hk hs hd
theorem s_asg {k : Nat} (h : EvP te σ H P) (q : ∀ v H1, Ex H H1 → P v H1 → D.nx (σ.set k (some v)) H1) : tAsg te (gName k) D σ H := h H (Ex.refl H) _ fun v H1 e p => q v H1 e p
theorem q_asg {k : Nat} {tz : TS} (h : EvP te σ H P) (q : ∀ v H1, Ex H H1 → P v H1 → tz D (σ.set k (some v)) H1) : tSeq (tAsg te (gName k)) tz D σ H := h H (Ex.refl H) _ fun v H1 e p => q v H1 e p
theorem s_ret (h : EvP te σ H P) (q : ∀ v H1, Ex H H1 → P v H1 → D.rt v H1) : tRet te D σ H := h H (Ex.refl H) _ fun v H1 e p => q v H1 e p
theorem s_drop (h : EvP te σ H P) (q : ∀ v H1, Ex H H1 → P v H1 → D.nx σ H1) : tDrop te D σ H := h H (Ex.refl H) _ fun v H1 e p => q v H1 e p
theorem q_drop {tz : TS} (h : EvP te σ H P) (q : ∀ v H1, Ex H H1 → P v H1 → tz D σ H1) : tSeq (tDrop te) tz D σ H := h H (Ex.refl H) _ fun v H1 e p => q v H1 e p
/-- a test whose answer is known -/
theorem q_no {tw tz : TS} (h : EvT t σ H false) (q : ∀ H1, Ex H H1 → tz D σ H1) : tSeq (tIfS t tw tNext) tz D σ H := h H (Ex.refl H) _ fun H1 e => q H1 e
theorem q_if {tw tz : TS} (h : EvT t σ H b) (h1 : b = true → ∀ H1, Ex H H1 → tu { D with nx := tz D } σ H1) (h2 : b = false → ∀ H1, Ex H H1 → tw { D with nx := tz D } σ H1) : tSeq (tIfS t tu tw) tz D σ H := h H (Ex.refl H) _ fun H1 e => by
  cases b with
  | true => exact h1 rfl H1 e
  | false => exact h2 rfl H1 e
theorem s_if {tw : TS} (h : EvT t σ H b) (h1 : b = true → ∀ H1, Ex H H1 → tu D σ H1) (h2 : b = false → ∀ H1, Ex H H1 → tw D σ H1) : tIfS t tu tw D σ H := h H (Ex.refl H) _ fun H1 e => by
  cases b with
  | true => exact h1 rfl H1 e
  | false => exact h2 rfl H1 e
theorem s_while (W : Nat → L2.St → Hp → Prop) (m0 : Nat) (h0 : W m0 σ H)
    (hs : ∀ m σ' H', W m σ' H' → ∃ b, EvT t σ' H' b ∧ (b = true → ∀ H1, Ex H' H1 → ∃ N : L2.St → Hp → Prop, (∀ σ2 H2, N σ2 H2 → ∃ m', m' < m ∧ W m' σ2 H2) ∧ tu { D with nx := N, ct := N, bk := D.nx } σ' H1) ∧ (b = false → ∀ H1, Ex H' H1 → D.nx σ' H1)) : tWhile t tu D σ H := Evl.s_while W m0 h0 hs
theorem q_while {tz : TS} (W : Nat → L2.St → Hp → Prop) (m0 : Nat) (h0 : W m0 σ H)
    (hs : ∀ m σ' H', W m σ' H' → ∃ b, EvT t σ' H' b ∧ (b = true → ∀ H1, Ex H' H1 → ∃ N : L2.St → Hp → Prop, (∀ σ2 H2, N σ2 H2 → ∃ m', m' < m ∧ W m' σ2 H2) ∧ tu { D with nx := N, ct := N, bk := tz D } σ' H1) ∧ (b = false → ∀ H1, Ex H' H1 → tz D σ' H1)) : tSeq (tWhile t tu) tz D σ H := Evl.q_while W m0 h0 hs
/-- xs.append(e) -/
theorem s_app {l : Addr} {xs : List V} (ha : EvP ta σ H fun w _ => w = .ref l) (hl : H l = some (.lst xs)) (hm : l ∈ ms) (h : ED ms te σ H d) (hz : xs.length < 100000)
    (q : ∀ v H1, Ex H H1 → Rp (cut H1 ms) v d → D.nx σ (upd H1 l (.lst (xs ++ [v])))) : tDrop (tBM K "list" rAppend ta (tCons te tNil)) D σ H := ha H (Ex.refl H) _ fun w H1 e1 hw => by
  subst hw
  exact ⟨.inl ⟨rfl, xs, SqL.of (e1 l _ hl)⟩, h H1 e1 _ fun v H2 e2 r => ⟨l, xs, v, rfl, rfl, e2 l _ (e1 l _ hl), Evl.sz_lt hz, q v H2 (e1.trans e2) r⟩⟩
theorem q_app {l : Addr} {xs : List V} {tz : TS} (ha : EvP ta σ H fun w _ => w = .ref l) (hl : H l = some (.lst xs)) (hm : l ∈ ms) (h : ED ms te σ H d) (hz : xs.length < 100000)
    (q : ∀ v H1, Ex H H1 → Rp (cut H1 ms) v d → tz D σ (upd H1 l (.lst (xs ++ [v])))) : tSeq (tDrop (tBM K "list" rAppend ta (tCons te tNil))) tz D σ H := s_app (D := { D with nx := tz D }) ha hl hm h hz q
/-- xs[i] = e -/
theorem s_setL {l : Addr} {xs : List V} {k : Nat} (hl : H l = some (.lst xs)) (h : EvP te σ H P) (hP : ∀ v H1 H2, Ex H1 H2 → P v H1 → P v H2) (ho : EvP ta σ H fun w _ => w = .ref l) (hi : ED ms tb σ H (.int (k : Int))) (hk : k < xs.length)
    (q : ∀ v H1, Ex H H1 → P v H1 → D.nx σ (upd H1 l (.lst (xs.set k v)))) : tAsg te (gSub ta tb rSetL) D σ H := h H (Ex.refl H) _ fun v H1 e1 p => ho H1 e1 _ fun w H2 e2 hw => hi H2 (e1.trans e2) _ fun z H3 e3 rz => by
  subst hw
  cases rz.int_of
  exact ⟨l, xs, (k : Int), k, rfl, rfl, ((e1.trans e2).trans e3) l _ hl, Evl.ixN_nat hk, q v H3 ((e1.trans e2).trans e3) (hP v H1 H3 (e2.trans e3) p)⟩
end
section
variable {H H' : Hp} {ms : List Addr}
theorem cut_more {qs : List Addr} (h : ∀ q ∈ qs, H q = none) (e : Ex H H') : Ex (cut H ms) (cut H' (qs ++ ms)) := fun a o z => by
  obtain ⟨z1, z2⟩ := cut_some z
  rw [cut_out]
  · exact e a o z2
  · intro y
    rcases List.mem_append.mp y with y | y
    · rw [h a y] at z2; cases z2
    · exact z1 y
theorem ex_cut_in {Hb : Hp} (e : Ex (cut Hb ms) H) : Ex (cut Hb ms) (cut H ms) := fun a o z => by
  rw [cut_out (cut_some z).1]; exact e a o z
theorem Live.app {qs : List Addr} (h1 : ∀ q ∈ qs, ∃ o, H q = some o) (h2 : Live H ms) : Live H (qs ++ ms) := fun m hm => (List.mem_append.mp hm).elim (h1 m) (h2 m)
/-- what a changed object leaves -/
theorem ex_cut_upd {Hb : Hp} {m : Addr} {o : HO} (e : Ex (cut Hb ms) H) (h : m ∈ ms) : Ex (cut Hb ms) (upd H m o) := fun a u z => by
  obtain ⟨z1, z2⟩ := cut_some z
  rw [upd_ne (fun y => z1 (by rw [y]; exact h))]; exact e a u z
end
end G

set_option Elab.async false
set_option linter.all false
set_option maxRecDepth 100000
set_option maxHeartbeats 4000000
/-! GD: own defs as callees; built-ins by data. -/
namespace G
open PySem PySem.Spec PyProof.Rows L2 Evl RZ

/-- a def of the text that keeps its promise, and stands under its name -/
def Dfn (P : Program) (w : World) (K : PySem.W.Frag) (mg : Str → Option Value) (base : Heap) (k : Nat) (x : Str) (ps : List Str) (sp : Sp) : Prop :=
  ∃ (f : Addr) (fd : FuncData), FnOk P w K mg base CX0 k f fd ps sp ∧ mg x = some (.ref f) ∧ PySem.W.keepIn K (.ref f) = true ∧ Binds K fd ps []
theorem pe_own {X : Cx} {k j : Nat} {x : Str} {ps : List Str} {sp : Sp} {e : Expr} {es : List Expr} {t : TA} {p pos : Pos} (D : Dfn X.prog X.w X.K X.mg X.base k x ps sp) (hr : Room j X.A) (ha : PA X (e :: es) t) (hg : Gl X x := by rfl) (hk : k ≤ j := by decide)
    (hdb : (x == ("__debug__" : Str)) = false := by decide) (he : starEach (e :: es) X.env = (false, eval e X.env) :: starEach es X.env := by rfl) (hpl : (backTo pos (starEach es X.env)).any (·.1) = false := by rfl) :
    PE X (.Call (.Name x p) (e :: es) [] pos) (tCall sp [] E0 t) := by
  obtain ⟨f, fd, F, hm, kp, b⟩ := D
  exact pe_call F (hr.mono hk) hg hm kp b .nil pass0 ha hdb he hpl
theorem Dfn.mk {P : Program} {w : World} {K : PySem.W.Frag} {mg : Str → Option Value} {base : Heap} {k : Nat} {x : Str} {ps : List Str} {sp : Sp} {f : Addr} {fd : FuncData} (F : FnOk P w K mg base CX0 k f fd ps sp) (hm : mg x = some (.ref f)) (kp : PySem.W.keepIn K (.ref f) = true) (b : Binds K fd ps []) : Dfn P w K mg base k x ps sp := ⟨f, fd, F, hm, kp, b⟩
/-! ### rules that name the frag, for a comprehension's block -/
section
variable {X : Cx} (K : PySem.W.Frag) (hK : X.K = K)
include hK
theorem pg_tupK {es : List Expr} {k : Nat} {t : TGs} {n : Nat} {pos : Pos} (hc : X.calm = true) (h : PGs X es t) (hn : (assignEach es X.env).length = n := by rfl) (hst : (assignEach es X.env).findIdx? (·.1) = none := by rfl) : PG X (.Tuple es k pos) (gTup K n t) := by
  subst hK; exact pg_tup hc h hn hst
theorem op_ltTK (hu : X.A.units < cLine) : OpR X (compareOp .Lt) (rLtT K) := by subst hK; exact op_ltT hu
theorem op_eqDK (hu : X.A.units + 64 < cLine) : OpR X (compareOp .Eq) (rEqD K) := by subst hK; exact op_eqD hu
theorem op_neDK (hu : X.A.units + 64 < cLine) : OpR X (compareOp .NotEq) (rNeD K) := by subst hK; exact op_neD hu
theorem op_inK : OpR X (compareOp .In) (rIn K false) := by subst hK; exact op_in_seq
theorem op_notInK : OpR X (compareOp .NotIn) (rIn K true) := by subst hK; exact op_notIn_seq
theorem op_inDK (hu : X.A.units + 65 < cLine) : OpR X (compareOp .In) (rInD K) := by subst hK; exact op_inD hu
theorem op_notInDK (hu : X.A.units + 65 < cLine) : OpR X (compareOp .NotIn) (rNotInD K) := by subst hK; exact op_notInD hu
theorem op_catAK : OpR X (binaryOp .Add) (rCatA K) := by subst hK; exact op_catA
theorem ix_listK : IxR X (rIxL K) := by subst hK; exact ix_list
theorem ix_tupK : IxR X (rIxT K) := by subst hK; exact ix_tup
theorem sl_tupK : SlR X (rSlA K) := by subst hK; exact sl_tupA
theorem sl_listK : SlR X (rSlL K) := by subst hK; exact sl_list
theorem call_isiK' : CallR X (.builtin "isinstance") (rIsi K) := by subst hK; exact call_isi
theorem call_isiTK : CallR X (.builtin "isinstance") (rIsiT K) := by subst hK; exact call_isiT
theorem call_lenK : CallR X (.builtin "len") (fun xs H Q => ∃ p ys, xs = [.ref p] ∧ (SqL K H p ys ∨ SqT K H p ys) ∧ Q (.int ys.length) H) := by subst hK; exact call_len_seq
theorem call_tupleK : CallR X (.type "tuple") (fun xs H Q => ∃ p ys, xs = [.ref p] ∧ ((SqL K H p ys ∧ ∀ l, H l = none → Q (.ref l) (upd H l (.tup ys))) ∨ (SqT K H p ys ∧ Q (.ref p) H))) := by subst hK; exact call_tuple_of
theorem call_listK : CallR X (.type "list") (fun xs H Q => ∃ p ys, xs = [.ref p] ∧ (SqL K H p ys ∨ SqT K H p ys) ∧ ∀ l, H l = none → Q (.ref l) (upd H l (.lst ys))) := by subst hK; exact call_list_of
theorem cr_sumK (hc : X.calm = true) : CallR X (.builtin "sum") (rSum K) := by subst hK; exact cr_sum hc
theorem cr_minK' (hc : X.calm = true) : CallR X (.builtin "min") (rMin K) := by subst hK; exact cr_min hc
theorem cr_allK (hc : X.calm = true) : CallR X (.builtin "all") (rAll K) := by subst hK; exact cr_all hc
theorem cr_anyK (hc : X.calm = true) : CallR X (.builtin "any") (rAny K) := by subst hK; exact cr_any hc
theorem cr_sortedIK : CallR X (.builtin "sorted") (rSortedI K) := by subst hK; exact cr_sortedI
theorem pi_listK {tg l : Expr} {tl : TE} (hl : PE X l tl) : PI X tg l (iList K tl) := by subst hK; exact pi_list hl
theorem pi_tupK {tg l : Expr} {tl : TE} (hl : PE X l tl) : PI X tg l (iTup K tl) := by subst hK; exact pi_tup hl
theorem pi_zipK {e e2 : Expr} {ta : TA} {p pos tpos : Pos} {elts : List Expr} {kk : Nat} (hg : Gl X "zip") (hm : X.mg "zip" = none) (ha : PA X [e, e2] ta) (hs : starEach [e, e2] X.env = (false, eval e X.env) :: starEach [e2] X.env := by rfl) (hpl : (backTo pos (starEach [e2] X.env)).any (·.1) = false := by rfl) :
    PI X (.Tuple elts kk tpos) (.Call (.Name "zip" p) [e, e2] [] pos) (iZipA K ta) := by subst hK; exact pi_zipA hg hm ha hs hpl
theorem pi_enumK {e : Expr} {ta : TA} {p pos tpos : Pos} {elts : List Expr} {kk : Nat} (hg : Gl X "enumerate") (hm : X.mg "enumerate" = none) (ha : PA X [e] ta) (hs : starEach [e] X.env = [(false, eval e X.env)] := by rfl) :
    PI X (.Tuple elts kk tpos) (.Call (.Name "enumerate" p) [e] [] pos) (iEnum K ta) := by subst hK; exact pi_enum hg hm ha hs
theorem pa_starK {e : Expr} {es : List Expr} {te : TE} {t : TA} {p : Pos} (he : PE X e te) (hr : PA X es t) (hs : starEach (.Starred e p :: es) X.env = (true, eval e X.env) :: starEach es X.env := by rfl) : PA X (.Starred e p :: es) (StX.tStar K te t) := by
  subst hK; exact StX.pa_star he hr hs
end
/-- the built-ins that the text names are still there -/
structure Blt (mg : Str → Option Value) : Prop where
  isinstance : mg "isinstance" = none
  int : mg "int" = none
  bool : mg "bool" = none
  str : mg "str" = none
  tuple : mg "tuple" = none
  list : mg "list" = none
  dict : mg "dict" = none
  len : mg "len" = none
  all : mg "all" = none
  any : mg "any" = none
  zip : mg "zip" = none
  range : mg "range" = none
  sorted : mg "sorted" = none
  min : mg "min" = none
  max : mg "max" = none
  sum : mg "sum" = none
  abs : mg "abs" = none
  enumerate : mg "enumerate" = none
/-- the module's constants -/
structure Glb (mg : Str → Option Value) : Prop where
  MOST_FIELDS : ∃ t, mg "MOST_FIELDS" = some (.int 60 t)
  MOST_HEIGHT : ∃ t, mg "MOST_HEIGHT" = some (.int 1000000 t)
  COLORS : ∃ t, mg "COLORS" = some (.int 3 t)
  MOST_BREADTH_counts : ∃ t, mg "MOST_BREADTH_counts" = some (.int 10 t)
  MOST_BREADTH_tells : ∃ t, mg "MOST_BREADTH_tells" = some (.int 8 t)
theorem pe_gi {X : Cx} {x : Str} {i : Int} {pos : Pos} (hm : ∃ t, X.mg x = some (.int i t)) (hg : Gl X x := by rfl) (hd : (x == ("__debug__" : Str)) = false := by decide) : PE X (.Name x pos) (tC (.int i)) := by
  obtain ⟨t, h⟩ := hm
  exact pe_glob hg h ⟨t, rfl⟩ hd

section
variable {K : PySem.W.Frag} {σ : L2.St} {H H' : Hp} {ms : List Addr} {ta tb te tl th : TE} {t u : TT} {P : V → Hp → Prop} {v : V} {d d1 d2 : PyData} {i j : Int} {b : Bool} {ds es : List PyData}
/-- a call of a built-in of one argument -/
theorem e_cb1 {r : List V → Hp → VK → Prop} (h : ED ms ta σ H d) (hr : ∀ x H2, Ex H H2 → Rp (cut H2 ms) x d → ∀ Q : VK, (∀ v H3, Ex H2 H3 → P v H3 → Q v H3) → r [x] H2 Q) : EvP (tCB r (tCons ta tNil)) σ H P := fun H1 e Q q =>
  h H1 e _ fun x H2 e2 rx => hr x H2 (e.trans e2) rx Q fun v H3 e3 p => q v H3 (e2.trans e3) p
theorem e_cb2 {r : List V → Hp → VK → Prop} (ha : ED ms ta σ H d1) (hb : ED ms tb σ H d2) (hr : ∀ x y H2, Ex H H2 → Rp (cut H2 ms) x d1 → Rp (cut H2 ms) y d2 → ∀ Q : VK, (∀ v H3, Ex H2 H3 → P v H3 → Q v H3) → r [x, y] H2 Q) : EvP (tCB r (tCons ta (tCons tb tNil))) σ H P := fun H1 e Q q =>
  ha H1 e _ fun x H2 e2 rx => hb H2 (e.trans e2) _ fun y H3 e3 ry => hr x y H3 ((e.trans e2).trans e3) (rp_keep e3 rx) ry Q fun v H4 e4 p => q v H4 ((e2.trans e3).trans e4) p
theorem ex_upd {p : Addr} {o : HO} (h : H p = none) : Ex H (upd H p o) := Ex.new h
/-! ### isinstance -/
inductive TyD : PyData → String → Prop
  | non : TyD .none "NoneType" | bl (b : Bool) : TyD (.bool b) "bool" | int (i : Int) : TyD (.int i) "int" | lst (xs : List PyData) : TyD (.list xs) "list" | tup (xs : List PyData) : TyD (.tuple xs) "tuple"
theorem TyD.tyX {x : V} {T : String} (h : TyD d T) (r : Rp H x d) : TyX K H x (.type T) := by
  cases h with
  | non => cases r.non_of; exact .base .non
  | bl b => cases r.bl_of; exact .base (.bl _)
  | int i => cases r.int_of; exact .base (.int _)
  | lst xs => obtain ⟨a, ys, rfl, h, _⟩ := r.lst_of; exact .base (.lst h)
  | tup xs => obtain ⟨a, ys, rfl, h, _⟩ := r.tup_of; exact .base (.tup h)
theorem e_isi {T C : String} (h : ED ms ta σ H d) (ht : TyD d T) (hk : kitB T C = some b) : ED ms (tCB (rIsi K) (tCons ta (tCons (tC (.ty C)) tNil))) σ H (.bool b) := fun H1 e Q q =>
  h H1 e _ fun x H2 e2 rx => ⟨x, .ty C, .type T, .type C, b, rfl, .ty C, ht.tyX (rx.mono cut_le), kit_ty hk, q _ H2 e2 (.bl b)⟩
theorem e_isiT {T C1 C2 : String} {b1 b2 : Bool} (h : ED ms ta σ H d) (ht : TyD d T) (hk1 : kitB T C1 = some b1) (hk2 : kitB T C2 = some b2) : ED ms (tCB (rIsiT K) (tCons ta (tCons (tTup (tCons (tC (.ty C1)) (tCons (tC (.ty C2)) tNil))) tNil))) σ H (.bool (b1 || b2)) := fun H1 e Q q =>
  h H1 e _ fun x H2 e2 rx => ⟨sz (by show 2 ≤ 100000; decide), fun p hp => ⟨x, p, [.ty C1, .ty C2], .type T, [.type C1, .type C2], b1 || b2, rfl, upd_same, .cons (.ty _) (.cons (.ty _) .nil), ht.tyX ((rx.mono cut_le).mono (Ex.new hp)),
    kitAny_cons (kit_ty hk1) (fun e1 => kitAny_cons (kit_ty hk2) (fun e2 => by rw [e1, e2]; exact kitAny_nil) fun e2 => by rw [e1, e2]; rfl) (fun e1 => by rw [e1]; rfl), q _ _ (e2.trans (Ex.new hp)) (.bl _)⟩⟩
/-! ### len, sums, extremes -/
theorem e_lenL (h : ED ms ta σ H (.list ds)) : ED ms (tCB (fun xs H Q => ∃ p ys, xs = [.ref p] ∧ (SqL K H p ys ∨ SqT K H p ys) ∧ Q (.int ys.length) H) (tCons ta tNil)) σ H (.int ds.length) := e_cb1 h fun x H2 _ r Q q => by
  obtain ⟨a, xs, rfl, ha, ra⟩ := r.lst_of
  exact ⟨a, xs, rfl, .inl (SqL.of (cut_some ha).2), q _ H2 (Ex.refl _) (by rw [ra.len]; exact .int _)⟩
theorem e_lenT (h : ED ms ta σ H (.tuple ds)) : ED ms (tCB (fun xs H Q => ∃ p ys, xs = [.ref p] ∧ (SqL K H p ys ∨ SqT K H p ys) ∧ Q (.int ys.length) H) (tCons ta tNil)) σ H (.int ds.length) := e_cb1 h fun x H2 _ r Q q => by
  obtain ⟨a, xs, rfl, ha, ra⟩ := r.tup_of
  exact ⟨a, xs, rfl, .inr (SqT.of (cut_some ha).2), q _ H2 (Ex.refl _) (by rw [ra.len]; exact .int _)⟩
/-- len of a list that is being changed -/
theorem e_lenM {p : Addr} {xs : List V} (ha : EvP ta σ H fun w _ => w = .ref p) (hp : H p = some (.lst xs)) : ED ms (tCB (fun xs H Q => ∃ p ys, xs = [.ref p] ∧ (SqL K H p ys ∨ SqT K H p ys) ∧ Q (.int ys.length) H) (tCons ta tNil)) σ H (.int xs.length) := fun H1 e Q q =>
  ha H1 e _ fun x H2 e2 rx => by
    subst rx
    exact ⟨p, xs, rfl, .inl (SqL.of (e2 p _ (e p _ hp))), q _ H2 e2 (.int _)⟩
theorem e_sum {ns : List Int} (h : ED ms ta σ H (.list (ns.map PyData.int))) : ED ms (tCB (rSum K) (tCons ta tNil)) σ H (.int ns.sum) := e_cb1 h fun x H2 _ r Q q => by
  obtain ⟨a, xs, rfl, ha, ra⟩ := r.lst_of
  rw [ra.ints_of] at ha
  exact ⟨a, ns, rfl, SqL.of (cut_some ha).2, q _ H2 (Ex.refl _) (.int _)⟩
theorem e_min {ns : List Int} {m : Int} (h : ED ms ta σ H (.list (ns.map PyData.int))) (hm : m ∈ ns) (hl : ∀ y ∈ ns, m ≤ y) : ED ms (tCB (rMin K) (tCons ta tNil)) σ H (.int m) := e_cb1 h fun x H2 _ r Q q => by
  obtain ⟨a, xs, rfl, ha, ra⟩ := r.lst_of
  rw [ra.ints_of] at ha
  refine ⟨a, ns, rfl, SqL.of (cut_some ha).2, List.length_pos_of_mem hm, fun k hk hkl => ?_⟩
  have : k = m := Int.le_antisymm (hkl m hm) (hl k hk)
  subst this
  exact q _ H2 (Ex.refl _) (.int _)
theorem e_all {bs : List Bool} (h : ED ms ta σ H (.list (bs.map PyData.bool))) : ED ms (tCB (rAll K) (tCons ta tNil)) σ H (.bool (bs.all id)) := e_cb1 h fun x H2 _ r Q q => by
  obtain ⟨a, xs, rfl, ha, ra⟩ := r.lst_of
  rw [ra.bls_of] at ha
  exact ⟨a, bs, rfl, SqL.of (cut_some ha).2, q _ H2 (Ex.refl _) (.bl _)⟩
theorem e_any {bs : List Bool} (h : ED ms ta σ H (.list (bs.map PyData.bool))) : ED ms (tCB (rAny K) (tCons ta tNil)) σ H (.bool (bs.any id)) := e_cb1 h fun x H2 _ r Q q => by
  obtain ⟨a, xs, rfl, ha, ra⟩ := r.lst_of
  rw [ra.bls_of] at ha
  exact ⟨a, bs, rfl, SqL.of (cut_some ha).2, q _ H2 (Ex.refl _) (.bl _)⟩
/-- all([..]) over data that are told apart by a test -/
theorem e_allD {α : Type} {xs : List α} {f : α → Bool} (h : ED ms ta σ H (.list (xs.map fun x => PyData.bool (f x)))) : ED ms (tCB (rAll K) (tCons ta tNil)) σ H (.bool (xs.all f)) := by
  have e : xs.map (fun x => PyData.bool (f x)) = (xs.map f).map PyData.bool := by rw [List.map_map]; rfl
  rw [e] at h
  have := e_all (K := K) h
  rw [List.all_map] at this
  exact this
theorem e_anyD {α : Type} {xs : List α} {f : α → Bool} (h : ED ms ta σ H (.list (xs.map fun x => PyData.bool (f x)))) : ED ms (tCB (rAny K) (tCons ta tNil)) σ H (.bool (xs.any f)) := by
  have e : xs.map (fun x => PyData.bool (f x)) = (xs.map f).map PyData.bool := by rw [List.map_map]; rfl
  rw [e] at h
  have := e_any (K := K) h
  rw [List.any_map] at this
  exact this
theorem e_abs (h : ED ms ta σ H (.int i)) : ED ms (tCB (fun xs H Q => ∃ i, xs = [.int i] ∧ Q (.int (if i < 0 then -i else i)) H) (tCons ta tNil)) σ H (.int (if i < 0 then -i else i)) := e_cb1 h fun x H2 _ r Q q => by
  cases r.int_of
  exact ⟨i, rfl, q _ H2 (Ex.refl _) (.int _)⟩
theorem e_max2 (ha : ED ms ta σ H (.int i)) (hb : ED ms tb σ H (.int j)) : ED ms (tCB (fun xs H Q => ∃ i j, xs = [.int i, .int j] ∧ Q (.int (if j > i then j else i)) H) (tCons ta (tCons tb tNil))) σ H (.int (max i j)) := e_cb2 ha hb fun x y H2 _ r1 r2 Q q => by
  cases r1.int_of; cases r2.int_of
  refine ⟨i, j, rfl, q _ H2 (Ex.refl _) ?_⟩
  have : (if j > i then j else i) = max i j := by split <;> omega
  rw [this]; exact .int _
theorem e_min2 (ha : ED ms ta σ H (.int i)) (hb : ED ms tb σ H (.int j)) : ED ms (tCB (fun xs H Q => ∃ i j, xs = [.int i, .int j] ∧ Q (.int (if j < i then j else i)) H) (tCons ta (tCons tb tNil))) σ H (.int (min i j)) := e_cb2 ha hb fun x y H2 _ r1 r2 Q q => by
  cases r1.int_of; cases r2.int_of
  refine ⟨i, j, rfl, q _ H2 (Ex.refl _) ?_⟩
  have : (if j < i then j else i) = min i j := by split <;> omega
  rw [this]; exact .int _
theorem e_intI (h : ED ms ta σ H (.int i)) : ED ms (tCB (fun xs H Q => (∃ i, xs = [.int i] ∧ Q (.int i) H) ∨ ∃ k, xs = [.bl k] ∧ Q (.int (if k then 1 else 0)) H) (tCons ta tNil)) σ H (.int i) := e_cb1 h fun x H2 _ r Q q => by
  cases r.int_of
  exact .inl ⟨i, rfl, q _ H2 (Ex.refl _) (.int _)⟩
/-! ### tuple, list, sorted -/
theorem e_tupleL (h : ED ms ta σ H (.list ds)) (L : Live H ms) : ED ms (tCB (fun xs H Q => ∃ p ys, xs = [.ref p] ∧ ((SqL K H p ys ∧ ∀ l, H l = none → Q (.ref l) (upd H l (.tup ys))) ∨ (SqT K H p ys ∧ Q (.ref p) H))) (tCons ta tNil)) σ H (.tuple ds) := e_cb1 h fun x H2 e2 r Q q => by
  obtain ⟨a, xs, rfl, ha, ra⟩ := r.lst_of
  exact ⟨a, xs, rfl, .inl ⟨SqL.of (cut_some ha).2, fun l hl => q _ _ (Ex.new hl) (rp_new hl (L.mono e2) ra)⟩⟩
theorem e_listL (h : ED ms ta σ H (.list ds)) (L : Live H ms) : ED ms (tCB (fun xs H Q => ∃ p ys, xs = [.ref p] ∧ (SqL K H p ys ∨ SqT K H p ys) ∧ ∀ l, H l = none → Q (.ref l) (upd H l (.lst ys))) (tCons ta tNil)) σ H (.list ds) := e_cb1 h fun x H2 e2 r Q q => by
  obtain ⟨a, xs, rfl, ha, ra⟩ := r.lst_of
  exact ⟨a, xs, rfl, .inl (SqL.of (cut_some ha).2), fun l hl => q _ _ (Ex.new hl) (rl_new hl (L.mono e2) ra)⟩
/-- .. to be changed -/
theorem n_listL (h : ED ms ta σ H (.list ds)) : EvP (tCB (fun xs H Q => ∃ p ys, xs = [.ref p] ∧ (SqL K H p ys ∨ SqT K H p ys) ∧ ∀ l, H l = none → Q (.ref l) (upd H l (.lst ys))) (tCons ta tNil)) σ H
    fun v H2 => ∃ p xs, v = .ref p ∧ H p = none ∧ H2 p = some (.lst xs) ∧ RpAll (cut H2 (p :: ms)) xs ds := e_cb1 h fun x H2 e2 r Q q => by
  obtain ⟨a, xs, rfl, ha, ra⟩ := r.lst_of
  exact ⟨a, xs, rfl, .inl (SqL.of (cut_some ha).2), fun l hl => q _ _ (Ex.new hl) ⟨l, xs, rfl, fresh_back e2 hl, upd_same, ra.mono (cut_new hl)⟩⟩
/-- the ints in order -/
def srt (ns : List Int) : List Int := ns.mergeSort fun a b => decide (a ≤ b)
theorem srt_perm (ns : List Int) : (srt ns).Perm ns := List.mergeSort_perm _ _
theorem srt_le (ns : List Int) : (srt ns).Pairwise (· ≤ ·) := by
  have := List.pairwise_mergeSort (le := fun (a b : Int) => decide (a ≤ b)) (fun a b c h1 h2 => by simp at *; omega) (fun a b => by simp; omega) ns
  exact this.imp fun h => by simpa using h
theorem srt_uniq {ns ms : List Int} (h : ms.Perm ns) (hs : ms.Pairwise (· ≤ ·)) : ms = srt ns :=
  List.Perm.eq_of_pairwise (fun a b _ _ h1 h2 => Int.le_antisymm h1 h2) hs (srt_le ns) (h.trans (srt_perm ns).symm)
theorem e_sortedI {ns : List Int} (h : ED ms ta σ H (.list (ns.map PyData.int))) (L : Live H ms) : ED ms (tCB (rSortedI K) (tCons ta tNil)) σ H (.list ((srt ns).map PyData.int)) := e_cb1 h fun x H2 e2 r Q q => by
  obtain ⟨a, xs, rfl, ha, ra⟩ := r.lst_of
  rw [ra.ints_of] at ha
  refine ⟨a, ns, rfl, SqL.of (cut_some ha).2, fun ns' p hp hs new => ?_⟩
  rw [srt_uniq hp hs]
  exact q _ _ (Ex.new new) (rl_new new (L.mono e2) (RpAll.ints _))
/-! ### +, *, slices -/
theorem e_cat (ha : ED ms ta σ H (.list ds)) (hb : ED ms tb σ H (.list es)) (hz : ds.length + es.length ≤ 100000) (L : Live H ms) : ED ms (tOp rCat ta tb) σ H (.list (ds ++ es)) := e_opD ha hb fun x y H2 e2 r1 r2 Q q => by
  obtain ⟨a, xs, rfl, h1, ra⟩ := r1.lst_of
  obtain ⟨b, ys, rfl, h2, rb⟩ := r2.lst_of
  exact ⟨a, b, xs, ys, rfl, rfl, (cut_some h1).2, (cut_some h2).2, sz (by rw [ra.len, rb.len]; exact hz), fun p hp => q _ _ (Ex.new hp) (rl_new hp (L.mono e2) (ra.app rb))⟩
theorem n_rep (ha : ED ms ta σ H (.list ds)) (hb : ED ms tb σ H (.int j)) (hj : 0 ≤ j ∧ j ≤ 1000) (hz : ds.length ≤ 10) : EvP (tOp rRep ta tb) σ H fun v H2 => ∃ p xs, v = .ref p ∧ H p = none ∧ H2 p = some (.lst xs) ∧ RpAll (cut H2 (p :: ms)) xs (List.replicate j.toNat ds).flatten := e_opD ha hb fun x y H2 e2 r1 r2 Q q => by
  obtain ⟨a, xs, rfl, h1, ra⟩ := r1.lst_of
  cases r2.int_of
  refine ⟨a, j, xs, rfl, rfl, (cut_some h1).2, by omega, by omega, sz ?_, fun p hp => q _ _ (Ex.new hp) ⟨p, _, rfl, fresh_back e2 hp, upd_same, ?_⟩⟩
  · rw [ra.len]
    have h2 : j.toNat ≤ 1000 := by omega
    exact Nat.le_trans (Nat.mul_le_mul hz h2) (by decide)
  · have : ∀ k : Nat, RpAll (cut (upd H2 p (.lst (List.replicate j.toNat xs).flatten)) (p :: ms)) (List.replicate k xs).flatten (List.replicate k ds).flatten := fun k => by
      induction k with
      | zero => exact .nil
      | succ k ih => rw [List.replicate_succ, List.replicate_succ, List.flatten_cons, List.flatten_cons]; exact (ra.mono (cut_new hp)).app ih
    exact this _
theorem e_catA (ha : ED ms ta σ H (.tuple ds)) (hb : ED ms tb σ H (.tuple es)) (hz : ds.length + es.length ≤ 100000) (L : Live H ms) : ED ms (tOp (rCatA K) ta tb) σ H (.tuple (ds ++ es)) := e_opD ha hb fun x y H2 e2 r1 r2 Q q => by
  obtain ⟨a, xs, rfl, h1, ra⟩ := r1.tup_of
  obtain ⟨b, ys, rfl, h2, rb⟩ := r2.tup_of
  refine ⟨a, b, xs, ys, rfl, rfl, SqT.of (cut_some h1).2, SqT.of (cut_some h2).2, sz (by rw [ra.len, rb.len]; exact hz), fun hx => ?_, fun _ hy => ?_, fun _ _ p hp => q _ _ (Ex.new hp) (rp_new hp (L.mono e2) (ra.app rb))⟩
  · subst hx
    cases ra
    exact q _ _ (Ex.refl _) r2
  · subst hy
    cases rb
    exact q _ _ (Ex.refl _) (by rw [List.append_nil]; exact r1)
theorem eo_none : EO tNoPart σ H none := fun H1 e Q q => q H1 (Ex.refl _)
theorem eo_some (h : ED ms te σ H (.int i)) : EO (tPart te) σ H (some i) := fun H1 e Q q => h H1 e _ fun v H2 e2 r => ⟨i, r.int_of, q H2 e2⟩
/-- the part of a list between two places -/
def cutD (ds : List PyData) (lo hi : Option Int) : List PyData := (ds.drop (HT.sIx ds.length 0 lo)).take (HT.sIx ds.length ds.length hi - HT.sIx ds.length 0 lo)
theorem RpAll.cutD {xs : List V} {lo hi : Option Int} (h : RpAll H xs ds) : RpAll H (cutV xs lo hi) (G.cutD ds lo hi) := by
  unfold cutV G.cutD
  rw [h.len]
  exact (h.drop _).take _
theorem e_slT {to tp : TO} {lo hi : Option Int} (h : ED ms te σ H (.tuple ds)) (h1 : EO to σ H lo) (h2 : EO tp σ H hi) (L : Live H ms) : ED ms (tSl (rSlA K) te to tp) σ H (.tuple (cutD ds lo hi)) := fun H1 e Q q =>
  h H1 e _ fun x H2 e2 r => h1 H2 (e.trans e2) _ fun H3 e3 => h2 H3 ((e.trans e2).trans e3) _ fun H4 e4 => by
    obtain ⟨a, xs, rfl, ha, ra⟩ := r.tup_of
    have e24 : Ex H2 H4 := e3.trans e4
    refine ⟨a, xs, rfl, SqT.of (e24 a _ (cut_some ha).2), fun hw => q _ _ (e2.trans e24) ?_, fun _ p hp => q _ _ ((e2.trans e24).trans (Ex.new hp)) (rp_new hp (L.mono ((e.trans e2).trans e24)) (ra.mono (ex_cut e24)).cutD)⟩
    have : cutD ds lo hi = ds := by
      unfold cutD
      rw [ra.len] at hw
      rw [hw.1, hw.2, List.drop_zero, Nat.sub_zero]
      exact List.take_length
    rw [this]
    exact rp_keep e24 r
theorem e_slL {to tp : TO} {lo hi : Option Int} (h : ED ms te σ H (.list ds)) (h1 : EO to σ H lo) (h2 : EO tp σ H hi) (L : Live H ms) : ED ms (tSl (rSlL K) te to tp) σ H (.list (cutD ds lo hi)) := fun H1 e Q q =>
  h H1 e _ fun x H2 e2 r => h1 H2 (e.trans e2) _ fun H3 e3 => h2 H3 ((e.trans e2).trans e3) _ fun H4 e4 => by
    obtain ⟨a, xs, rfl, ha, ra⟩ := r.lst_of
    have e24 : Ex H2 H4 := e3.trans e4
    exact ⟨a, xs, rfl, SqL.of (e24 a _ (cut_some ha).2), fun p hp => q _ _ ((e2.trans e24).trans (Ex.new hp)) (rl_new hp (L.mono ((e.trans e2).trans e24)) (ra.mono (ex_cut e24)).cutD)⟩
theorem cutD_from {k : Nat} : cutD ds (some (k : Int)) none = ds.drop k := by
  unfold cutD
  rw [HT.sIx_nat, HT.sIx_none]
  by_cases h : k ≤ ds.length
  · rw [Nat.min_eq_left h]; exact List.take_of_length_le (by rw [List.length_drop]; omega)
  · rw [Nat.min_eq_right (by omega), Nat.sub_self, List.take_zero, List.drop_eq_nil_of_le (by omega)]
theorem cutD_to {k : Nat} : cutD ds none (some (k : Int)) = ds.take k := by
  unfold cutD
  rw [HT.sIx_nat, HT.sIx_none, List.drop_zero, Nat.sub_zero]
  by_cases h : k ≤ ds.length
  · rw [Nat.min_eq_left h]
  · rw [Nat.min_eq_right (by omega), List.take_length, List.take_of_length_le (by omega)]
/-! ### in -/
theorem e_inD (ha : ED ms ta σ H d) (hb : ED ms tb σ H (.list ds)) (s1 : SeqAt.shaped d = true) (s2 : SeqAt.shaped (.list ds) = true) : ED ms (tOp (rInD K) ta tb) σ H (.bool (ds.any fun z => PyData.eqv z d)) := e_opD ha hb fun x y H2 _ rx ry Q q =>
  ⟨d, ds, (rx.mono cut_le).dp, (ry.mono cut_le).dp, s1, s2, q _ H2 (Ex.refl H2) (.bl _)⟩
theorem e_notInD (ha : ED ms ta σ H d) (hb : ED ms tb σ H (.list ds)) (s1 : SeqAt.shaped d = true) (s2 : SeqAt.shaped (.list ds) = true) : ED ms (tOp (rNotInD K) ta tb) σ H (.bool (!ds.any fun z => PyData.eqv z d)) := e_opD ha hb fun x y H2 _ rx ry Q q =>
  ⟨d, ds, (rx.mono cut_le).dp, (ry.mono cut_le).dp, s1, s2, q _ H2 (Ex.refl H2) (.bl _)⟩
theorem inV_ints {ns : List Int} : inV (.int i) (ns.map V.int) = decide (i ∈ ns) := by
  induction ns with
  | nil => rfl
  | cons a r ih =>
    have e : inV (.int i) ((a :: r).map V.int) = (eqV (.int a) (.int i) || inV (.int i) (r.map V.int)) := rfl
    rw [e, ih]
    have e2 : eqV (.int a) (.int i) = decide (a = i) := rfl
    rw [e2]
    by_cases h : a = i
    · subst h; simp
    · have : ¬ i = a := fun z => h z.symm
      simp [h, this]
theorem flat_ints {ns : List Int} : (ns.map V.int).all flatV = true := by simp [List.all_map, flatV]
theorem e_inI {ns : List Int} (ha : ED ms ta σ H (.int i)) (hb : ED ms tb σ H (.list (ns.map PyData.int))) : ED ms (tOp (rIn K false) ta tb) σ H (.bool (decide (i ∈ ns))) := e_opD ha hb fun x y H2 _ rx ry Q q => by
  cases rx.int_of
  obtain ⟨a, xs, rfl, h1, ra⟩ := ry.lst_of
  rw [ra.ints_of] at h1
  refine ⟨a, _, rfl, .inl (SqL.of (cut_some h1).2), rfl, flat_ints, q _ H2 (Ex.refl H2) ?_⟩
  rw [if_neg (by decide), inV_ints]; exact .bl _
theorem e_notInI {ns : List Int} (ha : ED ms ta σ H (.int i)) (hb : ED ms tb σ H (.list (ns.map PyData.int))) : ED ms (tOp (rIn K true) ta tb) σ H (.bool (!decide (i ∈ ns))) := e_opD ha hb fun x y H2 _ rx ry Q q => by
  cases rx.int_of
  obtain ⟨a, xs, rfl, h1, ra⟩ := ry.lst_of
  rw [ra.ints_of] at h1
  refine ⟨a, _, rfl, .inl (SqL.of (cut_some h1).2), rfl, flat_ints, q _ H2 (Ex.refl H2) ?_⟩
  rw [if_pos rfl, inV_ints]; exact .bl _
theorem inV_non : ∀ ns : List Int, inV .non (ns.map V.int) = false
  | [] => rfl
  | a :: r => by
    have e : inV .non ((a :: r).map V.int) = (eqV (.int a) .non || inV .non (r.map V.int)) := rfl
    rw [e, inV_non r]; rfl
/-- None in a list of ints -/
theorem e_noneIn {ns : List Int} (hb : ED ms tb σ H (.list (ns.map PyData.int))) : ED ms (tOp (rIn K false) (tC .non) tb) σ H (.bool false) := e_opD e_non hb fun x y H2 _ rx ry Q q => by
  cases rx.non_of
  obtain ⟨a, xs, rfl, h1, ra⟩ := ry.lst_of
  rw [ra.ints_of] at h1
  refine ⟨a, _, rfl, .inl (SqL.of (cut_some h1).2), rfl, flat_ints, q _ H2 (Ex.refl H2) ?_⟩
  have := inV_non ns
  rw [if_neg (by decide), this]; exact .bl _
/-- < of tuples of ints -/
theorem e_ltT {ns ks : List Int} (ha : ED ms ta σ H (.tuple (ns.map PyData.int))) (hb : ED ms tb σ H (.tuple (ks.map PyData.int))) : ED ms (tOp (rLtT K) ta tb) σ H (.bool (HT.lexLt ns ks)) := e_opD ha hb fun x y H2 _ rx ry Q q => by
  obtain ⟨a, xs, rfl, h1, ra⟩ := rx.tup_of
  obtain ⟨b, ys, rfl, h2, rb⟩ := ry.tup_of
  rw [ra.ints_of] at h1
  rw [rb.ints_of] at h2
  exact ⟨a, b, ns, ks, rfl, rfl, SqT.of (cut_some h1).2, SqT.of (cut_some h2).2, q _ H2 (Ex.refl H2) (.bl _)⟩
end
theorem RpAll.one {H : Hp} {vs : List V} {a : PyData} (r : RpAll H vs [a]) : ∃ v, vs = [v] ∧ Rp H v a := by
  cases r with | cons r1 r => (cases r; exact ⟨_, rfl, r1⟩)
theorem RpAll.two {H : Hp} {vs : List V} {a b : PyData} (r : RpAll H vs [a, b]) : ∃ v u, vs = [v, u] ∧ Rp H v a ∧ Rp H u b := by
  cases r with | cons r1 r => (obtain ⟨u, rfl, r2⟩ := r.one; exact ⟨_, u, rfl, r1, r2⟩)
theorem RpAll.three {H : Hp} {vs : List V} {a b c : PyData} (r : RpAll H vs [a, b, c]) : ∃ v u x, vs = [v, u, x] ∧ Rp H v a ∧ Rp H u b ∧ Rp H x c := by
  cases r with | cons r1 r => (obtain ⟨u, x, rfl, r2⟩ := r.two; exact ⟨_, u, x, rfl, r1, r2⟩)
theorem RpAll.five {H : Hp} {vs : List V} {a b c d e : PyData} (r : RpAll H vs [a, b, c, d, e]) : ∃ v u x y z, vs = [v, u, x, y, z] ∧ Rp H v a ∧ Rp H u b ∧ Rp H x c ∧ Rp H y d ∧ Rp H z e := by
  cases r with | cons r1 r => (cases r with | cons r2 r => (obtain ⟨x, y, z, rfl, r3⟩ := r.three; exact ⟨_, _, x, y, z, rfl, r1, r2, r3⟩))
mutual
def plainD : PyData → Bool
  | .int _ => true
  | .none => true
  | .list xs => plainAll xs
  | .tuple xs => plainAll xs
  | _ => false
def plainAll : List PyData → Bool
  | [] => true
  | d :: ds => plainD d && plainAll ds
end
end G
theorem L2.Room.units65 {k : Nat} {A : PySem.Around} (r : L2.Room (k + 1) A) : A.units + 65 < PySem.cLine := by have := r.un; omega

set_option linter.all false
/-! M1: webs as plain data. -/
namespace M
open PySem G
structure Web where
  n : Nat
  E : List (Nat × Nat)
def Web.adj (W : Web) (u v : Nat) : Bool := decide ((u, v) ∈ W.E ∨ (v, u) ∈ W.E)
def Web.nb (W : Web) (u : Nat) : List Nat := (List.range W.n).filter (W.adj u)
/-- the hedges join fields, each once -/
structure Web.Pre (W : Web) : Prop where
  pos : 1 ≤ W.n
  few : W.n ≤ 6
  bnd : ∀ p ∈ W.E, p.1 < p.2 ∧ p.2 < W.n
  nd : W.E.Nodup
/-- pairs of fields in order -/
def lexP (p q : Nat × Nat) : Prop := p.1 < q.1 ∨ (p.1 = q.1 ∧ p.2 < q.2)
structure IsD (W : Web) (s : Nat) (d : Nat → Nat) : Prop where
  s0 : d s = 0
  lip : ∀ u v, W.adj u v = true → d v ≤ d u + 1
  back : ∀ v, v < W.n → v ≠ s → ∃ u, W.adj v u = true ∧ d u + 1 = d v
/-- a web: in one piece, without odd rounds, its hedges in order -/
structure Web.Ok (W : Web) : Prop where
  pre : W.Pre
  srt : W.E.Pairwise lexP
  ex : ∃ d, IsD W 0 d ∧ ∀ p ∈ W.E, (d p.1 + d p.2) % 2 = 1
/-! ### as data -/
def nI (l : List Nat) : List Int := l.map fun (k : Nat) => (k : Int)
abbrev dN (k : Nat) : PyData := .int (k : Int)
abbrev dNs (l : List Nat) : PyData := .list ((nI l).map PyData.int)
abbrev dP (p : Nat × Nat) : PyData := .tuple [dN p.1, dN p.2]
abbrev dW (W : Web) : PyData := .tuple [dN W.n, .tuple (W.E.map dP)]
abbrev dC (c : List Int) : PyData := .tuple (c.map PyData.int)
abbrev dIs (c : List Int) : PyData := .list (c.map PyData.int)
def Web.nears (W : Web) : List (List Nat) := (List.range W.n).map W.nb
abbrev dNears (W : Web) : PyData := .list (W.nears.map dNs)
theorem nI_get {l : List Nat} {k : Nat} : (nI l)[k]? = l[k]?.map fun (k : Nat) => (k : Int) := by unfold nI; rw [List.getElem?_map]
theorem nI_mem {l : List Nat} {i : Int} (h : i ∈ nI l) : ∃ k : Nat, k ∈ l ∧ i = (k : Int) := by
  obtain ⟨k, hk, e⟩ := List.mem_map.mp h
  exact ⟨k, hk, e.symm⟩
theorem adj_sym {W : Web} {u v : Nat} : W.adj u v = W.adj v u := by unfold Web.adj; congr 1; exact propext or_comm
theorem adj_lt {W : Web} (h : W.Pre) {u v : Nat} (a : W.adj u v = true) : u < W.n ∧ v < W.n ∧ u ≠ v := by
  rcases of_decide_eq_true a with a | a
  · have := h.bnd _ a; simp at this; omega
  · have := h.bnd _ a; simp at this; omega
theorem mem_nb {W : Web} (h : W.Pre) {u v : Nat} : v ∈ W.nb u ↔ W.adj u v = true := by
  unfold Web.nb
  rw [List.mem_filter, List.mem_range]
  exact ⟨fun a => a.2, fun a => ⟨(adj_lt h a).2.1, a⟩⟩
theorem nb_lt {W : Web} (u : Nat) : (W.nb u).Pairwise (· < ·) := List.Pairwise.filter _ List.pairwise_lt_range
theorem nears_get {W : Web} {u : Nat} (h : u < W.n) : W.nears[u]? = some (W.nb u) := by
  unfold Web.nears
  rw [List.getElem?_map, List.getElem?_range h]; rfl
theorem nears_len {W : Web} : W.nears.length = W.n := by unfold Web.nears; simp
theorem hedges_few {W : Web} (h : W.Pre) : W.E.length ≤ 36 := by
  have hs : W.E ⊆ (List.range 6).flatMap (fun a => (List.range 6).map fun b => (a, b)) := fun p hp => by
    have := h.bnd p hp
    have := h.few
    exact List.mem_flatMap.mpr ⟨p.1, List.mem_range.mpr (by omega), List.mem_map.mpr ⟨p.2, List.mem_range.mpr (by omega), rfl⟩⟩
  have := h.nd.length_le_of_subset hs
  exact Nat.le_trans this (by decide)
end M

set_option Elab.async false
set_option linter.all false
set_option maxRecDepth 100000
set_option maxHeartbeats 4000000
/-! GE: a list of lists that are being filled. -/
namespace G
open PySem L2 RZ M
open Evl (Ex EvT et_or et_not et_and)
/-- at p a list of the lists at ps, the k-th holds the ints F k -/
structure Grid (H : Hp) (p : Addr) (ps : List Addr) (n : Nat) (F : Nat → List Int) : Prop where
  lst : H p = some (.lst (ps.map V.ref))
  len : ps.length = n
  nd : (p :: ps).Nodup
  row : ∀ k q, ps[k]? = some q → H q = some (.lst ((F k).map V.int))
section
variable {K : PySem.W.Frag} {σ : L2.St} {H H' : Hp} {ms : List Addr} {ta tb te tl th : TE} {t u : TT} {P : V → Hp → Prop} {v : V} {d d1 d2 : PyData} {i j : Int} {b : Bool} {ds es : List PyData}
theorem Grid.mono {p : Addr} {ps : List Addr} {n : Nat} {F : Nat → List Int} (g : Grid H p ps n F) (e : Ex H H') : Grid H' p ps n F := ⟨e _ _ g.lst, g.len, g.nd, fun k q h => e _ _ (g.row k q h)⟩
theorem Grid.congr {p : Addr} {ps : List Addr} {n : Nat} {F F' : Nat → List Int} (g : Grid H p ps n F) (e : ∀ k, k < n → F k = F' k) : Grid H p ps n F' := ⟨g.lst, g.len, g.nd, fun k q h => by
  have : k < n := by have := (List.getElem?_eq_some_iff.mp h).1; rw [g.len] at this; exact this
  rw [← e k this]; exact g.row k q h⟩
theorem Grid.app {p : Addr} {ps : List Addr} {n a : Nat} {F : Nat → List Int} {x : Int} (g : Grid H p ps n F) (ha : a < n) : ∃ q, ps[a]? = some q ∧ q ∈ ps ∧ H q = some (.lst ((F a).map V.int)) ∧ ∀ H1, Ex H H1 → Grid (upd H1 q (.lst ((F a).map V.int ++ [.int x]))) p ps n fun k => if k = a then F a ++ [x] else F k := by
  have hl : a < ps.length := by rw [g.len]; exact ha
  have hq : ps[a]? = some ps[a] := List.getElem?_eq_getElem hl
  refine ⟨ps[a], hq, List.getElem_mem hl, g.row a _ hq, fun H1 e => ⟨?_, g.len, g.nd, fun k q h => ?_⟩⟩
  · rw [upd_ne]
    · exact e _ _ g.lst
    · exact fun z => (List.nodup_cons.mp g.nd).1 (z ▸ List.getElem_mem hl)
  · by_cases hk : k = a
    · subst hk
      rw [hq] at h
      cases h
      rw [upd_same, if_pos rfl, List.map_append]; rfl
    · rw [if_neg hk, upd_ne]
      · exact e _ _ (g.row k q h)
      · intro z
        subst z
        exact hk (nd_ix (List.nodup_cons.mp g.nd).2 h hq)
theorem Grid.rp {p : Addr} {ps : List Addr} {n : Nat} {F : Nat → List Int} (g : Grid H p ps n F) (hm : ∀ q ∈ p :: ps, q ∉ ms) : Rp (cut H ms) (.ref p) (.list ((List.range n).map fun k => dIs (F k))) := by
  refine .lst (by rw [cut_out (hm p List.mem_cons_self)]; exact g.lst) ?_
  have key : ∀ (l : List Addr) (a : Nat), (∀ k q, l[k]? = some q → ps[a + k]? = some q) → RpAll (cut H ms) (l.map V.ref) ((List.range' a l.length).map fun k => dIs (F k)) := by
    intro l
    induction l with
    | nil => exact fun _ _ => .nil
    | cons q r ih =>
      intro a h
      refine .cons ?_ (ih (a + 1) fun k q' e => ?_)
      · have h0 := h 0 q rfl
        exact .lst (by rw [cut_out (hm q (List.mem_cons_of_mem _ (List.mem_of_getElem? h0)))]; exact g.row a q h0) (RpAll.ints _)
      · have := h (k + 1) q' (by simpa using e)
        rw [show a + 1 + k = a + (k + 1) by omega]; exact this
  have := key ps 0 fun k q e => by rw [Nat.zero_add]; exact e
  rw [g.len, ← List.range_eq_range'] at this
  exact this
/-- [[] for x in range(n)] -/
theorem n_lists {ta : TA} {k : Nat} {vs : List Nat} (h : EA ms ta σ H [.int j]) (hj : 0 ≤ j ∧ j ≤ 1000) (hw : ∀ x, wipe ((wipe σ vs).set k (some x)) vs = wipe σ vs) :
    EvP (tLc (iRng1 ta) (gName k) tYes (tLst tNil) vs) σ H fun v H2 => ∃ p ps, v = .ref p ∧ Grid H2 p ps j.toNat (fun _ => []) ∧ ∀ q ∈ p :: ps, H q = none := fun H1 e Q q => h H1 e _ fun us H2 e2 r => by
  have e1 : us = [V.int j] := RpAll.ints_of (ns := [j]) r
  subst e1
  refine ⟨j, rfl, by omega, by omega, fun Dl hD => lc_range (fun i Hc => ∃ ps : List Addr, ps.length = i ∧ Hc Dl = some (.lst (ps.map V.ref)) ∧ (Dl :: ps).Nodup ∧ (∀ q ∈ ps, H2 q = none ∧ Hc q = some (.lst [])) ∧ Ex H2 Hc) ?_ ?_ ?_⟩
  · exact ⟨[], rfl, upd_same, by simp, fun _ h => (by cases h), Ex.new hD⟩
  · rintro i Hc hi ⟨ps, h1, h2, h3, h4, h5⟩
    refine ⟨hw _, Nat.zero_le _, fun q hq => ⟨ps.map V.ref, ?_, ?_, ps ++ [q], by rw [List.length_append, h1]; rfl, by rw [upd_same, List.map_append]; rfl, ?_, fun z hz => ?_, ?_⟩⟩
    · rw [upd_ne (ne_of_none h2 hq)]; exact h2
    · rw [List.length_map]; exact Evl.sz_lt (by omega)
    · rw [← List.cons_append]
      refine List.nodup_append.mpr ⟨h3, by simp, fun a ha b hb => ?_⟩
      rw [List.mem_singleton] at hb
      subst hb
      rcases List.mem_cons.mp ha with rfl | ha
      · exact ne_of_none h2 hq
      · exact ne_of_none (h4 a ha).2 hq
    · have hqD : q ≠ Dl := fun z => by rw [z, h2] at hq; cases hq
      rcases List.mem_append.mp hz with hz | hz
      · refine ⟨(h4 z hz).1, ?_⟩
        rw [upd_ne (fun y => (List.nodup_cons.mp h3).1 (by rw [← y]; exact hz)), upd_ne (ne_of_none (h4 z hz).2 hq)]
        exact (h4 z hz).2
      · rw [List.mem_singleton] at hz
        subst hz
        refine ⟨Evl.fresh_back h5 hq, ?_⟩
        rw [upd_ne hqD, upd_same]
    · exact Ex.mut (h5.trans (Ex.new hq)) hD
  · rintro Hc ⟨ps, h1, h2, h3, h4, h5⟩
    exact q _ _ (e2.trans h5) ⟨Dl, ps, rfl, ⟨h2, h1, h3, fun k z hz => (h4 z (List.mem_of_getElem? hz)).2⟩, fun z hz => by
      rcases List.mem_cons.mp hz with rfl | hz
      · exact Evl.fresh_back (e.trans e2) hD
      · exact Evl.fresh_back (e.trans e2) (h4 z hz).1⟩
/-- rows.at[i], the row's address -/
theorem e_row {p q : Addr} {ps : List Addr} {n a : Nat} {F : Nat → List Int} (ha : EvP ta σ H fun w _ => w = .ref p) (g : Grid H p ps n F) (hb : ED ms tb σ H (.int (a : Int))) (hq : ps[a]? = some q) : EvP (tOp (rIxL K) ta tb) σ H fun w _ => w = .ref q :=
  e_op2 ha (fun _ e => hb.mono e) (fun _ _ _ _ h => h) fun x y H2 e2 rx ry Q k => by
    subst rx
    cases ry.int_of
    refine ⟨p, ps.map V.ref, (a : Int), .ref q, rfl, rfl, SqL.of (e2 p _ g.lst), atI_nat ?_, k _ H2 (Ex.refl H2) rfl⟩
    rw [List.getElem?_map, hq]; rfl
end
section
variable {H H' : Hp} {ms : List Addr}
theorem Grid.live {p : Addr} {ps : List Addr} {n : Nat} {F : Nat → List Int} (g : Grid H p ps n F) : ∀ q ∈ p :: ps, ∃ o, H q = some o := fun q hq => by
  rcases List.mem_cons.mp hq with rfl | hq
  · exact ⟨_, g.lst⟩
  · obtain ⟨k, hk, rfl⟩ := List.getElem_of_mem hq
    exact ⟨_, g.row k _ (List.getElem?_eq_getElem hk)⟩
end
end G
namespace M
theorem nI_app {l m : List Nat} : nI (l ++ m) = nI l ++ nI m := List.map_append

/-- the neighbors of a field in the hedges' order -/
def ap (E : List (Nat × Nat)) (f : Nat) : List Nat := E.flatMap fun p => if p.1 = f then [p.2] else if p.2 = f then [p.1] else []
theorem ap_snoc {E : List (Nat × Nat)} {p : Nat × Nat} {f : Nat} : ap (E ++ [p]) f = ap E f ++ if p.1 = f then [p.2] else if p.2 = f then [p.1] else [] := by
  unfold ap; rw [List.flatMap_append]; simp
theorem ap_len {E : List (Nat × Nat)} {f : Nat} : (ap E f).length ≤ E.length := by
  induction E with
  | nil => exact Nat.zero_le _
  | cons p E ih =>
    show ((if p.1 = f then [p.2] else if p.2 = f then [p.1] else []) ++ ap E f).length ≤ _
    rw [List.length_append, List.length_cons]
    split
    · simp; omega
    · split <;> simp <;> omega
theorem nI_len {l : List Nat} : (nI l).length = l.length := List.length_map _
theorem ap_turn {E : List (Nat × Nat)} {i k : Nat} {q : Nat × Nat} (h : E[i]? = some q) (hb : q.1 < q.2) :
    (if k = q.2 then (if q.2 = q.1 then nI (ap (E.take i) q.1) ++ [(q.2 : Int)] else nI (ap (E.take i) q.2)) ++ [(q.1 : Int)] else if k = q.1 then nI (ap (E.take i) q.1) ++ [(q.2 : Int)] else nI (ap (E.take i) k)) = nI (ap (E.take (i + 1)) k) := by
  have tk : E.take (i + 1) = E.take i ++ [q] := by rw [List.take_add_one, h]; rfl
  rw [tk, ap_snoc]
  have e : nI (ap (E.take i) k ++ if q.1 = k then [q.2] else if q.2 = k then [q.1] else []) = nI (ap (E.take i) k) ++ nI (if q.1 = k then [q.2] else if q.2 = k then [q.1] else []) := List.map_append
  rw [e, if_neg (show ¬ q.2 = q.1 by omega)]
  by_cases h1 : k = q.2
  · subst h1
    rw [if_pos rfl, if_neg (show ¬ q.1 = q.2 by omega), if_pos rfl]; rfl
  · rw [if_neg h1]
    by_cases h2 : k = q.1
    · subst h2
      rw [if_pos rfl, if_pos rfl]; rfl
    · rw [if_neg h2, if_neg (fun z => h2 z.symm), if_neg (fun z => h1 z.symm)]
      show _ = _ ++ []
      rw [List.append_nil]
theorem mem_ap {E : List (Nat × Nat)} {f x : Nat} (h : ∀ p ∈ E, p.1 < p.2) : x ∈ ap E f ↔ (f, x) ∈ E ∨ (x, f) ∈ E := by
  unfold ap
  rw [List.mem_flatMap]
  constructor
  · rintro ⟨p, hp, hx⟩
    split at hx
    · rename_i e; cases List.mem_singleton.mp hx; subst e; exact .inl hp
    · split at hx
      · rename_i e; cases List.mem_singleton.mp hx; subst e; exact .inr hp
      · cases hx
  · rintro (hp | hp)
    · exact ⟨_, hp, by simp⟩
    · refine ⟨_, hp, ?_⟩
      have := h _ hp
      simp at this
      rw [if_neg (by simp; omega), if_pos rfl]; simp
theorem ap_nodup : ∀ {E : List (Nat × Nat)} {f : Nat}, (∀ p ∈ E, p.1 < p.2) → E.Nodup → (ap E f).Nodup
  | [], _, _, _ => by simp [ap]
  | p :: E, f, h, nd => by
    have ih := ap_nodup (E := E) (f := f) (fun q hq => h q (List.mem_cons_of_mem _ hq)) (List.nodup_cons.mp nd).2
    have hE : ∀ q ∈ E, q.1 < q.2 := fun q hq => h q (List.mem_cons_of_mem _ hq)
    have hn := (List.nodup_cons.mp nd).1
    have hp := h p List.mem_cons_self
    show ((if p.1 = f then [p.2] else if p.2 = f then [p.1] else []) ++ ap E f).Nodup
    have one : ∀ x, (x = p.2 ∧ p.1 = f) ∨ (x = p.1 ∧ p.2 = f) → x ∉ ap E f := fun x hx hm => by
      rcases (mem_ap hE).mp hm with hm | hm <;> rcases hx with ⟨rfl, rfl⟩ | ⟨rfl, rfl⟩
      · exact hn hm
      · have := hE _ hm; simp at this; omega
      · have := hE _ hm; simp at this; omega
      · exact hn hm
    split
    · rename_i e
      exact List.nodup_cons.mpr ⟨one _ (.inl ⟨rfl, e⟩), ih⟩
    · split
      · rename_i e
        exact List.nodup_cons.mpr ⟨one _ (.inr ⟨rfl, e⟩), ih⟩
      · exact ih
theorem nI_inj_perm {l m : List Nat} (h : l.Perm m) : (nI l).Perm (nI m) := h.map _
/-- sorted, they are the neighbors in order -/
theorem srt_ap {W : Web} (h : W.Pre) {f : Nat} : G.srt (nI (ap W.E f)) = nI (W.nb f) := by
  have hb : ∀ p ∈ W.E, p.1 < p.2 := fun p hp => (h.bnd p hp).1
  have hp : (W.nb f).Perm (ap W.E f) := (List.perm_ext_iff_of_nodup ((nb_lt f).imp fun h => Nat.ne_of_lt h) (ap_nodup hb h.nd)).mpr fun x => by
    rw [mem_nb h, mem_ap hb]; unfold Web.adj; exact decide_eq_true_iff
  refine (G.srt_uniq (nI_inj_perm hp) ?_).symm
  exact List.pairwise_map.mpr ((nb_lt f).imp fun h => by omega)
end M

set_option linter.all false
/-! M2: distances, and the two ways to find them. -/
namespace M
open PySem G
theorem least {p : Nat → Prop} (h : ∃ n, p n) : ∃ n, p n ∧ ∀ m, p m → n ≤ m := by
  obtain ⟨n, hn⟩ := h
  induction n using Nat.strongRecOn with
  | _ n ih =>
    by_cases q : ∃ m, m < n ∧ p m
    · obtain ⟨m, hm, pm⟩ := q
      exact ih m hm pm
    · exact ⟨n, hn, fun m pm => Nat.le_of_not_lt fun z => q ⟨m, z, pm⟩⟩
inductive Wk (W : Web) (s : Nat) : Nat → Nat → Prop
  | zero : Wk W s 0 s
  | succ {k u v : Nat} : Wk W s k u → W.adj u v = true → Wk W s (k + 1) v
theorem Wk.trans {W : Web} {s t : Nat} {j : Nat} (a : Wk W s j t) : ∀ {k v : Nat}, Wk W t k v → Wk W s (j + k) v
  | _, _, .zero => a
  | _, _, .succ b h => .succ (Wk.trans a b) h
theorem Wk.front {W : Web} {s t : Nat} (h : W.adj s t = true) {k v : Nat} (a : Wk W t k v) : Wk W s (1 + k) v := Wk.trans (.succ .zero h) a
theorem Wk.symm {W : Web} {s : Nat} : ∀ {k v : Nat}, Wk W s k v → Wk W v k s
  | _, _, .zero => .zero
  | _, _, .succ (k := k) a h => by
    have := Wk.front (by rw [adj_sym]; exact h) a.symm
    rw [Nat.add_comm] at this; exact this
theorem IsD.wk {W : Web} {s : Nat} {d : Nat → Nat} (D : IsD W s d) (h : W.Pre) : ∀ v, v < W.n → Wk W s (d v) v := fun v hv => by
  generalize hk : d v = k
  induction k generalizing v with
  | zero =>
    by_cases e : v = s
    · subst e; exact .zero
    · obtain ⟨u, hu, e1⟩ := D.back v hv e
      omega
  | succ k ih =>
    have e : v ≠ s := fun z => by rw [z, D.s0] at hk; cases hk
    obtain ⟨u, hu, e1⟩ := D.back v hv e
    exact .succ (ih u (adj_lt h hu).2.1 (by omega)) (by rw [adj_sym]; exact hu)
/-- from a distance from one field, distances from all -/
theorem dist_ex {W : Web} (h : W.Pre) {s0 : Nat} {d0 : Nat → Nat} (D : IsD W s0 d0) {s : Nat} (hs : s < W.n) : ∃ d, IsD W s d := by
  have reach : ∀ v, v < W.n → ∃ k, Wk W s k v := fun v hv => ⟨_, ((D.wk h s hs).symm).trans (D.wk h v hv)⟩
  have ex : ∀ v, ∃ k, (v < W.n → Wk W s k v ∧ ∀ m, Wk W s m v → k ≤ m) := fun v => by
    by_cases hv : v < W.n
    · obtain ⟨k, h1, h2⟩ := least (reach v hv)
      exact ⟨k, fun _ => ⟨h1, h2⟩⟩
    · exact ⟨0, fun z => absurd z hv⟩
  let d := fun v => Classical.choose (ex v)
  have hd : ∀ v, v < W.n → Wk W s (d v) v ∧ ∀ m, Wk W s m v → d v ≤ m := fun v hv => Classical.choose_spec (ex v) hv
  refine ⟨d, ?_, fun u v a => ?_, fun v hv e => ?_⟩
  · exact Nat.le_zero.mp ((hd s hs).2 0 .zero)
  · exact (hd v (adj_lt h a).2.1).2 _ (.succ (hd u (adj_lt h a).1).1 a)
  · have q := (hd v hv).1
    generalize hk : d v = k at q
    cases q with
    | zero => exact absurd rfl e
    | succ a hu =>
      rename_i k u
      refine ⟨u, by rw [adj_sym]; exact hu, ?_⟩
      have h1 := (hd u (adj_lt h hu).1).2 _ a
      have h2 := (hd v hv).2 _ (.succ (hd u (adj_lt h hu).1).1 hu)
      omega
theorem IsD.uniq {W : Web} (h : W.Pre) {s : Nat} {d d' : Nat → Nat} (D : IsD W s d) (D' : IsD W s d') {v : Nat} (hv : v < W.n) : d v = d' v := by
  have le : ∀ (d d' : Nat → Nat), IsD W s d → IsD W s d' → ∀ k v, v < W.n → d' v = k → d v ≤ k := fun d d' D D' k => by
    induction k with
    | zero =>
      intro v hv e
      by_cases z : v = s
      · subst z; rw [D.s0]; exact Nat.le_refl _
      · obtain ⟨u, _, e1⟩ := D'.back v hv z; omega
    | succ k ih =>
      intro v hv e
      have z : v ≠ s := fun z => by rw [z, D'.s0] at e; cases e
      obtain ⟨u, hu, e1⟩ := D'.back v hv z
      have h1 := ih u (adj_lt h hu).2.1 (by omega)
      have h2 := D.lip u v (by rw [adj_sym]; exact hu)
      omega
  exact Nat.le_antisymm (le d d' D D' _ v hv rfl) (le d' d D' D _ v hv rfl)
open Classical in
noncomputable def Web.dist (W : Web) (s : Nat) : Nat → Nat := if h : ∃ d, IsD W s d then choose h else fun _ => 0
theorem dist_is {W : Web} {s : Nat} (h : ∃ d, IsD W s d) : IsD W s (W.dist s) := by
  unfold Web.dist
  rw [dif_pos h]
  exact Classical.choose_spec h
theorem Web.Ok.dist {W : Web} (h : W.Ok) {s : Nat} (hs : s < W.n) : IsD W s (W.dist s) := by
  obtain ⟨d, D, _⟩ := h.ex
  exact dist_is (dist_ex h.pre D hs)
theorem Web.Ok.odd {W : Web} (h : W.Ok) {u v : Nat} (a : W.adj u v = true) : (W.dist 0 u + W.dist 0 v) % 2 = 1 := by
  obtain ⟨d, D, p⟩ := h.ex
  have e : ∀ x, x < W.n → W.dist 0 x = d x := fun x hx => IsD.uniq h.pre (h.dist h.pre.pos) D hx
  rw [e u (adj_lt h.pre a).1, e v (adj_lt h.pre a).2.1]
  rcases of_decide_eq_true a with a | a
  · exact p _ a
  · have := p _ a; simp at this; omega
/-! ### a queue -/
structure Bfs (W : Web) (s : Nat) (d : Nat → Nat) (ln : List Nat) (a : Nat) : Prop where
  nd : ln.Nodup
  lt : ∀ x ∈ ln, x < W.n
  has : s ∈ ln
  le : a ≤ ln.length
  srt : ln.Pairwise (fun x y => d x ≤ d y)
  proc : ∀ (i : Nat) x, i < a → ln[i]? = some x → ∀ u, W.adj x u = true → u ∈ ln
  lev : ∀ y, ln[a]? = some y → ∀ x, x < W.n → d x ≤ d y → x ∈ ln
  bnd : ∀ y, ln[a]? = some y → ∀ x ∈ ln, d x ≤ d y + 1
structure BfsIn (W : Web) (s : Nat) (d : Nat → Nat) (ln : List Nat) (a : Nat) (y : Nat) (j : Nat) : Prop where
  nd : ln.Nodup
  lt : ∀ x ∈ ln, x < W.n
  has : s ∈ ln
  y_at : ln[a]? = some y
  srt : ln.Pairwise (fun x y => d x ≤ d y)
  proc : ∀ (i : Nat) x, i < a → ln[i]? = some x → ∀ u, W.adj x u = true → u ∈ ln
  here : ∀ u ∈ (W.nb y).take j, u ∈ ln
  lev : ∀ x, x < W.n → d x ≤ d y → x ∈ ln
  bnd : ∀ x ∈ ln, d x ≤ d y + 1
section
variable {W : Web} {s : Nat} {d : Nat → Nat} {ln : List Nat} {a y j : Nat}
theorem Bfs.start (D : IsD W s d) (h : W.Pre) (hs : s < W.n) : Bfs W s d [s] 0 where
  nd := by simp
  lt := by simp; exact hs
  has := by simp
  le := Nat.zero_le _
  srt := by simp
  proc := fun _ _ z => absurd z (Nat.not_lt_zero _)
  lev := fun y e x hx hd => by
    have : y = s := by simpa using e.symm
    subst this
    by_cases z : x = y
    · simp [z]
    · obtain ⟨u, _, e1⟩ := D.back x hx z
      rw [D.s0] at hd; omega
  bnd := fun y e x hx => by
    have : y = s := by simpa using e.symm
    have : x = s := by simpa using hx
    simp [*]
theorem Bfs.open (b : Bfs W s d ln a) (e : ln[a]? = some y) : BfsIn W s d ln a y 0 :=
  ⟨b.nd, b.lt, b.has, e, b.srt, b.proc, by simp, b.lev y e, b.bnd y e⟩
theorem BfsIn.skip (b : BfsIn W s d ln a y j) {v : Nat} (e : (W.nb y)[j]? = some v) (hv : v ∈ ln) : BfsIn W s d ln a y (j + 1) :=
  ⟨b.nd, b.lt, b.has, b.y_at, b.srt, b.proc, fun u hu => by
    rw [List.take_add_one, e] at hu
    rcases List.mem_append.mp hu with hu | hu
    · exact b.here u hu
    · simp at hu; rw [hu]; exact hv, b.lev, b.bnd⟩
theorem BfsIn.new (D : IsD W s d) (h : W.Pre) (b : BfsIn W s d ln a y j) {v : Nat} (e : (W.nb y)[j]? = some v) (hv : v ∉ ln) : d v = d y + 1 ∧ BfsIn W s d (ln ++ [v]) a y (j + 1) := by
  have ha : W.adj y v = true := (mem_nb h).mp (List.mem_of_getElem? e)
  have h1 := D.lip y v ha
  have h2 : ¬ d v ≤ d y := fun z => hv (b.lev v (adj_lt h ha).2.1 z)
  have hd : d v = d y + 1 := by omega
  refine ⟨hd, ?_, ?_, ?_, ?_, ?_, ?_, ?_, ?_, ?_⟩
  · exact List.nodup_append.mpr ⟨b.nd, by simp, fun x hx z hz => by simp at hz; rw [hz]; exact fun q => hv (q ▸ hx)⟩
  · intro x hx
    rcases List.mem_append.mp hx with hx | hx
    · exact b.lt x hx
    · simp at hx; rw [hx]; exact (adj_lt h ha).2.1
  · exact List.mem_append_left _ b.has
  · rw [List.getElem?_append_left (List.getElem?_eq_some_iff.mp b.y_at).1]; exact b.y_at
  · exact List.pairwise_append.mpr ⟨b.srt, by simp, fun x hx z hz => by simp at hz; rw [hz, hd]; exact b.bnd x hx⟩
  · intro i x hi e' u hu
    rw [List.getElem?_append_left (by have := (List.getElem?_eq_some_iff.mp b.y_at).1; omega)] at e'
    exact List.mem_append_left _ (b.proc i x hi e' u hu)
  · intro u hu
    rw [List.take_add_one, e] at hu
    rcases List.mem_append.mp hu with hu | hu
    · exact List.mem_append_left _ (b.here u hu)
    · exact List.mem_append_right _ hu
  · exact fun x hx hd => List.mem_append_left _ (b.lev x hx hd)
  · intro x hx
    rcases List.mem_append.mp hx with hx | hx
    · exact b.bnd x hx
    · simp at hx; rw [hx, hd]; exact Nat.le_refl _
theorem BfsIn.close (D : IsD W s d) (h : W.Pre) (b : BfsIn W s d ln a y (W.nb y).length) : Bfs W s d ln (a + 1) := by
  obtain ⟨ha, ey⟩ := List.getElem?_eq_some_iff.mp b.y_at
  have pr : ∀ (i : Nat) x, i < a + 1 → ln[i]? = some x → ∀ u, W.adj x u = true → u ∈ ln := fun i x hi e u hu => by
    by_cases z : i < a
    · exact b.proc i x z e u hu
    · have : i = a := by omega
      subst this
      rw [b.y_at] at e; cases e
      refine b.here u ?_
      rw [List.take_length]
      exact (mem_nb h).mpr hu
  have sle : ∀ (i k : Nat) x z, i ≤ k → ln[i]? = some x → ln[k]? = some z → d x ≤ d z := fun i k x z hik e1 e2 => by
    obtain ⟨h1, f1⟩ := List.getElem?_eq_some_iff.mp e1
    obtain ⟨h2, f2⟩ := List.getElem?_eq_some_iff.mp e2
    by_cases q : i = k
    · subst q; rw [e1] at e2; cases e2; exact Nat.le_refl _
    · have := List.pairwise_iff_getElem.mp b.srt i k h1 h2 (by omega)
      rw [f1, f2] at this; exact this
  refine ⟨b.nd, b.lt, b.has, ha, b.srt, pr, fun z ez x hx hd => ?_, fun z ez x hx => ?_⟩
  · have h1 := sle a (a + 1) y z (by omega) b.y_at ez
    have h2 := b.bnd z (List.mem_of_getElem? ez)
    by_cases q : d x ≤ d y
    · exact b.lev x hx q
    · have hxs : x ≠ s := fun e => q (by rw [e, D.s0]; exact Nat.zero_le _)
      obtain ⟨w, hw, e1⟩ := D.back x hx hxs
      have hwl : w ∈ ln := b.lev w (adj_lt h hw).2.1 (by omega)
      obtain ⟨i, hi, ei⟩ := List.getElem_of_mem hwl
      have hia : i < a + 1 := Nat.lt_of_not_le fun z' => by
        have := sle (a + 1) i z w z' ez (by rw [List.getElem?_eq_getElem hi, ei])
        omega
      exact pr i w hia (by rw [List.getElem?_eq_getElem hi, ei]) x (by rw [adj_sym]; exact hw)
  · have h1 := sle a (a + 1) y z (by omega) b.y_at ez
    have := b.bnd x hx
    omega
theorem Bfs.all (D : IsD W s d) (h : W.Pre) (b : Bfs W s d ln ln.length) : ∀ x, x < W.n → x ∈ ln := fun x hx => by
  generalize hk : d x = k
  induction k using Nat.strongRecOn generalizing x with
  | _ k ih =>
    by_cases e : x = s
    · subst e; exact b.has
    · obtain ⟨w, hw, e1⟩ := D.back x hx e
      have hwl := ih (d w) (by omega) w (adj_lt h hw).2.1 rfl
      obtain ⟨i, hi, ei⟩ := List.getElem_of_mem hwl
      exact b.proc i w hi (by rw [List.getElem?_eq_getElem hi, ei]) x (by rw [adj_sym]; exact hw)
theorem Bfs.few (b : Bfs W s d ln a) : ln.length ≤ W.n := by
  have := b.nd.length_le_of_subset (fun x hx => List.mem_range.mpr (b.lt x hx))
  simpa using this
theorem BfsIn.few (b : BfsIn W s d ln a y j) : ln.length ≤ W.n := by
  have := b.nd.length_le_of_subset (fun x hx => List.mem_range.mpr (b.lt x hx))
  simpa using this
end
/-! ### by rims -/
/-- k rounds are done: seen are those up to k, the rim are those at k -/
structure Rim (W : Web) (d : Nat → Nat) (rim : List Nat) (k : Nat) : Prop where
  nd : rim.Nodup
  mem : ∀ x, x ∈ rim ↔ x < W.n ∧ d x = k
/-- within a round: done are some of the rim, later those that are new -/
structure RimIn (W : Web) (d : Nat → Nat) (k : Nat) (lat : List Nat) (done : List Nat) : Prop where
  nd : lat.Nodup
  mem : ∀ x ∈ lat, x < W.n ∧ d x = k + 1
  got : ∀ h ∈ done, ∀ u, W.adj h u = true → d u ≤ k ∨ u ∈ lat
section
variable {W : Web} {s : Nat} {d : Nat → Nat} {k : Nat} {rim lat done : List Nat}
theorem Rim.start (D : IsD W s d) (hs : s < W.n) : Rim W d [s] 0 := ⟨by simp, fun x => by
  rw [List.mem_singleton]
  refine ⟨fun e => by rw [e]; exact ⟨hs, D.s0⟩, fun ⟨h1, h2⟩ => ?_⟩
  by_cases e : x = s
  · exact e
  · obtain ⟨u, _, e1⟩ := D.back x h1 e; omega⟩
theorem Rim.next (D : IsD W s d) (h : W.Pre) (r : Rim W d rim k) (i : RimIn W d k lat rim) : Rim W d lat (k + 1) := ⟨i.nd, fun x => ⟨i.mem x, fun ⟨h1, h2⟩ => by
  have e : x ≠ s := fun z => by rw [z, D.s0] at h2; omega
  obtain ⟨u, hu, e1⟩ := D.back x h1 e
  rcases i.got u ((r.mem u).mpr ⟨(adj_lt h hu).2.1, by omega⟩) x (by rw [adj_sym]; exact hu) with z | z
  · omega
  · exact z⟩⟩
theorem Rim.stop (D : IsD W s d) (h : W.Pre) (r : Rim W d [] k) : ∀ x, x < W.n → d x < k := fun x hx => by
  have key : ∀ m x, x < W.n → d x = k + m → False := fun m => by
    induction m with
    | zero => exact fun x hx e => by have := (r.mem x).mpr ⟨hx, e⟩; simp at this
    | succ m ih =>
      intro x hx e
      have z : x ≠ s := fun z => by rw [z, D.s0] at e; omega
      obtain ⟨u, hu, e1⟩ := D.back x hx z
      exact ih u (adj_lt h hu).2.1 (by omega)
  exact Nat.lt_of_not_le fun z => key (d x - k) x hx (by omega)
theorem d_bound (n : Nat) (d : Nat → Nat) : ∃ N, ∀ x, x < n → d x ≤ N := by
  induction n with
  | zero => exact ⟨0, fun _ h => absurd h (Nat.not_lt_zero _)⟩
  | succ n ih =>
    obtain ⟨N, hN⟩ := ih
    refine ⟨N + d n, fun x hx => ?_⟩
    by_cases e : x = n
    · subst e; omega
    · have := hN x (by omega); omega
end
end M

set_option Elab.async false
set_option linter.all false
set_option maxRecDepth 100000
set_option maxHeartbeats 4000000
/-! GF: a list of distances that is being filled. -/
namespace G
open PySem L2 RZ M
open Evl (Ex EvT et_or et_not et_and)
section
variable {K : PySem.W.Frag} {σ : L2.St} {H H' : Hp} {ms : List Addr} {ta tb te tl th : TE} {t u : TT} {P : V → Hp → Prop} {v : V} {d d1 d2 : PyData} {i j : Int} {b : Bool} {ds es : List PyData}
/-- [None] * n -/
theorem n_nones (hb : ED ms tb σ H (.int j)) (hj : 0 ≤ j ∧ j ≤ 1000) : EvP (tOp rRep (tLst (tCons (tC .non) tNil)) tb) σ H fun v H2 => ∃ p, v = .ref p ∧ H p = none ∧ H2 p = some (.lst (List.replicate j.toNat V.non)) := fun H1 e Q q => by
  refine ⟨by show 1 ≤ sizeLine; exact sz (by omega), fun l hl => ?_⟩
  refine hb _ (e.trans (Ex.new hl)) _ fun y H2 e2 r => ?_
  cases r.int_of
  refine ⟨l, j, [V.non], rfl, rfl, e2 l _ upd_same, by omega, by omega, sz (by show 1 * j.toNat ≤ _; omega), fun p hp => ?_⟩
  have ef : (List.replicate j.toNat [V.non]).flatten = List.replicate j.toNat V.non := by
    generalize j.toNat = n
    induction n with
    | zero => rfl
    | succ n ih => rw [List.replicate_succ, List.replicate_succ, List.flatten_cons, ih]; rfl
  rw [ef]
  exact q _ _ (((Ex.new hl).trans e2).trans (Ex.new hp)) ⟨p, rfl, Evl.fresh_back ((e.trans (Ex.new hl)).trans e2) hp, upd_same⟩
/-- a list of one, to be changed -/
theorem n_one (ha : EvP ta σ H fun w _ => w = v) : EvP (tLst (tCons ta tNil)) σ H fun w H2 => ∃ p, w = .ref p ∧ H p = none ∧ H2 p = some (.lst [v]) := fun H1 e Q q =>
  ha H1 e _ fun x H2 e2 hx => by
    subst hx
    exact ⟨by show 1 ≤ sizeLine; exact sz (by omega), fun p hp => q _ _ (e2.trans (Ex.new hp)) ⟨p, rfl, Evl.fresh_back (e.trans e2) hp, upd_same⟩⟩
theorem n_nil : EvP (tLst tNil) σ H fun w H2 => ∃ p, w = .ref p ∧ H p = none ∧ H2 p = some (.lst []) := fun H1 e Q q =>
  ⟨Nat.zero_le _, fun p hp => q _ _ (Ex.new hp) ⟨p, rfl, Evl.fresh_back e hp, upd_same⟩⟩
theorem EvP.val (h : ED ms te σ H (.int i)) : EvP te σ H fun w _ => w = .int i := h.imp fun v H2 _ r => r.int_of
theorem s_setV {D : Ends} {l : Addr} {xs : List V} {k : Nat} {v0 : V} (hl : H l = some (.lst xs)) (h : EvP te σ H fun w _ => w = v0) (ho : EvP ta σ H fun w _ => w = .ref l) (hi : ED ms tb σ H (.int (k : Int))) (hk : k < xs.length)
    (q : ∀ H1, Ex H H1 → D.nx σ (upd H1 l (.lst (xs.set k v0)))) : tAsg te (gSub ta tb rSetL) D σ H := s_setL hl h (fun _ _ _ _ z => z) ho hi hk fun v H1 e p => by subst p; exact q H1 e
theorem q_setV {D : Ends} {tz : TS} {l : Addr} {xs : List V} {k : Nat} {v0 : V} (hl : H l = some (.lst xs)) (h : EvP te σ H fun w _ => w = v0) (ho : EvP ta σ H fun w _ => w = .ref l) (hi : ED ms tb σ H (.int (k : Int))) (hk : k < xs.length)
    (q : ∀ H1, Ex H H1 → tz D σ (upd H1 l (.lst (xs.set k v0)))) : tSeq (tAsg te (gSub ta tb rSetL)) tz D σ H := s_setV (D := { D with nx := tz D }) hl h ho hi hk q
theorem q_val {D : Ends} {k : Nat} {tz : TS} {v0 : V} (h : EvP te σ H fun w _ => w = v0) (q : ∀ H1, Ex H H1 → tz D (σ.set k (some v0)) H1) : tSeq (tAsg te (gName k)) tz D σ H := q_asg h fun v H1 e p => by subst p; exact q H1 e
theorem v_int : EvP (tC (.int i)) σ H fun w _ => w = .int i := EvP.val (ms := []) e_int
theorem s_aug {D : Ends} {k : Nat} {a c : Int} (hx : σ[k]? = some (some (.int a))) (h : EvP te σ H fun w _ => w = .int c) (q : ∀ H1, Ex H H1 → D.nx (σ.set k (some (.int (a + c)))) H1) : tAug k te (ipI fun i j => i + j) D σ H :=
  ⟨.int a, hx, h H (Ex.refl H) _ fun v H1 e p => by subst p; exact ⟨a, c, rfl, rfl, q H1 e⟩⟩
/-- xs[i], xs being changed, the item itself -/
theorem v_ixM {K : PySem.W.Frag} {p : Addr} {xs : List V} {ma : Nat} (ha : EvP ta σ H fun w _ => w = .ref p) (hp : H p = some (.lst xs)) (hb : ED ms tb σ H (.int (ma : Int))) (e : xs[ma]? = some v) : EvP (tOp (rIxL K) ta tb) σ H fun w _ => w = v :=
  e_op2 ha (fun _ e => hb.mono e) (fun _ _ _ _ h => h) fun x y H2 e2 rx ry Q q => by
    subst rx
    cases ry.int_of
    exact ⟨p, xs, (ma : Int), v, rfl, rfl, SqL.of (e2 p _ hp), atI_nat e, q v H2 (Ex.refl H2) rfl⟩
theorem EvP.ed (h : EvP te σ H fun w _ => w = v) (r : Rp (cut H ms) v d) : ED ms te σ H d := h.imp fun w H2 e p => by subst p; exact rp_keep e r
end
/-- the distances found so far -/
def fv (n : Nat) (d : Nat → Nat) (ln : List Nat) : List V := (List.range n).map fun x => if x ∈ ln then V.int (d x : Int) else V.non
theorem fv_len {n : Nat} {d : Nat → Nat} {ln : List Nat} : (fv n d ln).length = n := by unfold fv; simp
theorem fv_get {n : Nat} {d : Nat → Nat} {ln : List Nat} {x : Nat} (h : x < n) : (fv n d ln)[x]? = some (if x ∈ ln then V.int (d x : Int) else V.non) := by
  unfold fv
  rw [List.getElem?_map, List.getElem?_range h]; rfl
theorem fv_set {n : Nat} {d : Nat → Nat} {ln : List Nat} {x : Nat} (h : x < n) : (fv n d ln).set x (.int (d x : Int)) = fv n d (ln ++ [x]) := by
  refine List.ext_getElem? fun k => ?_
  by_cases hk : k < n
  · by_cases e : k = x
    · subst e
      rw [List.getElem?_set_self (by rw [fv_len]; exact hk), fv_get hk, if_pos (by simp)]
    · rw [List.getElem?_set_ne (fun z => e z.symm), fv_get hk, fv_get hk]
      by_cases hm : k ∈ ln
      · rw [if_pos hm, if_pos (by simp [hm])]
      · rw [if_neg hm, if_neg (by simp [hm, e])]
  · rw [List.getElem?_eq_none (by rw [List.length_set, fv_len]; omega), List.getElem?_eq_none (by rw [fv_len]; omega)]
theorem fv_nil {n : Nat} {d : Nat → Nat} : fv n d [] = List.replicate n V.non := by
  unfold fv
  refine List.ext_getElem? fun k => ?_
  by_cases hk : k < n
  · rw [List.getElem?_map, List.getElem?_range hk, List.getElem?_replicate, if_pos hk]; simp
  · rw [List.getElem?_eq_none (by simp; omega), List.getElem?_eq_none (by simp; omega)]
theorem fv_all {n : Nat} {d : Nat → Nat} {ln : List Nat} (h : ∀ x, x < n → x ∈ ln) : fv n d ln = (nI ((List.range n).map d)).map V.int := by
  unfold fv nI
  rw [List.map_map, List.map_map]
  exact List.map_congr_left fun x hx => by rw [if_pos (h x (List.mem_range.mp hx))]; rfl
/-- what reach_of hands back -/
noncomputable abbrev dDist (W : Web) (s : Nat) : PyData := dNs ((List.range W.n).map (W.dist s))
end G
namespace G
open PySem
theorem eqvAll_map {α : Type} [DecidableEq α] {enc : α → PyData} (h : ∀ x y, PyData.eqv (enc x) (enc y) = decide (x = y)) : ∀ xs ys : List α, PyData.eqvAll (xs.map enc) (ys.map enc) = decide (xs = ys)
  | [], [] => by simp [PyData.eqvAll]
  | [], _ :: _ => by simp [PyData.eqvAll]
  | _ :: _, [] => by simp [PyData.eqvAll]
  | a :: r, b :: t => by
    simp only [List.map_cons, PyData.eqvAll, h, eqvAll_map h r t]
    by_cases h1 : a = b <;> by_cases h2 : r = t <;> simp [h1, h2]
theorem eqv_int (x y : Int) : PyData.eqv (.int x) (.int y) = decide (x = y) := by
  rw [PyData.eqv]; by_cases h : x = y <;> simp [h]
theorem eqv_nat (x y : Nat) : PyData.eqv (.int (x : Int)) (.int (y : Int)) = decide (x = y) := by
  rw [eqv_int]; by_cases h : x = y <;> simp [h]; omega
theorem eqv_ints (a b : List Int) : PyData.eqv (M.dIs a) (M.dIs b) = decide (a = b) := by
  show PyData.eqv (.list _) (.list _) = _
  rw [PyData.eqv, eqvAll_map eqv_int]
theorem eqv_tup (a b : List Int) : PyData.eqv (M.dC a) (M.dC b) = decide (a = b) := by
  show PyData.eqv (.tuple _) (.tuple _) = _
  rw [PyData.eqv, eqvAll_map eqv_int]
theorem eqv_tups (a b : List (List Int)) : PyData.eqv (.list (a.map M.dC)) (.list (b.map M.dC)) = decide (a = b) := by
  rw [PyData.eqv, eqvAll_map eqv_tup]
theorem eqv_pair (a b : Nat × Nat) : PyData.eqv (M.dP a) (M.dP b) = decide (a = b) := by
  show PyData.eqv (.tuple [_, _]) (.tuple [_, _]) = _
  rw [PyData.eqv]
  simp only [PyData.eqvAll, eqv_nat, Bool.and_true]
  by_cases h1 : a.1 = b.1 <;> by_cases h2 : a.2 = b.2 <;> simp [h1, h2, Prod.ext_iff]
theorem lay_all {α : Type} {enc : α → PyData} (h : ∀ x, (enc x).canLay0 = true) : ∀ xs : List α, PyData.canLayAll0 (xs.map enc) = true
  | [] => rfl
  | x :: xs => by simp only [List.map_cons, PyData.canLayAll0, h x, lay_all h xs]; rfl
theorem depth_all {α : Type} {enc : α → PyData} {k : Nat} (h : ∀ x, (enc x).depth ≤ k) : ∀ xs : List α, PyData.depthAll (xs.map enc) ≤ k
  | [] => by simp [PyData.depthAll]
  | x :: xs => by
    have := h x
    have := depth_all h xs
    simp only [List.map_cons, PyData.depthAll]; omega
theorem lay_C (c : List Int) : (M.dC c).canLay0 = true := by show (PyData.tuple _).canLay0 = true; simp only [PyData.canLay0]; exact lay_all (fun _ => rfl) c
theorem lay_I (c : List Int) : (M.dIs c).canLay0 = true := by show (PyData.list _).canLay0 = true; simp only [PyData.canLay0]; exact lay_all (fun _ => rfl) c
theorem depth_C (c : List Int) : (M.dC c).depth ≤ 1 := by
  show (PyData.tuple _).depth ≤ 1
  have := depth_all (enc := PyData.int) (k := 0) (fun _ => by simp [PyData.depth]) c
  simp only [PyData.depth]; omega
theorem depth_I (c : List Int) : (M.dIs c).depth ≤ 1 := by
  show (PyData.list _).depth ≤ 1
  have := depth_all (enc := PyData.int) (k := 0) (fun _ => by simp [PyData.depth]) c
  simp only [PyData.depth]; omega
theorem shaped_C (c : List Int) : SeqAt.shaped (M.dC c) = true := by unfold SeqAt.shaped; rw [lay_C]; have := depth_C c; simp; omega
theorem shaped_I (c : List Int) : SeqAt.shaped (M.dIs c) = true := by unfold SeqAt.shaped; rw [lay_I]; have := depth_I c; simp; omega
theorem shaped_nil : SeqAt.shaped (.list []) = true := shaped_I []
theorem shaped_Cs (c : List (List Int)) : SeqAt.shaped (.list (c.map M.dC)) = true := by
  unfold SeqAt.shaped
  have h1 : (PyData.list (c.map M.dC)).canLay0 = true := by simp only [PyData.canLay0]; exact lay_all lay_C c
  have h2 : (PyData.list (c.map M.dC)).depth ≤ 2 := by have := depth_all (k := 1) depth_C c; simp only [PyData.depth]; omega
  rw [h1]; simp; omega
theorem lay_P (c : Nat × Nat) : (M.dP c).canLay0 = true := by show (PyData.tuple [_, _]).canLay0 = true; simp [PyData.canLay0, PyData.canLayAll0]
theorem depth_P (c : Nat × Nat) : (M.dP c).depth ≤ 1 := by show (PyData.tuple [_, _]).depth ≤ 1; simp [PyData.depth, PyData.depthAll]
theorem shaped_P (c : Nat × Nat) : SeqAt.shaped (M.dP c) = true := by unfold SeqAt.shaped; rw [lay_P]; have := depth_P c; simp; omega
theorem shaped_Ps (c : List (Nat × Nat)) : SeqAt.shaped (.list (c.map M.dP)) = true := by
  unfold SeqAt.shaped
  have h1 : (PyData.list (c.map M.dP)).canLay0 = true := by simp only [PyData.canLay0]; exact lay_all lay_P c
  have h2 : (PyData.list (c.map M.dP)).depth ≤ 2 := by have := depth_all (k := 1) depth_P c; simp only [PyData.depth]; omega
  rw [h1]; simp; omega
end G

set_option linter.all false
/-! M3: colors, steps, turns. -/
namespace M
open PySem G
/-- 1 if a color is the next one -/
def stp (x y : Int) : Int := if (y - x) % 3 = 1 then 1 else -1
def atc (c : List Int) (v : Nat) : Int := c.getD v 0
/-- the sum of the steps along a list of fields -/
def chain (c : List Int) : List Nat → Int
  | x :: y :: r => stp (atc c x) (atc c y) + chain c (y :: r)
  | _ => 0
/-- once around, by threes -/
def trn (c : List Int) (r : List Nat) : Int := chain c (r ++ r.take 1) / 3
/-- neighbors unlike, colors 0, 1, 2 -/
structure Col (W : Web) (c : List Int) : Prop where
  len : c.length = W.n
  rng : ∀ x ∈ c, 0 ≤ x ∧ x ≤ 2
  ne : ∀ u v, W.adj u v = true → atc c u ≠ atc c v
theorem chain_zip (c : List Int) : ∀ l : List Nat, ((l.zip (l.drop 1)).map fun p => stp (atc c p.1) (atc c p.2)).sum = chain c l
  | [] => rfl
  | [_] => rfl
  | x :: y :: r => by
    have ih := chain_zip c (y :: r)
    show ((((x, y) :: ((y :: r).zip r)).map fun p => stp (atc c p.1) (atc c p.2)).sum) = stp (atc c x) (atc c y) + chain c (y :: r)
    rw [List.map_cons, List.sum_cons]
    have e : (y :: r).drop 1 = r := rfl
    rw [e] at ih
    rw [ih]
theorem atc_get {c : List Int} {v : Nat} (h : v < c.length) : c[v]? = some (atc c v) := by
  unfold atc
  rw [List.getD_eq_getElem?_getD, List.getElem?_eq_getElem h]; rfl
theorem zip_map_nI (l m : List Nat) : (l.map dN).zip (m.map dN) = (l.zip m).map fun p => (dN p.1, dN p.2) := by
  rw [List.zip_map]; rfl
theorem dNs_eq (l : List Nat) : (nI l).map PyData.int = l.map dN := by unfold nI; rw [List.map_map]; rfl
end M
namespace M
open PySem G L2 Evl
/-- a field has a neighbor behind a place -/
def Web.beh (W : Web) (f last : Nat) : Bool := (W.nb f).any fun v => decide (last < v)
/-- the fields up to a place that have neighbors behind it -/
def Web.kept (W : Web) (last : Nat) : List Nat := (List.range (last + 1)).filter fun f => W.beh f last
def Web.brd (W : Web) : Nat := ((List.range W.n).map fun last => (W.kept last).length).foldl max 0
theorem foldl_max_le {k : Nat} : ∀ (l : List Nat) (b : Nat), b ≤ k → (∀ x ∈ l, x ≤ k) → l.foldl max b ≤ k
  | [], b, h, _ => h
  | a :: l, b, h, h2 => foldl_max_le l _ (Nat.max_le.mpr ⟨h, h2 a List.mem_cons_self⟩) fun x hx => h2 x (List.mem_cons_of_mem _ hx)
theorem kept_len {W : Web} {last : Nat} : (W.kept last).length ≤ last + 1 := by
  unfold Web.kept
  have := List.length_filter_le (fun f => W.beh f last) (List.range (last + 1))
  rw [List.length_range] at this
  exact this
theorem brd_le {W : Web} : W.brd ≤ W.n := foldl_max_le _ _ (Nat.zero_le _) fun x hx => by
  obtain ⟨l, hl, rfl⟩ := List.mem_map.mp hx
  have := kept_len (W := W) (last := l)
  have := List.mem_range.mp hl
  omega
theorem beh_nil {W : Web} {f last : Nat} (h : W.nb f = []) : W.beh f last = false := by unfold Web.beh; rw [h]; rfl
theorem beh_last {W : Web} {f last z : Nat} {l : List Nat} (h : W.nb f = l ++ [z]) : W.beh f last = decide (last < z) := by
  have hs := nb_lt (W := W) f
  unfold Web.beh
  rw [h] at hs ⊢
  have hp := List.pairwise_append.mp hs
  rw [List.any_append]
  by_cases q : last < z
  · simp [q]
  · have : l.any (fun v => decide (last < v)) = false := by
      rw [List.any_eq_false]
      intro x hx
      have := hp.2.2 x hx z (by simp)
      simp; omega
    rw [this]; simp [q]
theorem t_beh {K : PySem.W.Frag} {σ : L2.St} {H : Hp} {ms : List Addr} {te tl : TE} {W : Web} {f last : Nat} (h : ED ms te σ H (dNs (W.nb f))) (hl : ED ms tl σ H (dN last)) (L : Live H ms) :
    EvT (tAnd (tTest (tOp (rNeD K) te (tLst tNil))) (tTest (tOp (rI0 fun i j => .bl (decide (j < i))) (tOp (rIxL K) te (tUn (rU fun i => .int (-i)) (tC (.int 1)))) tl))) σ H (W.beh f last) := by
  have t1 := t_T (e_neDp (K := K) h (e_lst a_nil (by simp) L) (shaped_I _) shaped_nil)
  rw [show PyData.eqv (dNs (W.nb f)) (.list []) = decide (W.nb f = []) by
    have := eqv_ints (nI (W.nb f)) []
    have e : (nI (W.nb f) = []) ↔ (W.nb f = []) := by unfold nI; exact List.map_eq_nil_iff
    rw [show (dIs ([] : List Int)) = PyData.list [] from rfl] at this
    rw [this]; simp [e]] at t1
  rcases List.eq_nil_or_concat (W.nb f) with e | ⟨l, z, e⟩
  · rw [beh_nil e]
    exact t_is (et_and (b := false) t1 fun hh => by rw [e] at hh; simp at hh) (by rw [e]; simp)
  · rw [List.concat_eq_append] at e
    have at1 : atI ((nI (W.nb f)).map PyData.int) (-1) = some (dN z) := by
      rw [e, nI_app, List.map_append]; exact atI_last _ _
    rw [beh_last e]
    refine t_is (et_and t1 fun _ => t_T (e_B0 (e_ixL h (e_neg e_int) at1) hl)) ?_
    rw [e]; simp
end M

set_option Elab.async false
set_option linter.all false
set_option maxRecDepth 100000
set_option maxHeartbeats 4000000
namespace T
open PySem PySem.Spec PyProof.Rows L2 RZ G M
open Evl (Ex EvT et_or et_not et_and)
def topS (i : Nat) : Stmt := PySem.Challenge.pw_terraces_k39_whole_recolorings.main.body.getD i (.Pass ⟨0, 0, 0, 0⟩)
section
variable {P : Program} {w : World} {K : PySem.W.Frag} {mg : Str → Option Value} {base : Heap} {f : Addr} {fd : FuncData}
abbrev s_is_int : Stmt := topS 9
theorem sc_is_int : FnScope ["value"] ["value"] (defScope s_is_int) := ⟨rfl, rfl, rfl, by decide +kernel, rfl, by decide +kernel, by decide +kernel⟩
def sp_is_int : Sp := PSm fun ds d => ∃ i, ds = [.int i] ∧ d = .bool true
theorem ok_is_int (F : Fun K "is_int" "is_int" s_is_int f fd) (b : Blt mg) : FnOk P w K mg base CX0 1 f fd ["value"] sp_is_int := by
  refine F.ok sc_is_int (fun vs H Q E h => ?_) (fun cdv A outer s H vs Q E hr h => ?_)
  · obtain ⟨ds, d, ms, r, _, ⟨i, rfl, _⟩, _⟩ := h; exact r.len
  · obtain ⟨ds, d, ms, r, L, ⟨i, rfl, rfl⟩, k⟩ := h
    have nd := sc_is_int.nd
    refine ⟨_, pss_one (ps_ret (pe_and (pe_callB (call_isiK' K rfl) (by rfl) b.isinstance (by decide +kernel) (pa_cons (pv 0) (pa_cons (pe_bltn (v := .ty "int") (by rfl) b.int (by decide +kernel) rfl) pa_nil))) (pe_one (pe_not (pe_callB (call_isiK' K rfl) (by rfl) b.isinstance (by decide +kernel) (pa_cons (pv 0) (pa_cons (pe_bltn (v := .ty "bool") (by rfl) b.bool (by decide +kernel) rfl) pa_nil))))))), ?_⟩
    obtain ⟨v1, rfl, r1⟩ := r.one
    exact s_ret (e_andV (e_isi (b := true) (e_var rfl r1) (.int _) (by decide +kernel)) fun _ => e_notV (e_isi (b := false) (e_var rfl r1) (.int _) (by decide +kernel))) k
abbrev s_is_in : Stmt := topS 10
theorem sc_is_in : FnScope ["value", "least", "most"] ["value", "least", "most"] (defScope s_is_in) := ⟨rfl, rfl, rfl, by decide +kernel, rfl, by decide +kernel, by decide +kernel⟩
def sp_is_in : Sp := PSm fun ds d => ∃ i lo hi, ds = [.int i, .int lo, .int hi] ∧ d = .bool (decide (lo ≤ i) && decide (i ≤ hi))
theorem ok_is_in (F : Fun K "is_in" "is_in" s_is_in f fd) (c_is_int : Dfn P w K mg base 1 "is_int" ["value"] sp_is_int) : FnOk P w K mg base CX0 2 f fd ["value", "least", "most"] sp_is_in := by
  refine F.ok sc_is_in (fun vs H Q E h => ?_) (fun cdv A outer s H vs Q E hr h => ?_)
  · obtain ⟨ds, d, ms, r, _, ⟨i, lo, hi, rfl, _⟩, _⟩ := h; exact r.len
  · obtain ⟨ds, d, ms, r, L, ⟨i, lo, hi, rfl, rfl⟩, k⟩ := h
    have nd := sc_is_in.nd
    refine ⟨_, pss_one (ps_ret (pe_and (pe_own c_is_int hr (pa_cons (pv 0) pa_nil)) (pe_one (pe_chain op_le op_le (pv 1) (pv 0) (pv 2))))), ?_⟩
    obtain ⟨v1, v2, v3, rfl, r1, r2, r3⟩ := r.three
    exact s_ret (e_andV (e_call (a_cons (e_var rfl r1) a_nil) L ⟨i, rfl, rfl⟩) fun _ => e_chain (e_var rfl r2) (e_var rfl r1) (e_var rfl r3)) k
abbrev s_is_pair : Stmt := topS 11
theorem sc_is_pair : FnScope ["value", "size", "field"] ["value", "size"] (defScope s_is_pair) := ⟨rfl, rfl, rfl, by decide +kernel, rfl, by decide +kernel, by decide +kernel⟩
def sp_is_pair : Sp := PSm fun ds d => ∃ i j n : Int, ds = [.tuple [.int i, .int j], .int n] ∧ 0 ≤ i ∧ i < j ∧ j < n ∧ d = .bool true
theorem ok_is_pair (F : Fun K "is_pair" "is_pair" s_is_pair f fd) (b : Blt mg) (c_is_in : Dfn P w K mg base 2 "is_in" ["value", "least", "most"] sp_is_in) : FnOk P w K mg base CX0 3 f fd ["value", "size"] sp_is_pair := by
  refine F.ok sc_is_pair (fun vs H Q E h => ?_) (fun cdv A outer s H vs Q E hr h => ?_)
  · obtain ⟨ds, d, ms, r, _, ⟨i, lo, hi, rfl, _⟩, _⟩ := h; exact r.len
  · obtain ⟨ds, d, ms, r, L, ⟨i, j, n, rfl, h1, h2, h3, rfl⟩, k⟩ := h
    have nd := sc_is_pair.nd
    refine ⟨_, pss_cons (ps_if ((pw_or (pt_not (pt_val (pe_callB (call_isiK' K rfl) (by rfl) b.isinstance (by decide +kernel) (pa_cons (pv 0) (pa_cons (pe_bltn (v := .ty "tuple") (by rfl) b.tuple (by decide +kernel) rfl) pa_nil))))) (pw_or1 (pt_cmpR op_ne (pe_callB (call_lenK K rfl) (by rfl) b.len (by decide +kernel) (pa_cons (pv 0) pa_nil)) (pe_int) (nomark _)))).pt) (pss_one (ps_ret (pe_bl))) (pss_nil)) (pss_one (ps_ret (pe_and (pe_callB (cr_allK K rfl rfl) (by rfl) b.all (by decide +kernel) (pa_cons (pe_lc (own := [("field", 2)]) rfl nd (pi_tupK K rfl (pv 0)) (blkOk_by (own := [("field", 2)]) (N := ["value", "size", "field"]) (sc := (defScope s_is_pair)) (by decide +kernel)) (fun _ _ _ _ _ => pg_name (i := 2) nd rfl (Or.inl rfl)) (fun _ _ _ _ _ => pts_nil) (fun _ _ _ _ _ => pe_own c_is_in hr (pa_cons (pv 2) (pa_cons (pe_int) (pa_cons (pe_op op_sub (pv 1) (pe_int)) pa_nil))))) pa_nil)) (pe_one (pe_cmpR op_lt (pe_ix (ix_tupK K rfl) (pv 0) (pe_int) (fun _ _ => rfl)) (pe_ix (ix_tupK K rfl) (pv 0) (pe_int) (fun _ _ => rfl)) (nomark _)))))), ?_⟩
    obtain ⟨v1, v2, rfl, r1, r2⟩ := r.two
    refine q_no (t_is (et_or (et_not (t_B (e_isi (b := true) (e_var rfl r1) (.tup _) (by decide +kernel)))) fun _ => t_T (e_ne (e_lenT (e_var rfl r1)) e_int)) (by simp)) fun H1 e1 => ?_
    replace r1 := rp_keep e1 r1
    replace r2 := rp_keep e1 r2
    have L1 := L.mono e1
    refine s_ret (e_andV (a := true) (c := true) (e_is (e_allD (xs := [PyData.int i, PyData.int j]) (f := fun _ => true) (e_map (fun _ => .bool true) (src_tup (e_var rfl r1)) (by simp) L1 fun ms' d v H2 hd e2 ec L2 rv => ⟨_, fun Q q => q, rfl, ?_⟩)) rfl)
      fun _ => e_is (e_B0 (e_ixT (e_var rfl r1) e_int rfl) (e_ixT (e_var rfl r1) e_int rfl)) (by simp only [h2, decide_true])) fun v H2 e2 p => k v H2 (e1.trans e2) p
    have hk : ∃ z, d = .int z ∧ 0 ≤ z ∧ z ≤ n - 1 := by
      rcases List.mem_cons.mp hd with rfl | hd
      · exact ⟨i, rfl, h1, by omega⟩
      · cases List.mem_singleton.mp hd
        exact ⟨j, rfl, by omega, by omega⟩
    obtain ⟨z, rfl, z1, z2⟩ := hk
    exact e_call (a_cons (e_var rfl rv) (a_cons e_int (a_cons (e_I0 (e_var rfl (r2.mono ec)) e_int) a_nil))) L2 ⟨z, 0, n - 1, rfl, by simp only [z1, z2, decide_true]; rfl⟩
abbrev s_has_form : Stmt := topS 12
theorem sc_has_form : FnScope ["value", "one", "other", "hedge"] ["value"] (defScope s_has_form) := ⟨rfl, rfl, rfl, by decide +kernel, rfl, by decide +kernel, by decide +kernel⟩
def sp_has_form : Sp := PSm fun ds d => ∃ W : Web, ds = [dW W] ∧ W.Ok ∧ d = .bool true
theorem ok_has_form (F : Fun K "has_form" "has_form" s_has_form f fd) (b : Blt mg) (g : Glb mg) (c_is_in : Dfn P w K mg base 2 "is_in" ["value", "least", "most"] sp_is_in) (c_is_pair : Dfn P w K mg base 3 "is_pair" ["value", "size"] sp_is_pair) : FnOk P w K mg base CX0 4 f fd ["value"] sp_has_form := by
  refine F.ok sc_has_form (fun vs H Q E h => ?_) (fun cdv A outer s H vs Q E hr h => ?_)
  · obtain ⟨ds, d, ms, r, _, ⟨W, rfl, _⟩, _⟩ := h; exact r.len
  · obtain ⟨ds, d, ms, r, L, ⟨W, rfl, hW, rfl⟩, k⟩ := h
    have nd := sc_has_form.nd
    refine ⟨_, pss_cons (ps_if ((pw_or (pt_not (pt_val (pe_callB (call_isiK' K rfl) (by rfl) b.isinstance (by decide +kernel) (pa_cons (pv 0) (pa_cons (pe_bltn (v := .ty "tuple") (by rfl) b.tuple (by decide +kernel) rfl) pa_nil))))) (pw_or (pt_cmpR op_ne (pe_callB (call_lenK K rfl) (by rfl) b.len (by decide +kernel) (pa_cons (pv 0) pa_nil)) (pe_int) (nomark _)) (pw_or1 (pt_not (pt_val (pe_own c_is_in hr (pa_cons (pe_ix (ix_tupK K rfl) (pv 0) (pe_int) (fun _ _ => rfl)) (pa_cons (pe_int) (pa_cons (pe_gi g.MOST_FIELDS) pa_nil))))))))).pt) (pss_one (ps_ret (pe_bl))) (pss_nil)) (pss_cons (ps_if ((pw_or (pt_not (pt_val (pe_callB (call_isiK' K rfl) (by rfl) b.isinstance (by decide +kernel) (pa_cons (pe_ix (ix_tupK K rfl) (pv 0) (pe_int) (fun _ _ => rfl)) (pa_cons (pe_bltn (v := .ty "tuple") (by rfl) b.tuple (by decide +kernel) rfl) pa_nil))))) (pw_or1 (pt_not (pt_val (pe_callB (cr_allK K rfl rfl) (by rfl) b.all (by decide +kernel) (pa_cons (pe_lc (own := [("hedge", 3)]) rfl nd (pi_tupK K rfl (pe_ix (ix_tupK K rfl) (pv 0) (pe_int) (fun _ _ => rfl))) (blkOk_by (own := [("hedge", 3)]) (N := ["value", "one", "other", "hedge"]) (sc := (defScope s_has_form)) (by decide +kernel)) (fun _ _ _ _ _ => pg_name (i := 3) nd rfl (Or.inl rfl)) (fun _ _ _ _ _ => pts_nil) (fun _ _ _ _ _ => pe_own c_is_pair hr (pa_cons (pv 3) (pa_cons (pe_ix (ix_tupK K rfl) (pv 0) (pe_int) (fun _ _ => rfl)) pa_nil)))) pa_nil)))))).pt) (pss_one (ps_ret (pe_bl))) (pss_nil)) (pss_one (ps_ret (pe_callB (cr_allK K rfl rfl) (by rfl) b.all (by decide +kernel) (pa_cons (pe_lc (own := [("one", 1), ("other", 2)]) rfl nd (pi_zipK K rfl (by rfl) b.zip (pa_cons (pe_ix (ix_tupK K rfl) (pv 0) (pe_int) (fun _ _ => rfl)) (pa_cons (pe_slice (sl_tupK K rfl) (pe_ix (ix_tupK K rfl) (pv 0) (pe_int) (fun _ _ => rfl)) (po_some (pe_int)) po_none) pa_nil))) (blkOk_by (own := [("one", 1), ("other", 2)]) (N := ["value", "one", "other", "hedge"]) (sc := (defScope s_has_form)) (by decide +kernel)) (fun _ _ _ _ _ => pg_tupK (n := 2) K rfl rfl (pgs_cons (pg_name (i := 1) nd rfl (Or.inl rfl)) (pgs_cons (pg_name (i := 2) nd rfl (Or.inl rfl)) (pgs_nil)))) (fun _ _ _ _ _ => pts_nil) (fun _ _ _ _ _ => pe_cmpR (op_ltTK K rfl hr.units0) (pv 1) (pv 2) (nomark _))) pa_nil))))), ?_⟩
    obtain ⟨v1, rfl, r1⟩ := r.one
    refine q_no (t_is (et_or (et_not (t_B (e_isi (b := true) (e_var rfl r1) (.tup _) (by decide +kernel)))) fun _ => et_or (t_T (e_ne (e_lenT (e_var rfl r1)) e_int)) fun _ => et_not (t_B (e_call (a_cons (e_ixT (e_var rfl r1) e_int rfl) (a_cons e_int (a_cons e_int a_nil))) L ⟨_, _, _, rfl, rfl⟩))) ?_) fun H1 e1 => ?_
    · have := hW.pre.pos
      have := hW.pre.few
      have h1 : (1 : Int) ≤ (W.n : Int) := by omega
      have h2 : (W.n : Int) ≤ 60 := by omega
      simp only [h1, h2, decide_true]; rfl
    replace r1 := rp_keep e1 r1
    have L1 := L.mono e1
    have hz : (W.E.map dP).length ≤ 40000 := by have := hedges_few hW.pre; rw [List.length_map]; omega
    refine q_no (t_is (et_or (et_not (t_B (e_isi (b := true) (e_ixT (e_var rfl r1) e_int rfl) (.tup _) (by decide +kernel)))) fun _ => et_not (t_B (e_is (e_allD (xs := W.E.map dP) (f := fun _ => true) (e_map (fun _ => .bool true) (src_tup (e_ixT (e_var rfl r1) e_int rfl)) hz L1
      fun ms' d v H2 hd e2 ec L2 rv => ⟨_, fun Q q => q, rfl, ?_⟩)) rfl))) ?_) fun H3 e3 => ?_
    · obtain ⟨p, hp, rfl⟩ := List.mem_map.mp hd
      have hb := hW.pre.bnd p hp
      exact e_call (a_cons (e_var rfl rv) (a_cons (e_ixT (e_var rfl (r1.mono ec)) e_int rfl) a_nil)) L2 ⟨p.1, p.2, W.n, rfl, by omega, by omega, by omega, rfl⟩
    · simp
    replace r1 := rp_keep e3 r1
    replace L1 := L1.mono e3
    refine s_ret (e_is (e_allD (xs := zipD (W.E.map dP) (cutD (W.E.map dP) (some 1) none)) (f := fun _ => true) (e_map (fun _ => .bool true) (src_zipAT (a_cons (e_ixT (e_var rfl r1) e_int rfl) (a_cons (e_slT (e_ixT (e_var rfl r1) e_int rfl) (eo_some (ms := []) e_int) eo_none L1) a_nil))) ?_ L1
      fun ms' d v H2 hd e2 ec L2 rv => ?_)) (by simp)) fun v H2 e2 p => k v H2 ((e1.trans e3).trans e2) p
    · rw [zipD_len]
      exact Nat.le_trans (Nat.min_le_left _ _) hz
    · have c1 : cutD (W.E.map dP) (some 1) none = (W.E.map dP).drop 1 := cutD_from (k := 1)
      rw [c1] at hd
      obtain ⟨i, x, y, hx, hy, rfl⟩ := zipD_mem hd
      rw [List.getElem?_drop, List.getElem?_map] at hy
      rw [List.getElem?_map] at hx
      obtain ⟨px, hpx, rfl⟩ := Option.map_eq_some_iff.mp hx
      obtain ⟨py, hpy, rfl⟩ := Option.map_eq_some_iff.mp hy
      obtain ⟨x', y', rx, ry, hg⟩ := g_tup2 (ma := 1) (mb := 2) cut_le rv
      refine ⟨_, fun Q q => hg _ Q q, rfl, e_is (e_ltT (ns := [(px.1 : Int), (px.2 : Int)]) (ks := [(py.1 : Int), (py.2 : Int)]) (e_var rfl rx) (e_var rfl ry)) ?_⟩
      have hl : lexP px py := by
        obtain ⟨h1, e1⟩ := List.getElem?_eq_some_iff.mp hpx
        obtain ⟨h2, e2⟩ := List.getElem?_eq_some_iff.mp hpy
        have := List.pairwise_iff_getElem.mp hW.srt i (1 + i) h1 h2 (by omega)
        rw [e1, e2] at this
        exact this
      congr 1
      rcases hl with hl | ⟨hl, hl2⟩
      · have : ¬ (px.1 : Int) = (py.1 : Int) := by omega
        simp [HT.lexLt, this]; omega
      · simp [HT.lexLt, hl]; omega
end
end T

set_option Elab.async false
set_option linter.all false
set_option maxRecDepth 100000
set_option maxHeartbeats 4000000
namespace T
open PySem PySem.Spec PyProof.Rows L2 RZ G M
open Evl (Ex EvT et_or et_not et_and)
section
variable {P : Program} {w : World} {K : PySem.W.Frag} {mg : Str → Option Value} {base : Heap} {f : Addr} {fd : FuncData}
def sp_nears : Sp := PSm fun ds d => ∃ W : Web, ds = [dW W] ∧ W.Pre ∧ d = dNears W
abbrev s_nears_of : Stmt := topS 13
theorem sc_nears_of : FnScope ["web", "found", "one", "other", "field", "told"] ["web"] (defScope s_nears_of) := ⟨rfl, rfl, rfl, by decide +kernel, rfl, by decide +kernel, by decide +kernel⟩
theorem ok_nears_of (F : Fun K "nears_of" "nears_of" s_nears_of f fd) (b : Blt mg) : FnOk P w K mg base CX0 1 f fd ["web"] sp_nears := by
  refine F.ok sc_nears_of (fun vs H Q E h => ?_) (fun cdv A outer s H vs Q E hr h => ?_)
  · obtain ⟨ds, d, ms, r, _, ⟨W, rfl, _⟩, _⟩ := h; exact r.len
  · obtain ⟨ds, d, ms, r, L, ⟨W, rfl, hW, rfl⟩, k⟩ := h
    have nd := sc_nears_of.nd
    refine ⟨_, pss_cons (ps_setLc (i := 1) (own := [("field", 4)]) rfl nd rfl rfl (sw_true rfl rfl rfl (by decide +kernel)) (pi_range1 (by rfl) b.range (pa_cons (pe_ix (ix_tupK K rfl) (pv 0) (pe_int) (fun _ _ => rfl)) pa_nil)) (blkOk_by (own := [("field", 4)]) (N := ["web", "found", "one", "other", "field", "told"]) (sc := (defScope s_nears_of)) (by decide +kernel)) (fun _ _ _ _ _ => pg_name (i := 4) nd rfl (Or.inl rfl)) (fun _ _ _ _ _ => pts_nil) (fun _ _ _ _ _ => pe_lst pa_nil)) (pss_cons (ps_for PassesOwn.never rfl (pi_tupK K rfl (pe_ix (ix_tupK K rfl) (pv 0) (pe_int) (fun _ _ => rfl))) (pg_tupK (n := 2) K rfl rfl (pgs_cons (pg_name (i := 2) nd rfl (Or.inl rfl)) (pgs_cons (pg_name (i := 3) nd rfl (Or.inl rfl)) (pgs_nil)))) (pss_cons (ps_expr (pe_bm PySem.F.plainAttrs_list PySem.F.slot_list_append PySem.F.type_list_append mt_append (pe_ix (ix_listK K rfl) (pv 1) (pv 2) (fun _ _ => rfl)) (pa_cons (pv 3) pa_nil))) (pss_one (ps_expr (pe_bm PySem.F.plainAttrs_list PySem.F.slot_list_append PySem.F.type_list_append mt_append (pe_ix (ix_listK K rfl) (pv 1) (pv 3) (fun _ _ => rfl)) (pa_cons (pv 2) pa_nil)))))) (pss_one (ps_ret (pe_lc (own := [("told", 5)]) rfl nd (pi_listK K rfl (pv 1)) (blkOk_by (own := [("told", 5)]) (N := ["web", "found", "one", "other", "field", "told"]) (sc := (defScope s_nears_of)) (by decide +kernel)) (fun _ _ _ _ _ => pg_name (i := 5) nd rfl (Or.inl rfl)) (fun _ _ _ _ _ => pts_nil) (fun _ _ _ _ _ => pe_callB (cr_sortedIK K rfl) (by rfl) b.sorted (by decide +kernel) (pa_cons (pv 5) pa_nil)))))), ?_⟩
    obtain ⟨v1, rfl, r1⟩ := r.one
    have hn := hW.few
    refine q_asg (n_lists (a_cons (e_ixT (e_var rfl r1) e_int rfl) a_nil) (by omega) (fun _ => rfl)) fun v H1 e1 ⟨p, ps, hv, g0, hnew⟩ => ?_
    subst hv
    have r2 : Rp (cut H1 ((p :: ps) ++ ms)) v1 (dW W) := r1.mono (cut_more hnew e1)
    have L1 : Live H1 ((p :: ps) ++ ms) := Live.app g0.live (L.mono e1)
    rw [show ((W.n : Int)).toNat = W.n by omega] at g0
    refine s_seqfor (src_tup (e_ixT (e_var rfl r2) e_int rfl)) (fun B i σ' H' => ∃ y2 y3, σ' = [some v1, some (.ref p), y2, y3, none, none] ∧ Grid H' p ps W.n (fun k => nI (ap (W.E.take i) k)) ∧ Ex (cut B ((p :: ps) ++ ms)) H' ∧ Ex H H') (fun H2 e2 => ?_) (fun B i σ' H' _ _ ⟨_, _, _, _, h, _⟩ => h) ?_ ?_
    · exact ⟨none, none, rfl, (g0.mono e2).congr (fun k _ => by simp [ap, nI]), cut_le, e1.trans e2⟩
    · rintro B i d v σ' Hc H' eB hd ⟨y2, y3, rfl, g, eb, eH⟩ ec hr
      rw [List.getElem?_map] at hd
      obtain ⟨q, hq, rfl⟩ := Option.map_eq_some_iff.mp hd
      have Lc : Live Hc ((p :: ps) ++ ms) := Live.app g.live (L.mono eH)
      obtain ⟨x, y, rx, ry, hg⟩ := g_tup2 (ma := 2) (mb := 3) cut_le (hr _ (ex_cut_in eb) Lc)
      refine hg _ _ ?_
      have hb := hW.bnd q (List.mem_of_getElem? hq)
      have g' := g.mono ec
      obtain ⟨q1, h1, m1, row1, up1⟩ := g'.app (a := q.1) (x := (q.2 : Int)) (by omega)
      refine q_app (e_row (e_ref rfl) g' (e_var rfl rx) h1) row1 (List.mem_append_left _ (List.mem_cons_of_mem _ m1)) (e_var rfl ry) ?_ fun v2 H2 e2 r2 => ?_
      · rw [List.length_map, nI_len]
        have h7 : (ap (W.E.take i) q.1).length ≤ (W.E.take i).length := ap_len
        have := List.length_take (i := i) (l := W.E)
        have := hedges_few hW
        omega
      cases r2.int_of
      have g2 := up1 H2 e2
      have rx2 : Rp (cut (upd H2 q1 (.lst ((nI (ap (W.E.take i) q.1)).map V.int ++ [.int q.2]))) ((p :: ps) ++ ms)) x (dN q.1) := by
        rw [cut_upd (List.mem_append_left _ (List.mem_cons_of_mem _ m1))]; exact rp_keep e2 rx
      have ry2 : Rp (cut (upd H2 q1 (.lst ((nI (ap (W.E.take i) q.1)).map V.int ++ [.int q.2]))) ((p :: ps) ++ ms)) y (dN q.2) := by
        rw [cut_upd (List.mem_append_left _ (List.mem_cons_of_mem _ m1))]; exact rp_keep e2 ry
      obtain ⟨q2, h3, m2, row2, up2⟩ := g2.app (a := q.2) (x := (q.1 : Int)) (by omega)
      refine s_app (e_row (e_ref rfl) g2 (e_var rfl ry2) h3) row2 (List.mem_append_left _ (List.mem_cons_of_mem _ m2)) (e_var rfl rx2) ?_ fun v3 H3 e3 r3 => ?_
      · rw [List.length_map, if_neg (by omega), nI_len]
        have h7 : (ap (W.E.take i) q.2).length ≤ (W.E.take i).length := ap_len
        have := List.length_take (i := i) (l := W.E)
        have := hedges_few hW
        omega
      cases r3.int_of
      refine ⟨some x, some y, rfl, (up2 H3 e3).congr fun k hk => ?_, ?_, ?_⟩
      · exact ap_turn hq hb.1
      · exact ex_cut_upd ((ex_cut_upd ((eb.trans ec).trans e2) (List.mem_append_left _ (List.mem_cons_of_mem _ m1))).trans e3) (List.mem_append_left _ (List.mem_cons_of_mem _ m2))
      · exact Ex.mut ((Ex.mut ((eH.trans ec).trans e2) (hnew _ (List.mem_cons_of_mem _ m1))).trans e3) (hnew _ (List.mem_cons_of_mem _ m2))
    · rintro B σ' H' eB ⟨y2, y3, rfl, g, eb, eH⟩
      rw [List.length_map, List.take_length] at g
      have rp := g.rp (ms := ms) (fun q hq => L.out (hnew q hq))
      refine s_ret (e_is (e_mapT (xs := List.range W.n) (fun k => dNs (W.nb k)) (src_list (e_var rfl rp)) (by simp; omega) (L.mono eH) fun ms' a v2 H2 ha e2 ec2 L2' rv => ⟨_, fun Q q => q, rfl, ?_⟩) ?_) fun v2 H2 e2 p2 => k v2 H2 (eH.trans e2) p2
      · exact e_is (e_sortedI (e_var rfl rv) L2') (by rw [srt_ap hW])
      · show PyData.list ((List.range W.n).map fun k => dNs (W.nb k)) = PyData.list (((List.range W.n).map W.nb).map dNs)
        rw [List.map_map]; rfl
abbrev s__law_nears : Stmt := topS 60
theorem sc__law_nears : FnScope ["_law_web_here", "_law_found", "_law_one", "_law_other", "_law_field", "_law_told"] ["_law_web_here"] (defScope s__law_nears) := ⟨rfl, rfl, rfl, by decide +kernel, rfl, by decide +kernel, by decide +kernel⟩
theorem ok__law_nears (F : Fun K "_law_nears" "_law_nears" s__law_nears f fd) (b : Blt mg) : FnOk P w K mg base CX0 1 f fd ["_law_web_here"] sp_nears := by
  refine F.ok sc__law_nears (fun vs H Q E h => ?_) (fun cdv A outer s H vs Q E hr h => ?_)
  · obtain ⟨ds, d, ms, r, _, ⟨W, rfl, _⟩, _⟩ := h; exact r.len
  · obtain ⟨ds, d, ms, r, L, ⟨W, rfl, hW, rfl⟩, k⟩ := h
    have nd := sc__law_nears.nd
    refine ⟨_, pss_cons (ps_setLc (i := 1) (own := [("_law_field", 4)]) rfl nd rfl rfl (sw_true rfl rfl rfl (by decide +kernel)) (pi_range1 (by rfl) b.range (pa_cons (pe_ix (ix_tupK K rfl) (pv 0) (pe_int) (fun _ _ => rfl)) pa_nil)) (blkOk_by (own := [("_law_field", 4)]) (N := ["_law_web_here", "_law_found", "_law_one", "_law_other", "_law_field", "_law_told"]) (sc := (defScope s__law_nears)) (by decide +kernel)) (fun _ _ _ _ _ => pg_name (i := 4) nd rfl (Or.inl rfl)) (fun _ _ _ _ _ => pts_nil) (fun _ _ _ _ _ => pe_lst pa_nil)) (pss_cons (ps_for PassesOwn.never rfl (pi_tupK K rfl (pe_ix (ix_tupK K rfl) (pv 0) (pe_int) (fun _ _ => rfl))) (pg_tupK (n := 2) K rfl rfl (pgs_cons (pg_name (i := 2) nd rfl (Or.inl rfl)) (pgs_cons (pg_name (i := 3) nd rfl (Or.inl rfl)) (pgs_nil)))) (pss_cons (ps_expr (pe_bm PySem.F.plainAttrs_list PySem.F.slot_list_append PySem.F.type_list_append mt_append (pe_ix (ix_listK K rfl) (pv 1) (pv 2) (fun _ _ => rfl)) (pa_cons (pv 3) pa_nil))) (pss_one (ps_expr (pe_bm PySem.F.plainAttrs_list PySem.F.slot_list_append PySem.F.type_list_append mt_append (pe_ix (ix_listK K rfl) (pv 1) (pv 3) (fun _ _ => rfl)) (pa_cons (pv 2) pa_nil)))))) (pss_one (ps_ret (pe_lc (own := [("_law_told", 5)]) rfl nd (pi_listK K rfl (pv 1)) (blkOk_by (own := [("_law_told", 5)]) (N := ["_law_web_here", "_law_found", "_law_one", "_law_other", "_law_field", "_law_told"]) (sc := (defScope s__law_nears)) (by decide +kernel)) (fun _ _ _ _ _ => pg_name (i := 5) nd rfl (Or.inl rfl)) (fun _ _ _ _ _ => pts_nil) (fun _ _ _ _ _ => pe_callB (cr_sortedIK K rfl) (by rfl) b.sorted (by decide +kernel) (pa_cons (pv 5) pa_nil)))))), ?_⟩
    obtain ⟨v1, rfl, r1⟩ := r.one
    have hn := hW.few
    refine q_asg (n_lists (a_cons (e_ixT (e_var rfl r1) e_int rfl) a_nil) (by omega) (fun _ => rfl)) fun v H1 e1 ⟨p, ps, hv, g0, hnew⟩ => ?_
    subst hv
    have r2 : Rp (cut H1 ((p :: ps) ++ ms)) v1 (dW W) := r1.mono (cut_more hnew e1)
    have L1 : Live H1 ((p :: ps) ++ ms) := Live.app g0.live (L.mono e1)
    rw [show ((W.n : Int)).toNat = W.n by omega] at g0
    refine s_seqfor (src_tup (e_ixT (e_var rfl r2) e_int rfl)) (fun B i σ' H' => ∃ y2 y3, σ' = [some v1, some (.ref p), y2, y3, none, none] ∧ Grid H' p ps W.n (fun k => nI (ap (W.E.take i) k)) ∧ Ex (cut B ((p :: ps) ++ ms)) H' ∧ Ex H H') (fun H2 e2 => ?_) (fun B i σ' H' _ _ ⟨_, _, _, _, h, _⟩ => h) ?_ ?_
    · exact ⟨none, none, rfl, (g0.mono e2).congr (fun k _ => by simp [ap, nI]), cut_le, e1.trans e2⟩
    · rintro B i d v σ' Hc H' eB hd ⟨y2, y3, rfl, g, eb, eH⟩ ec hr
      rw [List.getElem?_map] at hd
      obtain ⟨q, hq, rfl⟩ := Option.map_eq_some_iff.mp hd
      have Lc : Live Hc ((p :: ps) ++ ms) := Live.app g.live (L.mono eH)
      obtain ⟨x, y, rx, ry, hg⟩ := g_tup2 (ma := 2) (mb := 3) cut_le (hr _ (ex_cut_in eb) Lc)
      refine hg _ _ ?_
      have hb := hW.bnd q (List.mem_of_getElem? hq)
      have g' := g.mono ec
      obtain ⟨q1, h1, m1, row1, up1⟩ := g'.app (a := q.1) (x := (q.2 : Int)) (by omega)
      refine q_app (e_row (e_ref rfl) g' (e_var rfl rx) h1) row1 (List.mem_append_left _ (List.mem_cons_of_mem _ m1)) (e_var rfl ry) ?_ fun v2 H2 e2 r2 => ?_
      · rw [List.length_map, nI_len]
        have h7 : (ap (W.E.take i) q.1).length ≤ (W.E.take i).length := ap_len
        have := List.length_take (i := i) (l := W.E)
        have := hedges_few hW
        omega
      cases r2.int_of
      have g2 := up1 H2 e2
      have rx2 : Rp (cut (upd H2 q1 (.lst ((nI (ap (W.E.take i) q.1)).map V.int ++ [.int q.2]))) ((p :: ps) ++ ms)) x (dN q.1) := by
        rw [cut_upd (List.mem_append_left _ (List.mem_cons_of_mem _ m1))]; exact rp_keep e2 rx
      have ry2 : Rp (cut (upd H2 q1 (.lst ((nI (ap (W.E.take i) q.1)).map V.int ++ [.int q.2]))) ((p :: ps) ++ ms)) y (dN q.2) := by
        rw [cut_upd (List.mem_append_left _ (List.mem_cons_of_mem _ m1))]; exact rp_keep e2 ry
      obtain ⟨q2, h3, m2, row2, up2⟩ := g2.app (a := q.2) (x := (q.1 : Int)) (by omega)
      refine s_app (e_row (e_ref rfl) g2 (e_var rfl ry2) h3) row2 (List.mem_append_left _ (List.mem_cons_of_mem _ m2)) (e_var rfl rx2) ?_ fun v3 H3 e3 r3 => ?_
      · rw [List.length_map, if_neg (by omega), nI_len]
        have h7 : (ap (W.E.take i) q.2).length ≤ (W.E.take i).length := ap_len
        have := List.length_take (i := i) (l := W.E)
        have := hedges_few hW
        omega
      cases r3.int_of
      refine ⟨some x, some y, rfl, (up2 H3 e3).congr fun k hk => ?_, ?_, ?_⟩
      · exact ap_turn hq hb.1
      · exact ex_cut_upd ((ex_cut_upd ((eb.trans ec).trans e2) (List.mem_append_left _ (List.mem_cons_of_mem _ m1))).trans e3) (List.mem_append_left _ (List.mem_cons_of_mem _ m2))
      · exact Ex.mut ((Ex.mut ((eH.trans ec).trans e2) (hnew _ (List.mem_cons_of_mem _ m1))).trans e3) (hnew _ (List.mem_cons_of_mem _ m2))
    · rintro B σ' H' eB ⟨y2, y3, rfl, g, eb, eH⟩
      rw [List.length_map, List.take_length] at g
      have rp := g.rp (ms := ms) (fun q hq => L.out (hnew q hq))
      refine s_ret (e_is (e_mapT (xs := List.range W.n) (fun k => dNs (W.nb k)) (src_list (e_var rfl rp)) (by simp; omega) (L.mono eH) fun ms' a v2 H2 ha e2 ec2 L2' rv => ⟨_, fun Q q => q, rfl, ?_⟩) ?_) fun v2 H2 e2 p2 => k v2 H2 (eH.trans e2) p2
      · exact e_is (e_sortedI (e_var rfl rv) L2') (by rw [srt_ap hW])
      · show PyData.list ((List.range W.n).map fun k => dNs (W.nb k)) = PyData.list (((List.range W.n).map W.nb).map dNs)
        rw [List.map_map]; rfl
end
end T

set_option Elab.async false
set_option linter.all false
set_option maxRecDepth 100000
set_option maxHeartbeats 4000000
namespace T
open PySem PySem.Spec PyProof.Rows L2 RZ G M
open Evl (Ex EvT et_or et_not et_and)
section
variable {P : Program} {w : World} {K : PySem.W.Frag} {mg : Str → Option Value} {base : Heap} {f : Addr} {fd : FuncData}
/-- distances in a web in one piece -/
def sp_dist : Sp := PSm fun ds d => ∃ (W : Web) (s : Nat), ds = [dW W, dN s] ∧ W.Pre ∧ s < W.n ∧ (∃ d, IsD W s d) ∧ d = dDist W s
abbrev s_reach_of : Stmt := topS 14
theorem sc_reach_of : FnScope ["web", "first", "nears", "found", "line", "at", "field"] ["web", "first"] (defScope s_reach_of) := ⟨rfl, rfl, rfl, by decide +kernel, rfl, by decide +kernel, by decide +kernel⟩
theorem ok_reach_of (F : Fun K "reach_of" "reach_of" s_reach_of f fd) (b : Blt mg) (c_nears_of : Dfn P w K mg base 1 "nears_of" ["web"] sp_nears) : FnOk P w K mg base CX0 2 f fd ["web", "first"] sp_dist := by
  refine F.ok sc_reach_of (fun vs H Q E h => ?_) (fun cdv A outer s H vs Q E hr h => ?_)
  · obtain ⟨ds, d, ms, r, _, ⟨W, s, rfl, _⟩, _⟩ := h; exact r.len
  · obtain ⟨ds, d, ms, r, L, ⟨W, s, rfl, hW, hs, hd, rfl⟩, k⟩ := h
    have nd := sc_reach_of.nd
    have D := dist_is hd
    refine ⟨_, pss_cons (ps_par3 (i := 2) (j := 3) (l := 4) rfl nd rfl rfl rfl (by decide) (by decide) (by decide) rfl rfl rfl (pa_cons (pe_own c_nears_of hr (pa_cons (pv 0) pa_nil)) (pa_cons (pe_op op_rep (pe_lst (pa_cons (pe_non) pa_nil)) (pe_ix (ix_tupK K rfl) (pv 0) (pe_int) (fun _ _ => rfl))) (pa_cons (pe_lst (pa_cons (pv 1) pa_nil)) pa_nil))) (by rfl)) (pss_cons (ps_asg (pe_int) (pg_sub (pv 3) (pv 1) set_list)) (pss_cons (ps_set (i := 5) nd rfl (Or.inl rfl) (pe_int)) (pss_cons (ps_while PassesOwn.never (pt_cmpR op_lt (pv 5) (pe_callB (call_lenK K rfl) (by rfl) b.len (by decide +kernel) (pa_cons (pv 4) pa_nil)) (nomark _)) (pss_cons (ps_for PassesOwn.never rfl (pi_listK K rfl (pe_ix (ix_listK K rfl) (pv 2) (pe_ix (ix_listK K rfl) (pv 4) (pv 5) (fun _ _ => rfl)) (fun _ _ => rfl))) (pg_name (i := 6) nd rfl (Or.inl rfl)) (pss_one (ps_if (pt_cmpR op_isN (pe_ix (ix_listK K rfl) (pv 3) (pv 6) (fun _ _ => rfl)) pe_non (nomark _)) (pss_cons (ps_asg (pe_op op_add (pe_ix (ix_listK K rfl) (pv 3) (pe_ix (ix_listK K rfl) (pv 4) (pv 5) (fun _ _ => rfl)) (fun _ _ => rfl)) (pe_int)) (pg_sub (pv 3) (pv 6) set_list)) (pss_one (ps_expr (pe_bm PySem.F.plainAttrs_list PySem.F.slot_list_append PySem.F.type_list_append mt_append (pv 4) (pa_cons (pv 6) pa_nil))))) (pss_nil)))) (pss_one (ps_aug (i := 5) nd rfl (Or.inl rfl) (pe_int) ip_add)))) (pss_one (ps_ret (pv 3)))))), ?_⟩
    obtain ⟨v1, v2, rfl, r1, r2⟩ := r.two
    have hn := hW.few
    cases r2.int_of
    refine e_call (a_cons (e_var rfl r1) a_nil) L ⟨W, rfl, hW, rfl⟩ H (Ex.refl _) _ fun vn H1 e1 rn => ?_
    refine n_nones (e_ixT (e_var rfl (rp_keep e1 r1)) e_int rfl) (by omega) H1 (Ex.refl _) _ fun vf H2 e2 ⟨pf, hv, nf, hf⟩ => ?_
    subst hv
    refine n_one (e_ref rfl) H2 (Ex.refl _) _ fun vl H3 e3 ⟨pl, hv, nl, hl⟩ => ?_
    subst hv
    refine ⟨_, _, _, rfl, ?_⟩
    rw [show ((W.n : Int)).toNat = W.n by omega] at hf
    have hfl : pf ≠ pl := ne_of_none hf nl
    have hf3 := e3 _ _ hf
    have rn3 : Rp (cut H3 (pf :: pl :: ms)) vn (dNears W) := rn.mono (cut_more (qs := [pf, pl]) (fun q hq => by
      rcases List.mem_cons.mp hq with rfl | hq
      · exact nf
      · cases List.mem_singleton.mp hq; exact Evl.fresh_back e2 nl) (e2.trans e3))
    have eH3 : Ex H H3 := (e1.trans e2).trans e3
    have nfH : H pf = none := Evl.fresh_back e1 nf
    have nlH : H pl = none := Evl.fresh_back (e1.trans e2) nl
    -- found[first] = 0
    refine q_setV (ms := []) (k := s) hf3 v_int (e_ref rfl) (e_var rfl (.int _)) (by rw [List.length_replicate]; exact hs) fun H4 e4 => ?_
    have e00 : (List.replicate W.n V.non).set s (.int 0) = fv W.n (W.dist s) [s] := by
      have := fv_set (n := W.n) (d := W.dist s) (ln := []) (x := s) hs
      rw [fv_nil, D.s0] at this
      exact this
    rw [e00]
    have hl4 : (upd H4 pf (.lst (fv W.n (W.dist s) [s]))) pl = some (.lst ((nI [s]).map V.int)) := by rw [upd_ne hfl.symm]; exact e4 _ _ hl
    have rn4 : Rp (cut (upd H4 pf (.lst (fv W.n (W.dist s) [s]))) (pf :: pl :: ms)) vn (dNears W) := by rw [cut_upd List.mem_cons_self]; exact rp_keep e4 rn3
    have eH4 : Ex H (upd H4 pf (.lst (fv W.n (W.dist s) [s]))) := Ex.mut (eH3.trans e4) nfH
    -- at = 0
    refine q_val v_int fun H5 e5 => ?_
    refine q_while (fun m σ' H' => ∃ (ln : List Nat) (a : Nat) (y6 : Option V), m = W.n - a ∧ σ' = [some v1, some (.int (s : Int)), some vn, some (.ref pf), some (.ref pl), some (.int (a : Int)), y6] ∧ Bfs W s (W.dist s) ln a ∧
      H' pf = some (.lst (fv W.n (W.dist s) ln)) ∧ H' pl = some (.lst ((nI ln).map V.int)) ∧ Rp (cut H' (pf :: pl :: ms)) vn (dNears W) ∧ Ex H H') W.n ⟨[s], 0, none, rfl, rfl, Bfs.start D hW hs, e5 _ _ upd_same, e5 _ _ hl4, rp_keep e5 rn4, eH4.trans e5⟩ ?_
    rintro m σ' H' ⟨ln, a, y6, rfl, rfl, B, hf, hl, rn, eH⟩
    refine ⟨_, t_T (e_B0 (e_var (ms := []) rfl (.int _)) (e_lenM (e_ref rfl) hl)), fun hlt H6 e6 => ?_, fun hge H6 e6 => ?_⟩
    · rw [List.length_map, nI_len] at hlt
      have hlt : (a : Int) < (ln.length : Int) := of_decide_eq_true hlt
      have ha : a < ln.length := by omega
      have hy : ln[a]? = some ln[a] := List.getElem?_eq_getElem ha
      generalize ln[a] = y at hy
      have hyn : y < W.n := B.lt y (List.mem_of_getElem? hy)
      have hlen : ln.length ≤ W.n := B.few
      refine ⟨_, fun _ _ h => h, ?_⟩
      have hl6 := e6 _ _ hl
      have hat : ((nI ln).map V.int)[a]? = some (.int (y : Int)) := by rw [List.getElem?_map, nI_get, hy]; rfl
      refine s_seqfor (ms := pf :: pl :: ms) (ds := (nI (W.nb y)).map PyData.int) (src_list (e_ixL (e_var rfl (rp_keep e6 rn)) ((v_ixM (ms := []) (e_ref rfl) hl6 (e_var rfl (.int _)) hat).ed (.int _)) (atI_nat (by rw [List.getElem?_map, nears_get hyn]; rfl))))
        (fun H1 j σ' H' => ∃ (ln' : List Nat) (y6 : Option V), σ' = [some v1, some (.int (s : Int)), some vn, some (.ref pf), some (.ref pl), some (.int (a : Int)), y6] ∧ BfsIn W s (W.dist s) ln' a y j ∧
          H' pf = some (.lst (fv W.n (W.dist s) ln')) ∧ H' pl = some (.lst ((nI ln').map V.int)) ∧ Ex (cut H1 (pf :: pl :: ms)) H' ∧ Ex H H') ?_ (fun H1 j σ' H' _ _ ⟨_, _, _, _, _, _, h, _⟩ => h) ?_ ?_
      · exact fun H1 e1 => ⟨ln, y6, rfl, B.open hy, e1 _ _ (e6 _ _ hf), e1 _ _ hl6, cut_le, (eH.trans e6).trans e1⟩
      · rintro H1 j d v σ' Hc H' eH1 hd ⟨ln', y6, rfl, BI, hf', hl', eb, eHc⟩ ec hr
        rw [List.getElem?_map, nI_get] at hd
        obtain ⟨z, hz, rfl⟩ := Option.map_eq_some_iff.mp hd
        obtain ⟨u, hu, rfl⟩ := Option.map_eq_some_iff.mp hz
        have Lc : Live Hc (pf :: pl :: ms) := Live.app (qs := [pf, pl]) (fun q hq => by
          rcases List.mem_cons.mp hq with rfl | hq
          · exact ⟨_, hf'⟩
          · cases List.mem_singleton.mp hq; exact ⟨_, hl'⟩) (L.mono eHc)
        cases (hr _ (ex_cut_in eb) Lc).int_of
        have hun : u < W.n := (adj_lt hW ((mem_nb hW).mp (List.mem_of_getElem? hu))).2.1
        have hf'' := ec _ _ hf'
        have hl'' := ec _ _ hl'
        show tIfS _ _ _ _ _ _
        by_cases hm : u ∈ ln'
        · have q0 := fv_get (n := W.n) (d := W.dist s) (ln := ln') hun
          rw [if_pos hm] at q0
          refine s_if (e_isN_t ((v_ixM (ms := []) (e_ref rfl) hf'' (e_var rfl (.int _)) q0).ed (ms := []) (.int _))) (fun h => by cases h) fun _ H7 e7 => ?_
          exact ⟨ln', _, rfl, BI.skip hu hm, e7 _ _ hf'', e7 _ _ hl'', (eb.trans ec).trans e7, (eHc.trans ec).trans e7⟩
        · have q0 := fv_get (n := W.n) (d := W.dist s) (ln := ln') hun
          rw [if_neg hm] at q0
          refine s_if (e_isN_t ((v_ixM (ms := []) (e_ref rfl) hf'' (e_var rfl (.int _)) q0).ed (ms := []) .non)) (fun _ H7 e7 => ?_) fun h => by cases h
          obtain ⟨hdu, BN⟩ := BI.new D hW hu hm
          have hyl : ((nI ln').map V.int)[a]? = some (.int (y : Int)) := by rw [List.getElem?_map, nI_get, BI.y_at]; rfl
          have hym : y ∈ ln' := List.mem_of_getElem? BI.y_at
          have q1 := fv_get (n := W.n) (d := W.dist s) (ln := ln') hyn
          rw [if_pos hym] at q1
          have hf7 := e7 _ _ hf''
          have hl7 := e7 _ _ hl''
          refine q_setV (ms := []) (k := u) hf7 (EvP.val (ms := []) (e_I0 ((v_ixM (ms := []) (e_ref rfl) hf7 ((v_ixM (ms := []) (e_ref rfl) hl7 (e_var rfl (.int _)) hyl).ed (ms := []) (.int _)) q1).ed (.int _)) e_int)) (e_ref rfl) (e_var rfl (.int _)) (by rw [fv_len]; exact hun) fun H8 e8 => ?_
          have ed : ((W.dist s y : Int) + 1) = (W.dist s u : Int) := by omega
          rw [ed, fv_set hun]
          have hl8 : (upd H8 pf (.lst (fv W.n (W.dist s) (ln' ++ [u])))) pl = some (.lst ((nI ln').map V.int)) := by rw [upd_ne hfl.symm]; exact e8 _ _ hl7
          refine s_app (ms := pf :: pl :: ms) (e_ref rfl) hl8 (by simp) (e_var rfl (.int _)) (by rw [List.length_map, nI_len]; have := BI.few; omega) fun v9 H9 e9 r9 => ?_
          cases r9.int_of
          refine ⟨ln' ++ [u], _, rfl, BN, ?_, ?_, ?_, ?_⟩
          · rw [upd_ne hfl]; exact e9 _ _ upd_same
          · rw [upd_same, nI_app, List.map_append]; rfl
          · exact ex_cut_upd ((ex_cut_upd (((eb.trans ec).trans e7).trans e8) (by simp)).trans e9) (by simp)
          · exact Ex.mut ((Ex.mut (((eHc.trans ec).trans e7).trans e8) nfH).trans e9) nlH
      · rintro H1 σ' H' eH1 ⟨ln', y6, rfl, BI, hf', hl', eb, eHc⟩
        rw [List.length_map, nI_len] at BI
        refine G.s_aug rfl v_int fun H7 e7 => ?_
        have BC := BI.close D hW
        refine ⟨W.n - (a + 1), by have := BI.few; have := BC.le; omega, ln', a + 1, y6, rfl, by simp, BC, e7 _ _ hf', e7 _ _ hl', ?_, eHc.trans e7⟩
        exact (rn.mono (ex_cut (e6.trans eH1))).mono ((ex_cut_in eb).trans (ex_cut e7))
    · rw [List.length_map, nI_len] at hge
      have hge := of_decide_eq_false hge
      have ea : a = ln.length := by have := B.le; omega
      subst ea
      have all := B.all D hW
      rw [fv_all all] at hf
      have rf : Rp (cut H6 ms) (.ref pf) (dDist W s) := .lst (by rw [cut_out (L.out nfH)]; exact e6 _ _ hf) (RpAll.ints _)
      exact s_ret (e_var rfl rf) fun v H7 e7 p => k v H7 ((eH.trans e6).trans e7) p
abbrev s__law_far : Stmt := topS 61
theorem sc__law_far : FnScope ["_law_web_here", "_law_first", "_law_nears_here", "_law_found", "_law_rim", "_law_many", "_law_later", "_law_here", "_law_near"] ["_law_web_here", "_law_first"] (defScope s__law_far) := ⟨rfl, rfl, rfl, by decide +kernel, rfl, by decide +kernel, by decide +kernel⟩
theorem ok__law_far (F : Fun K "_law_far" "_law_far" s__law_far f fd) (b : Blt mg) (c__law_nears : Dfn P w K mg base 1 "_law_nears" ["_law_web_here"] sp_nears) : FnOk P w K mg base CX0 2 f fd ["_law_web_here", "_law_first"] sp_dist := by
  refine F.ok sc__law_far (fun vs H Q E h => ?_) (fun cdv A outer s H vs Q E hr h => ?_)
  · obtain ⟨ds, d, ms, r, _, ⟨W, s, rfl, _⟩, _⟩ := h; exact r.len
  · obtain ⟨ds, d, ms, r, L, ⟨W, s, rfl, hW, hs, hd, rfl⟩, k⟩ := h
    have nd := sc__law_far.nd
    have D := dist_is hd
    refine ⟨_, pss_cons (ps_asg (pe_tup (pa_cons (pe_own c__law_nears hr (pa_cons (pv 0) pa_nil)) (pa_cons (pe_op op_rep (pe_lst (pa_cons (pe_non) pa_nil)) (pe_ix (ix_tupK K rfl) (pv 0) (pe_int) (fun _ _ => rfl))) (pa_cons (pe_lst (pa_cons (pv 1) pa_nil)) (pa_cons (pe_int) pa_nil))))) (pg_tupK (n := 4) K rfl rfl (pgs_cons (pg_name (i := 2) nd rfl (Or.inl rfl)) (pgs_cons (pg_name (i := 3) nd rfl (Or.inl rfl)) (pgs_cons (pg_name (i := 4) nd rfl (Or.inl rfl)) (pgs_cons (pg_name (i := 5) nd rfl (Or.inl rfl)) (pgs_nil))))))) (pss_cons (ps_asg (pe_int) (pg_sub (pv 3) (pv 1) set_list)) (pss_cons (ps_while PassesOwn.never (pt_cmpR (op_neDK K rfl hr.units) (pv 4) (pe_lst pa_nil) (nomark _)) (pss_cons (ps_par (i := 5) (j := 6) rfl nd rfl rfl (by decide) rfl rfl (pa_cons (pe_op op_add (pv 5) (pe_int)) (pa_cons (pe_lst pa_nil) pa_nil)) (by rfl)) (pss_cons (ps_for PassesOwn.never rfl (pi_listK K rfl (pv 4)) (pg_name (i := 7) nd rfl (Or.inl rfl)) (pss_one (ps_for PassesOwn.never rfl (pi_listK K rfl (pe_ix (ix_listK K rfl) (pv 2) (pv 7) (fun _ _ => rfl))) (pg_name (i := 8) nd rfl (Or.inl rfl)) (pss_one (ps_if (pt_cmpR op_isN (pe_ix (ix_listK K rfl) (pv 3) (pv 8) (fun _ _ => rfl)) pe_non (nomark _)) (pss_cons (ps_asg (pv 5) (pg_sub (pv 3) (pv 8) set_list)) (pss_one (ps_expr (pe_bm PySem.F.plainAttrs_list PySem.F.slot_list_append PySem.F.type_list_append mt_append (pv 6) (pa_cons (pv 8) pa_nil))))) (pss_nil)))))) (pss_one (ps_set (i := 4) nd rfl (Or.inl rfl) (pv 6)))))) (pss_one (ps_ret (pv 3))))), ?_⟩
    obtain ⟨v1, v2, rfl, r1, r2⟩ := r.two
    have hn := hW.few
    cases r2.int_of
    refine e_call (a_cons (e_var rfl r1) a_nil) L ⟨W, rfl, hW, rfl⟩ H (Ex.refl _) _ fun vn H1 e1 rn => ?_
    refine n_nones (e_ixT (e_var rfl (rp_keep e1 r1)) e_int rfl) (by omega) H1 (Ex.refl _) _ fun vf H2 e2 ⟨pf, hv, nf, hf⟩ => ?_
    subst hv
    refine n_one (e_ref rfl) H2 (Ex.refl _) _ fun vl H3 e3 ⟨pl, hv, nl, hl⟩ => ?_
    subst hv
    have hpl : pl ≠ pf := (ne_of_none hf nl).symm
    refine ⟨by show 4 ≤ sizeLine; exact G.sz (by omega), fun pt npt => ?_⟩
    refine ⟨pt, _, rfl, SqT.of upd_same, rfl, _, _, rfl, _, _, rfl, _, _, rfl, _, _, rfl, rfl, ?_⟩
    rw [show ((W.n : Int)).toNat = W.n by omega] at hf
    have hf3 := Ex.new npt (o := .tup [vn, .ref pf, .ref pl, .int 0]) _ _ (e3 _ _ hf)
    have hl3 := Ex.new npt (o := .tup [vn, .ref pf, .ref pl, .int 0]) _ _ hl
    have nfH : H pf = none := Evl.fresh_back e1 nf
    have nlH : H pl = none := Evl.fresh_back (e1.trans e2) nl
    have e23 := (e2.trans e3).trans (Ex.new npt (o := .tup [vn, .ref pf, .ref pl, .int 0]))
    generalize upd H3 pt (.tup [vn, .ref pf, .ref pl, .int 0]) = H3' at *
    have rn3 : Rp (cut H3' (pf :: ms)) vn (dNears W) := rn.mono (cut_more (qs := [pf]) (fun q hq => by
      cases List.mem_singleton.mp hq; exact nf) e23)
    have eH3 : Ex H H3' := e1.trans e23
    have rl3 : Rp (cut H3' (pf :: ms)) (.ref pl) (dNs [s]) := .lst (by
      rw [cut_out]
      · exact hl3
      · intro z
        rcases List.mem_cons.mp z with z | z
        · exact hpl z
        · exact L.out nlH z) (RpAll.ints _)
    -- found[first] = 0
    refine q_setV (ms := []) (k := s) hf3 v_int (e_ref rfl) (e_var rfl (.int _)) (by rw [List.length_replicate]; exact hs) fun H4 e4 => ?_
    have e00 : (List.replicate W.n V.non).set s (.int 0) = fv W.n (W.dist s) [s] := by
      have := fv_set (n := W.n) (d := W.dist s) (ln := []) (x := s) hs
      rw [fv_nil, D.s0] at this
      exact this
    rw [e00]
    have rn4 : Rp (cut (upd H4 pf (.lst (fv W.n (W.dist s) [s]))) (pf :: ms)) vn (dNears W) := by rw [cut_upd List.mem_cons_self]; exact rp_keep e4 rn3
    have rl4 : Rp (cut (upd H4 pf (.lst (fv W.n (W.dist s) [s]))) (pf :: ms)) (.ref pl) (dNs [s]) := by rw [cut_upd List.mem_cons_self]; exact rp_keep e4 rl3
    have eH4 : Ex H (upd H4 pf (.lst (fv W.n (W.dist s) [s]))) := Ex.mut (eH3.trans e4) nfH
    obtain ⟨N, hN⟩ := d_bound W.n (W.dist s)
    refine q_while (fun m σ' H' => ∃ (rim ln : List Nat) (a : Nat) (vr : V) (y6 y7 y8 : Option V), m = N + 1 - a ∧ σ' = [some v1, some (.int (s : Int)), some vn, some (.ref pf), some vr, some (.int (a : Int)), y6, y7, y8] ∧ Rim W (W.dist s) rim a ∧ (∀ x, x < W.n → (x ∈ ln ↔ W.dist s x ≤ a)) ∧
      H' pf = some (.lst (fv W.n (W.dist s) ln)) ∧ Rp (cut H' (pf :: ms)) vr (dNs rim) ∧ Rp (cut H' (pf :: ms)) vn (dNears W) ∧ Ex H H') (N + 1) ⟨[s], [s], 0, .ref pl, none, none, none, rfl, rfl, Rim.start D hs, fun x hx => by
        have := (Rim.start D hs).mem x
        rw [this]
        exact ⟨fun h => by omega, fun h => ⟨hx, by omega⟩⟩, upd_same, rl4, rn4, eH4⟩ ?_
    rintro m σ' H' ⟨rim, ln, a, vr, y6, y7, y8, rfl, rfl, R, hln, hf, rr, rn, eH⟩
    have L' : Live H' (pf :: ms) := (L.mono eH).cons hf
    refine ⟨_, t_T (e_neDp (e_var rfl rr) (e_lst a_nil (by simp) L') (shaped_I _) shaped_nil), fun hne H6 e6 => ?_, fun hem H6 e6 => ?_⟩
    · have hrim : rim ≠ [] := fun z => by subst z; exact absurd hne (by decide)
      obtain ⟨x0, hx0⟩ := List.exists_mem_of_ne_nil _ hrim
      have hx0' := (R.mem x0).mp hx0
      have haN : a ≤ N := by have := hN x0 hx0'.1; omega
      refine ⟨_, fun _ _ h => h, ?_⟩
      -- many, later = many + 1, []
      refine EvP.val (ms := []) (e_I0 (e_var rfl (.int _)) e_int) H6 (Ex.refl _) _ fun w1 H7 e7 hw => ?_
      subst hw
      refine n_nil H7 (Ex.refl _) _ fun w2 H8 e8 ⟨pt', hw, npt', hp'⟩ => ?_
      subst hw
      refine ⟨_, _, rfl, ?_⟩
      have e68 := (e6.trans e7).trans e8
      have nptH : H pt' = none := Evl.fresh_back ((eH.trans e6).trans e7) npt'
      have hf8 := e68 _ _ hf
      have hpp : pt' ≠ pf := (ne_of_none ((e6.trans e7) _ _ hf) npt').symm
      have L8 : Live H8 (pt' :: pf :: ms) := ((L'.mono e68)).cons hp'
      have sub : Ex (cut H' (pf :: ms)) (cut H8 (pt' :: pf :: ms)) := cut_more (qs := [pt']) (fun q hq => by cases List.mem_singleton.mp hq; exact Evl.fresh_back (e6.trans e7) npt') e68
      refine s_seqfor (ms := pt' :: pf :: ms) (ds := (nI rim).map PyData.int) (src_list (e_var rfl (rr.mono sub)))
        (fun H1 j σ' H' => ∃ (lat : List Nat) (y7 y8 : Option V), σ' = [some v1, some (.int (s : Int)), some vn, some (.ref pf), some vr, some (.int ((a : Int) + 1)), some (.ref pt'), y7, y8] ∧ RimIn W (W.dist s) a lat (rim.take j) ∧
          H' pf = some (.lst (fv W.n (W.dist s) (ln ++ lat))) ∧ H' pt' = some (.lst ((nI lat).map V.int)) ∧ Ex (cut H1 (pt' :: pf :: ms)) H' ∧ Ex H H') ?_ (fun H1 j σ' H' _ _ ⟨_, _, _, _, _, _, _, h, _⟩ => h) ?_ ?_
      · exact fun H1 e1 => ⟨[], y7, y8, rfl, ⟨by simp, by simp, by simp⟩, by rw [List.append_nil]; exact e1 _ _ hf8, e1 _ _ hp', cut_le, (eH.trans e68).trans e1⟩
      · rintro H1 j d v σ' Hc H' eH1 hd ⟨lat, y7, y8, rfl, RI, hf', hl', eb, eHc⟩ ec hr
        rw [List.getElem?_map, nI_get] at hd
        obtain ⟨z, hz, rfl⟩ := Option.map_eq_some_iff.mp hd
        obtain ⟨u, hu, rfl⟩ := Option.map_eq_some_iff.mp hz
        have Lc : Live Hc (pt' :: pf :: ms) := Live.app (qs := [pt', pf]) (fun q hq => by
          rcases List.mem_cons.mp hq with rfl | hq
          · exact ⟨_, hl'⟩
          · cases List.mem_singleton.mp hq; exact ⟨_, hf'⟩) (L.mono eHc)
        cases (hr _ (ex_cut_in eb) Lc).int_of
        have hum := (R.mem u).mp (List.mem_of_getElem? hu)
        have rnc : Rp (cut H' (pt' :: pf :: ms)) vn (dNears W) := ((rn.mono sub).mono (ex_cut eH1)).mono ((ex_cut_in eb).trans (ex_cut ec))
        have tk : rim.take (j + 1) = rim.take j ++ [u] := by rw [List.take_add_one, hu]; rfl
        show tFor _ _ _ _ _ _
        refine s_for (ms := pt' :: pf :: ms) (ds := (nI (W.nb u)).map PyData.int) (src_list (e_ixL (e_var rfl rnc) (e_var rfl (.int _)) (atI_nat (by rw [List.getElem?_map, nears_get hum.1]; rfl))))
          (fun H2 i σ' H' => ∃ (lat : List Nat) (y8 : Option V), σ' = [some v1, some (.int (s : Int)), some vn, some (.ref pf), some vr, some (.int ((a : Int) + 1)), some (.ref pt'), some (.int (u : Int)), y8] ∧
            lat.Nodup ∧ (∀ x ∈ lat, x < W.n ∧ W.dist s x = a + 1) ∧ (∀ h ∈ rim.take j, ∀ x, W.adj h x = true → W.dist s x ≤ a ∨ x ∈ lat) ∧ (∀ x ∈ (W.nb u).take i, W.dist s x ≤ a ∨ x ∈ lat) ∧
            H' pf = some (.lst (fv W.n (W.dist s) (ln ++ lat))) ∧ H' pt' = some (.lst ((nI lat).map V.int)) ∧ Ex (cut H2 (pt' :: pf :: ms)) H' ∧ Ex (cut H1 (pt' :: pf :: ms)) H' ∧ Ex H H') ?_ (fun H1 j σ' H' _ _ ⟨_, _, _, _, _, _, _, _, _, h, _⟩ => h) ?_ ?_
        · exact fun H2 e2 => ⟨lat, y8, rfl, RI.nd, RI.mem, RI.got, by simp, (ec.trans e2) _ _ hf', (ec.trans e2) _ _ hl', cut_le, (eb.trans ec).trans e2, (eHc.trans ec).trans e2⟩
        · rintro H2 i d v σ' Hd H'' eH2 hd2 ⟨lat, y8, rfl, nd1, mem1, got1, here1, hf1, hl1, eb2, eb1, eHd⟩ ed hr2
          rw [List.getElem?_map, nI_get] at hd2
          obtain ⟨z, hz, rfl⟩ := Option.map_eq_some_iff.mp hd2
          obtain ⟨x, hx, rfl⟩ := Option.map_eq_some_iff.mp hz
          have Ld : Live Hd (pt' :: pf :: ms) := Live.app (qs := [pt', pf]) (fun q hq => by
            rcases List.mem_cons.mp hq with rfl | hq
            · exact ⟨_, hl1⟩
            · cases List.mem_singleton.mp hq; exact ⟨_, hf1⟩) (L.mono eHd)
          cases (hr2 _ (ex_cut_in eb2) Ld).int_of
          have hax : W.adj u x = true := (mem_nb hW).mp (List.mem_of_getElem? hx)
          have hxn : x < W.n := (adj_lt hW hax).2.1
          have tk2 : (W.nb u).take (i + 1) = (W.nb u).take i ++ [x] := by rw [List.take_add_one, hx]; rfl
          have hf2 := ed _ _ hf1
          have hl2 := ed _ _ hl1
          show tIfS _ _ _ _ _ _
          have q0 := fv_get (n := W.n) (d := W.dist s) (ln := ln ++ lat) hxn
          by_cases hm : x ∈ ln ++ lat
          · rw [if_pos hm] at q0
            refine s_if (e_isN_t ((v_ixM (ms := []) (e_ref rfl) hf2 (e_var rfl (.int _)) q0).ed (ms := []) (.int _))) (fun h => by cases h) fun _ H7 e7 => ?_
            refine ⟨lat, _, rfl, nd1, mem1, got1, fun y hy => ?_, e7 _ _ hf2, e7 _ _ hl2, (eb2.trans ed).trans e7, (eb1.trans ed).trans e7, (eHd.trans ed).trans e7⟩
            rw [tk2] at hy
            rcases List.mem_append.mp hy with hy | hy
            · exact here1 y hy
            · cases List.mem_singleton.mp hy
              rcases List.mem_append.mp hm with z | z
              · exact .inl ((hln x hxn).mp z)
              · exact .inr z
          · rw [if_neg hm] at q0
            refine s_if (e_isN_t ((v_ixM (ms := []) (e_ref rfl) hf2 (e_var rfl (.int _)) q0).ed (ms := []) .non)) (fun _ H7 e7 => ?_) fun h => by cases h
            have hnl : x ∉ ln := fun z => hm (List.mem_append_left _ z)
            have hnt : x ∉ lat := fun z => hm (List.mem_append_right _ z)
            have hdx : W.dist s x = a + 1 := by
              have h1 := D.lip u x hax
              have h2 : ¬ W.dist s x ≤ a := fun z => hnl ((hln x hxn).mpr z)
              have := hum.2
              omega
            have hf7 := e7 _ _ hf2
            have hl7 := e7 _ _ hl2
            refine q_setV (ms := []) (k := x) (v0 := .int ((a : Int) + 1)) hf7 (e_ref rfl) (e_ref rfl) (e_var rfl (.int _)) (by rw [fv_len]; exact hxn) fun H8 e8 => ?_
            have ed' : (V.int ((a : Int) + 1)) = V.int (W.dist s x : Int) := by rw [hdx]; rfl
            rw [ed', fv_set hxn, List.append_assoc]
            have hl8 : (upd H8 pf (.lst (fv W.n (W.dist s) (ln ++ (lat ++ [x]))))) pt' = some (.lst ((nI lat).map V.int)) := by rw [upd_ne hpp]; exact e8 _ _ hl7
            have few : lat.length ≤ W.n := by
              have := nd1.length_le_of_subset (fun y hy => List.mem_range.mpr (mem1 y hy).1)
              simpa using this
            refine s_app (ms := pt' :: pf :: ms) (e_ref rfl) hl8 (by simp) (e_var rfl (.int _)) (by rw [List.length_map, nI_len]; omega) fun v9 H9 e9 r9 => ?_
            cases r9.int_of
            refine ⟨lat ++ [x], _, rfl, ?_, ?_, ?_, ?_, ?_, ?_, ?_, ?_, ?_⟩
            · exact List.nodup_append.mpr ⟨nd1, by simp, fun y hy z hz => by simp at hz; rw [hz]; exact fun q => hnt (q ▸ hy)⟩
            · intro y hy
              rcases List.mem_append.mp hy with hy | hy
              · exact mem1 y hy
              · cases List.mem_singleton.mp hy; exact ⟨hxn, hdx⟩
            · exact fun h hh y hy => (got1 h hh y hy).imp id fun z => List.mem_append_left _ z
            · intro y hy
              rw [tk2] at hy
              rcases List.mem_append.mp hy with hy | hy
              · exact (here1 y hy).imp id fun z => List.mem_append_left _ z
              · exact .inr (List.mem_append_right _ hy)
            · rw [upd_ne hpp.symm]; exact e9 _ _ upd_same
            · rw [upd_same, nI_app, List.map_append]; rfl
            · exact ex_cut_upd ((ex_cut_upd (((eb2.trans ed).trans e7).trans e8) (by simp)).trans e9) (by simp)
            · exact ex_cut_upd ((ex_cut_upd (((eb1.trans ed).trans e7).trans e8) (by simp)).trans e9) (by simp)
            · exact Ex.mut ((Ex.mut (((eHd.trans ed).trans e7).trans e8) nfH).trans e9) nptH
        · rintro H2 σ' H'' eH2 ⟨lat, y8, rfl, nd1, mem1, got1, here1, hf1, hl1, eb2, eb1, eHd⟩
          rw [List.length_map, nI_len, List.take_length] at here1
          refine ⟨lat, _, y8, rfl, ⟨nd1, mem1, fun h hh y hy => ?_⟩, hf1, hl1, eb1, eHd⟩
          rw [tk] at hh
          rcases List.mem_append.mp hh with hh | hh
          · exact got1 h hh y hy
          · cases List.mem_singleton.mp hh
            exact here1 y ((mem_nb hW).mpr hy)
      · rintro H1 σ' H' eH1 ⟨lat, y7, y8, rfl, RI, hf', hl', eb, eHc⟩
        rw [List.length_map, nI_len, List.take_length] at RI
        have RN := R.next D hW RI
        refine G.s_asg (e_ref rfl) fun v9 H9 e9 hv9 => ?_
        subst hv9
        refine ⟨N + 1 - (a + 1), by omega, lat, ln ++ lat, a + 1, .ref pt', some (.ref pt'), y7, y8, rfl, ?_, RN, fun x hx => ?_, e9 _ _ hf', ?_, ?_, eHc.trans e9⟩
        · simp
        · rw [List.mem_append, hln x hx]
          have := RN.mem x
          constructor
          · rintro (z | z)
            · omega
            · have := (this.mp z).2; omega
          · intro z
            by_cases q : W.dist s x ≤ a
            · exact .inl q
            · exact .inr (this.mpr ⟨hx, by omega⟩)
        · exact .lst (by
            rw [cut_out]
            · exact e9 _ _ hl'
            · intro z
              rcases List.mem_cons.mp z with z | z
              · exact hpp z
              · exact L.out nptH z) (RpAll.ints _)
        · exact (((rn.mono sub).mono (ex_cut eH1)).mono ((ex_cut_in eb).trans (ex_cut e9))).mono (cut_sub fun m hm => List.mem_cons_of_mem _ hm)
    · have hrim : rim = [] := by
        have : PyData.eqv (dIs (nI rim)) (dIs []) = true := by have := hem; simp at this; exact this
        rw [eqv_ints] at this
        have := of_decide_eq_true this
        cases rim with
        | nil => rfl
        | cons => cases this
      subst hrim
      have all : ∀ x, x < W.n → x ∈ ln := fun x hx => (hln x hx).mpr (Nat.le_of_lt (R.stop D hW x hx))
      rw [fv_all all] at hf
      have rf : Rp (cut H6 ms) (.ref pf) (dDist W s) := .lst (by rw [cut_out (L.out nfH)]; exact e6 _ _ hf) (RpAll.ints _)
      exact s_ret (e_var rfl rf) fun v H7 e7 p => k v H7 ((eH.trans e6).trans e7) p
end
end T

set_option Elab.async false
set_option linter.all false
set_option maxRecDepth 100000
set_option maxHeartbeats 4000000
namespace T
open PySem PySem.Spec PyProof.Rows L2 RZ G M
open Evl (Ex EvT et_or et_not et_and)
section
variable {P : Program} {w : World} {K : PySem.W.Frag} {mg : Str → Option Value} {base : Heap} {f : Addr} {fd : FuncData}
/-- of a web: a value -/
def sp_web (r : Web → PyData → Prop) : Sp := PSm fun ds d => ∃ W : Web, ds = [dW W] ∧ W.Ok ∧ r W d
def sp_none : Sp := sp_web fun _ d => d = .none
theorem dist_get {W : Web} {s v : Nat} (h : v < W.n) : ((nI ((List.range W.n).map (W.dist s))).map PyData.int)[v]? = some (dN (W.dist s v)) := by
  rw [List.getElem?_map, nI_get, List.getElem?_map, List.getElem?_range h]; rfl
abbrev s_odd_hedge : Stmt := topS 15
theorem sc_odd_hedge : FnScope ["web", "told", "some", "hedge"] ["web"] (defScope s_odd_hedge) := ⟨rfl, rfl, rfl, by decide +kernel, rfl, by decide +kernel, by decide +kernel⟩
theorem ok_odd_hedge (F : Fun K "odd_hedge" "odd_hedge" s_odd_hedge f fd) (b : Blt mg) (c_reach_of : Dfn P w K mg base 2 "reach_of" ["web", "first"] sp_dist) : FnOk P w K mg base CX0 3 f fd ["web"] sp_none := by
  refine F.ok sc_odd_hedge (fun vs H Q E h => ?_) (fun cdv A outer s H vs Q E hr h => ?_)
  · obtain ⟨ds, d, ms, r, _, ⟨W, rfl, _⟩, _⟩ := h; exact r.len
  · obtain ⟨ds, d, ms, r, L, ⟨W, rfl, hW, rfl⟩, k⟩ := h
    have nd := sc_odd_hedge.nd
    refine ⟨_, pss_cons (ps_set (i := 1) nd rfl (Or.inr rfl) (pe_own c_reach_of hr (pa_cons (pv 0) (pa_cons (pe_int) pa_nil)))) (pss_cons (ps_setLc (i := 2) (own := [("hedge", 3)]) rfl nd rfl rfl (sw_true rfl rfl rfl (by decide +kernel)) (pi_tupK K rfl (pe_ix (ix_tupK K rfl) (pv 0) (pe_int) (fun _ _ => rfl))) (blkOk_by (own := [("hedge", 3)]) (N := ["web", "told", "some", "hedge"]) (sc := (defScope s_odd_hedge)) (by decide +kernel)) (fun _ _ _ _ _ => pg_name (i := 3) nd rfl (Or.inl rfl)) (fun _ _ _ _ _ => pts_one (pt_cmpR op_eq (pe_op op_mod (pe_op op_sub (pe_ix (ix_listK K rfl) (pv 1) (pe_ix (ix_tupK K rfl) (pv 3) (pe_int) (fun _ _ => rfl)) (fun _ _ => rfl)) (pe_ix (ix_listK K rfl) (pv 1) (pe_ix (ix_tupK K rfl) (pv 3) (pe_int) (fun _ _ => rfl)) (fun _ _ => rfl))) (pe_int)) (pe_int) (nomark _))) (fun _ _ _ _ _ => pv 3)) (pss_one (ps_ret (pe_ifExp (pt_cmpR (op_neDK K rfl hr.units) (pv 2) (pe_lst pa_nil) (nomark _)) (pe_ix (ix_listK K rfl) (pv 2) (pe_int) (fun _ _ => rfl)) (pe_non))))), ?_⟩
    obtain ⟨v1, rfl, r1⟩ := r.one
    have hp := hW.pre.pos
    refine q_asg (e_call (a_cons (e_var rfl r1) (a_cons e_int a_nil)) L ⟨W, 0, rfl, hW.pre, hp, ⟨_, hW.dist hp⟩, rfl⟩) fun vt H1 e1 rt => ?_
    replace r1 := rp_keep e1 r1
    have L1 := L.mono e1
    refine q_asg (e_lcT (xs := W.E) (enc := dP) (fun p => decide ((((W.dist 0 p.1 : Nat) : Int) - ((W.dist 0 p.2 : Nat) : Int)) % 2 = 0)) dP (src_tup (e_ixT (e_var rfl r1) e_int rfl)) (by have := hedges_few hW.pre; omega) L1
      fun ms' p v H2 hm e2 ec L2 rv => ⟨_, fun Q q => q, rfl, ?_, fun _ => e_var rfl rv⟩) fun vs H2 e2 rs => ?_
    · have hb := hW.pre.bnd p hm
      exact t_T (e_eq (e_IC (e_I0 (e_ixL (e_var rfl (rt.mono ec)) (e_ixT (e_var rfl rv) e_int rfl) (atI_nat (dist_get (by omega)))) (e_ixL (e_var rfl (rt.mono ec)) (e_ixT (e_var rfl rv) e_int rfl) (atI_nat (dist_get (by omega))))) e_int (by decide)) e_int)
    · have ef : W.E.filter (fun p => decide ((((W.dist 0 p.1 : Nat) : Int) - ((W.dist 0 p.2 : Nat) : Int)) % 2 = 0)) = [] := List.filter_eq_nil_iff.mpr fun p hp => by
        have := hW.odd (u := p.1) (v := p.2) (decide_eq_true (.inl hp))
        simp; omega
      rw [ef] at rs
      refine s_ret (e_if (b := false) (t_is (t_T (e_neDp (e_var rfl rs) (e_lst a_nil (by simp) (L1.mono e2)) shaped_nil shaped_nil)) (by decide)) (fun h => by cases h) fun _ => e_non) fun v H3 e3 p => k v H3 ((e1.trans e2).trans e3) p
abbrev s_bar_of : Stmt := topS 16
theorem sc_bar_of : FnScope ["web", "told", "hedge", "field"] ["web"] (defScope s_bar_of) := ⟨rfl, rfl, rfl, by decide +kernel, rfl, by decide +kernel, by decide +kernel⟩
theorem ok_bar_of (F : Fun K "bar_of" "bar_of" s_bar_of f fd) (b : Blt mg) (c_reach_of : Dfn P w K mg base 2 "reach_of" ["web", "first"] sp_dist) (c_odd_hedge : Dfn P w K mg base 3 "odd_hedge" ["web"] sp_none) : FnOk P w K mg base CX0 4 f fd ["web"] sp_none := by
  refine F.ok sc_bar_of (fun vs H Q E h => ?_) (fun cdv A outer s H vs Q E hr h => ?_)
  · obtain ⟨ds, d, ms, r, _, ⟨W, rfl, _⟩, _⟩ := h; exact r.len
  · obtain ⟨ds, d, ms, r, L, ⟨W, rfl, hW, rfl⟩, k⟩ := h
    have nd := sc_bar_of.nd
    refine ⟨_, pss_cons (ps_set (i := 1) nd rfl (Or.inr rfl) (pe_own c_reach_of hr (pa_cons (pv 0) (pa_cons (pe_int) pa_nil)))) (pss_cons (ps_if (pt_cmpR (op_inK K rfl) (pe_non) (pv 1) rfl) (pss_one (ps_ret (pe_tup (pa_cons (pe_str) (pa_cons (pe_callTy (call_tupleK K rfl) (by rfl) b.tuple (by decide +kernel) (pa_cons (pe_lc (own := [("field", 3)]) rfl nd (pi_range1 (by rfl) b.range (pa_cons (pe_ix (ix_tupK K rfl) (pv 0) (pe_int) (fun _ _ => rfl)) pa_nil)) (blkOk_by (own := [("field", 3)]) (N := ["web", "told", "hedge", "field"]) (sc := (defScope s_bar_of)) (by decide +kernel)) (fun _ _ _ _ _ => pg_name (i := 3) nd rfl (Or.inl rfl)) (fun _ _ _ _ _ => pts_one (pt_cmpR op_notN (pe_ix (ix_listK K rfl) (pv 1) (pv 3) (fun _ _ => rfl)) pe_non (nomark _))) (fun _ _ _ _ _ => pv 3)) pa_nil)) pa_nil))))) (pss_nil)) (pss_cons (ps_set (i := 2) nd rfl (Or.inl rfl) (pe_own c_odd_hedge hr (pa_cons (pv 0) pa_nil))) (pss_one (ps_ret (pe_ifExp (pt_cmpR op_notN (pv 2) pe_non (nomark _)) (pe_tup (pa_cons (pe_str) (pa_cons (pv 2) pa_nil))) (pe_non)))))), ?_⟩
    obtain ⟨v1, rfl, r1⟩ := r.one
    have hp := hW.pre.pos
    refine q_asg (e_call (a_cons (e_var rfl r1) (a_cons e_int a_nil)) L ⟨W, 0, rfl, hW.pre, hp, ⟨_, hW.dist hp⟩, rfl⟩) fun vt H1 e1 rt => ?_
    refine q_no (t_T (e_noneIn (e_var rfl rt))) fun H2 e2 => ?_
    have r2 := rp_keep (e1.trans e2) r1
    refine q_asg (e_call (a_cons (e_var rfl r2) a_nil) (L.mono (e1.trans e2)) ⟨W, rfl, hW, rfl⟩) fun vh H3 e3 rh => ?_
    exact s_ret (e_if (b := false) (e_notN_t (e_var rfl rh)) (fun h => by cases h) fun _ => e_non) fun v H4 e4 p => k v H4 (((e1.trans e2).trans e3).trans e4) p
abbrev s_need_web : Stmt := topS 17
theorem sc_need_web : FnScope ["value"] ["value"] (defScope s_need_web) := ⟨rfl, rfl, rfl, by decide +kernel, rfl, by decide +kernel, by decide +kernel⟩
theorem ok_need_web (F : Fun K "need_web" "need_web" s_need_web f fd) (b : Blt mg) (c_has_form : Dfn P w K mg base 4 "has_form" ["value"] sp_has_form) (c_bar_of : Dfn P w K mg base 4 "bar_of" ["web"] sp_none) : FnOk P w K mg base CX0 5 f fd ["value"] sp_none := by
  refine F.ok sc_need_web (fun vs H Q E h => ?_) (fun cdv A outer s H vs Q E hr h => ?_)
  · obtain ⟨ds, d, ms, r, _, ⟨W, rfl, _⟩, _⟩ := h; exact r.len
  · obtain ⟨ds, d, ms, r, L, ⟨W, rfl, hW, rfl⟩, k⟩ := h
    have nd := sc_need_web.nd
    refine ⟨_, pss_one (ps_if ((pw_or (pt_not (pt_val (pe_own c_has_form hr (pa_cons (pv 0) pa_nil)))) (pw_or1 (pt_cmpR op_notN (pe_own c_bar_of hr (pa_cons (pv 0) pa_nil)) pe_non (nomark _)))).pt) (pss_never) (pss_nil)), ?_⟩
    obtain ⟨v1, rfl, r1⟩ := r.one
    exact s_if (b := false) (t_is (et_or (et_not (t_B (e_call (a_cons (e_var rfl r1) a_nil) L ⟨W, rfl, hW, rfl⟩))) fun _ => e_notN_t (e_call (a_cons (e_var rfl r1) a_nil) L ⟨W, rfl, hW, rfl⟩)) rfl) (fun h => by cases h) fun _ H1 e1 => k _ H1 e1 .non
abbrev s_breadth_of : Stmt := topS 19
theorem sc_breadth_of : FnScope ["web", "nears", "best", "last", "field"] ["web"] (defScope s_breadth_of) := ⟨rfl, rfl, rfl, by decide +kernel, rfl, by decide +kernel, by decide +kernel⟩
def sp_breadth : Sp := sp_web fun W d => d = dN W.brd
theorem ok_breadth_of (F : Fun K "breadth_of" "breadth_of" s_breadth_of f fd) (b : Blt mg) (c_nears_of : Dfn P w K mg base 1 "nears_of" ["web"] sp_nears) : FnOk P w K mg base CX0 2 f fd ["web"] sp_breadth := by
  refine F.ok sc_breadth_of (fun vs H Q E h => ?_) (fun cdv A outer s H vs Q E hr h => ?_)
  · obtain ⟨ds, d, ms, r, _, ⟨W, rfl, _⟩, _⟩ := h; exact r.len
  · obtain ⟨ds, d, ms, r, L, ⟨W, rfl, hW, rfl⟩, k⟩ := h
    have nd := sc_breadth_of.nd
    refine ⟨_, pss_cons (ps_set (i := 1) nd rfl (Or.inr rfl) (pe_own c_nears_of hr (pa_cons (pv 0) pa_nil))) (pss_cons (ps_set (i := 2) nd rfl (Or.inl rfl) (pe_int)) (pss_cons (ps_for PassesOwn.never rfl (pi_range1 (by rfl) b.range (pa_cons (pe_ix (ix_tupK K rfl) (pv 0) (pe_int) (fun _ _ => rfl)) pa_nil)) (pg_name (i := 3) nd rfl (Or.inr rfl)) (pss_one (ps_set (i := 2) nd rfl (Or.inl rfl) (pe_callB (call_max2 rfl) (by rfl) b.max (by decide +kernel) (pa_cons (pv 2) (pa_cons (pe_callB (call_lenK K rfl) (by rfl) b.len (by decide +kernel) (pa_cons (pe_lc (own := [("field", 4)]) rfl nd (pi_range1 (by rfl) b.range (pa_cons (pe_op op_add (pv 3) (pe_int)) pa_nil)) (blkOk_by (own := [("field", 4)]) (N := ["web", "nears", "best", "last", "field"]) (sc := (defScope s_breadth_of)) (by decide +kernel)) (fun _ _ _ _ _ => pg_name (i := 4) nd rfl (Or.inl rfl)) (fun _ _ _ _ _ => pts_one ((pw_and (pt_cmpR (op_neDK K rfl hr.units) (pe_ix (ix_listK K rfl) (pv 1) (pv 4) (fun _ _ => rfl)) (pe_lst pa_nil) (nomark _)) (pw_and1 (pt_cmpR op_gt (pe_ix (ix_listK K rfl) (pe_ix (ix_listK K rfl) (pv 1) (pv 4) (fun _ _ => rfl)) (pe_un un_neg (pe_int)) (fun _ _ => rfl)) (pv 3) (nomark _)))).pt)) (fun _ _ _ _ _ => pe_int)) pa_nil)) pa_nil)))))) (pss_one (ps_ret (pv 2))))), ?_⟩
    obtain ⟨v1, rfl, r1⟩ := r.one
    have hn := hW.pre.few
    refine q_asg (e_call (a_cons (e_var rfl r1) a_nil) L ⟨W, rfl, hW.pre, rfl⟩) fun vn H1 e1 rn => ?_
    refine q_val v_int fun H2 e2 => ?_
    have e12 := e1.trans e2
    replace rn := rp_keep e2 rn
    refine s_seqfor (ms := ms) (src_rg1 (a_cons (e_ixT (e_var rfl (rp_keep e12 r1)) e_int rfl) a_nil) (by omega))
      (fun H1 i σ' H' => ∃ y3 : Option V, σ' = [some v1, some vn, some (.int ((((List.range i).map fun last => (W.kept last).length).foldl max 0 : Nat) : Int)), y3, none] ∧ Ex H1 H') (fun H3 e3 => ⟨none, rfl, Ex.refl _⟩) (fun _ _ _ _ _ _ ⟨_, _, h⟩ => cut_le.trans h) ?_ ?_
    · rintro H3 i d v σ' Hc H' e3 hd ⟨y3, rfl, eb⟩ ec hr
      obtain ⟨hi, rfl⟩ := rgD_get hd
      have e0 := e12.trans ((e3.trans eb).trans ec)
      cases (hr ms (ex_cut eb) (L.mono ((e12.trans e3).trans eb))).int_of
      have rn' := rp_keep ((e3.trans eb).trans ec) rn
      rw [Int.zero_add]
      have hi' : i < W.n := by omega
      show tAsg _ _ _ _ _
      refine G.s_asg (e_max2 (ms := ms) (e_var rfl (.int _)) (e_lenL (e_lcT (xs := List.range (i + 1)) (enc := fun (k : Nat) => .int (0 + (k : Int))) (fun f => W.beh f i) (fun _ => .int 1) (src_rg1 (j := (i : Int) + 1) (a_cons (e_I0 (e_var rfl (.int _)) e_int) a_nil) (by omega)) (by simp; omega) (L.mono e0)
        fun ms' a v H4 ha e4 ec4 L4 rv => ⟨_, fun Q q => q, rfl, ?_, fun _ => e_int⟩))) fun v H4 e4 p => ?_
      · have ha' : a < W.n := by have := List.mem_range.mp ha; omega
        cases rv.int_of
        rw [Int.zero_add]
        exact t_beh (last := i) (e_ixL (e_var rfl (rn'.mono ec4)) (e_var rfl (.int _)) (atI_nat (by rw [List.getElem?_map, nears_get ha']; rfl))) (e_var rfl (.int _)) L4
      · rw [List.length_map] at p
        cases p.int_of
        refine ⟨some (.int (i : Int)), ?_, (eb.trans ec).trans e4⟩
        rw [show (List.filter (fun f => W.beh f i) (List.range (i + 1))).length = (W.kept i).length from rfl]
        rw [List.range_succ, List.map_append, List.foldl_append]
        show [some v1, some vn, some (V.int (max _ _)), _, none] = [some v1, some vn, some (V.int ((max _ _ : Nat) : Int)), _, none]
        have em : ∀ a c : Nat, max (a : Int) (c : Int) = ((max a c : Nat) : Int) := fun a c => by omega
        rw [em]
    · rintro H3 σ' H' e3 ⟨y3, rfl, eb⟩
      rw [rgD_len, show ((W.n : Int)).toNat = W.n by omega]
      exact s_ret (e_var rfl (.int _)) fun v H4 e4 p => k v H4 ((e12.trans (e3.trans eb)).trans e4) p
abbrev s_need_narrow : Stmt := topS 39
theorem sc_need_narrow : FnScope ["web"] ["web"] (defScope s_need_narrow) := ⟨rfl, rfl, rfl, by decide +kernel, rfl, by decide +kernel, by decide +kernel⟩
theorem ok_need_narrow (F : Fun K "need_narrow" "need_narrow" s_need_narrow f fd) (b : Blt mg) (g : Glb mg) (c_need_web : Dfn P w K mg base 5 "need_web" ["value"] sp_none) (c_breadth_of : Dfn P w K mg base 2 "breadth_of" ["web"] sp_breadth) : FnOk P w K mg base CX0 6 f fd ["web"] sp_none := by
  refine F.ok sc_need_narrow (fun vs H Q E h => ?_) (fun cdv A outer s H vs Q E hr h => ?_)
  · obtain ⟨ds, d, ms, r, _, ⟨W, rfl, _⟩, _⟩ := h; exact r.len
  · obtain ⟨ds, d, ms, r, L, ⟨W, rfl, hW, rfl⟩, k⟩ := h
    have nd := sc_need_narrow.nd
    refine ⟨_, pss_cons (ps_expr (pe_own c_need_web hr (pa_cons (pv 0) pa_nil))) (pss_one (ps_if (pt_cmpR op_gt (pe_own c_breadth_of hr (pa_cons (pv 0) pa_nil)) (pe_gi g.MOST_BREADTH_counts) (nomark _)) (pss_never) (pss_nil))), ?_⟩
    obtain ⟨v1, rfl, r1⟩ := r.one
    refine q_drop (e_call (a_cons (e_var rfl r1) a_nil) L ⟨W, rfl, hW, rfl⟩) fun _ H1 e1 _ => ?_
    have hb : ¬ (10 : Int) < (W.brd : Int) := by have := brd_le (W := W); have := hW.pre.few; omega
    exact s_if (b := false) (t_is (t_T (e_B0 (e_call (a_cons (e_var rfl (rp_keep e1 r1)) a_nil) (L.mono e1) ⟨W, rfl, hW, rfl⟩) e_int)) (decide_eq_false hb)) (fun h => by cases h) fun _ H2 e2 => k _ H2 (e1.trans e2) .non
abbrev s_step : Stmt := topS 25
theorem sc_step : FnScope ["one", "other"] ["one", "other"] (defScope s_step) := ⟨rfl, rfl, rfl, by decide +kernel, rfl, by decide +kernel, by decide +kernel⟩
def sp_step : Sp := PSm fun ds d => ∃ x y : Int, ds = [.int x, .int y] ∧ d = .int (stp x y)
theorem ok_step (F : Fun K "step" "step" s_step f fd) (g : Glb mg) : FnOk P w K mg base CX0 1 f fd ["one", "other"] sp_step := by
  refine F.ok sc_step (fun vs H Q E h => ?_) (fun cdv A outer s H vs Q E hr h => ?_)
  · obtain ⟨ds, d, ms, r, _, ⟨x, y, rfl, _⟩, _⟩ := h; exact r.len
  · obtain ⟨ds, d, ms, r, L, ⟨x, y, rfl, rfl⟩, k⟩ := h
    have nd := sc_step.nd
    refine ⟨_, pss_one (ps_ret (pe_ifExp (pt_cmpR op_eq (pe_op op_mod (pe_op op_sub (pv 1) (pv 0)) (pe_gi g.COLORS)) (pe_int) (nomark _)) (pe_int) (pe_un un_neg (pe_int)))), ?_⟩
    obtain ⟨v1, v2, rfl, r1, r2⟩ := r.two
    refine s_ret (e_if (t_T (e_eq (e_IC (e_I0 (e_var rfl r2) (e_var rfl r1)) e_int (by decide)) e_int)) (fun h => ?_) fun h => ?_) k
    · exact e_is e_int (by unfold stp; rw [if_pos (of_decide_eq_true h)])
    · exact e_is (e_neg e_int) (by unfold stp; rw [if_neg (of_decide_eq_false h)])
abbrev s_is_coloring : Stmt := topS 23
theorem sc_is_coloring : FnScope ["web", "value", "one", "other", "color"] ["web", "value"] (defScope s_is_coloring) := ⟨rfl, rfl, rfl, by decide +kernel, rfl, by decide +kernel, by decide +kernel⟩
def sp_iscol (d0 : PyData) : Sp := PSm fun ds d => ∃ (W : Web) (c : List Int), ds = [dW W, dC c] ∧ W.Ok ∧ Col W c ∧ d = d0
theorem ok_is_coloring (F : Fun K "is_coloring" "is_coloring" s_is_coloring f fd) (b : Blt mg) (c_is_in : Dfn P w K mg base 2 "is_in" ["value", "least", "most"] sp_is_in) : FnOk P w K mg base CX0 3 f fd ["web", "value"] (sp_iscol (.bool true)) := by
  refine F.ok sc_is_coloring (fun vs H Q E h => ?_) (fun cdv A outer s H vs Q E hr h => ?_)
  · obtain ⟨ds, d, ms, r, _, ⟨W, c, rfl, _⟩, _⟩ := h; exact r.len
  · obtain ⟨ds, d, ms, r, L, ⟨W, c, rfl, hW, hc, rfl⟩, k⟩ := h
    have nd := sc_is_coloring.nd
    refine ⟨_, pss_cons (ps_if ((pw_or (pt_not (pt_val (pe_callB (call_isiK' K rfl) (by rfl) b.isinstance (by decide +kernel) (pa_cons (pv 1) (pa_cons (pe_bltn (v := .ty "tuple") (by rfl) b.tuple (by decide +kernel) rfl) pa_nil))))) (pw_or (pt_cmpR op_ne (pe_callB (call_lenK K rfl) (by rfl) b.len (by decide +kernel) (pa_cons (pv 1) pa_nil)) (pe_ix (ix_tupK K rfl) (pv 0) (pe_int) (fun _ _ => rfl)) (nomark _)) (pw_or1 (pt_not (pt_val (pe_callB (cr_allK K rfl rfl) (by rfl) b.all (by decide +kernel) (pa_cons (pe_lc (own := [("color", 4)]) rfl nd (pi_tupK K rfl (pv 1)) (blkOk_by (own := [("color", 4)]) (N := ["web", "value", "one", "other", "color"]) (sc := (defScope s_is_coloring)) (by decide +kernel)) (fun _ _ _ _ _ => pg_name (i := 4) nd rfl (Or.inl rfl)) (fun _ _ _ _ _ => pts_nil) (fun _ _ _ _ _ => pe_own c_is_in hr (pa_cons (pv 4) (pa_cons (pe_int) (pa_cons (pe_int) pa_nil))))) pa_nil))))))).pt) (pss_one (ps_ret (pe_bl))) (pss_nil)) (pss_one (ps_ret (pe_callB (cr_allK K rfl rfl) (by rfl) b.all (by decide +kernel) (pa_cons (pe_lc (own := [("one", 2), ("other", 3)]) rfl nd (pi_tupK K rfl (pe_ix (ix_tupK K rfl) (pv 0) (pe_int) (fun _ _ => rfl))) (blkOk_by (own := [("one", 2), ("other", 3)]) (N := ["web", "value", "one", "other", "color"]) (sc := (defScope s_is_coloring)) (by decide +kernel)) (fun _ _ _ _ _ => pg_tupK (n := 2) K rfl rfl (pgs_cons (pg_name (i := 2) nd rfl (Or.inl rfl)) (pgs_cons (pg_name (i := 3) nd rfl (Or.inl rfl)) (pgs_nil)))) (fun _ _ _ _ _ => pts_nil) (fun _ _ _ _ _ => pe_cmpR op_ne (pe_ix (ix_tupK K rfl) (pv 1) (pv 2) (fun _ _ => rfl)) (pe_ix (ix_tupK K rfl) (pv 1) (pv 3) (fun _ _ => rfl)) (nomark _))) pa_nil)))), ?_⟩
    obtain ⟨v1, v2, rfl, r1, r2⟩ := r.two
    have hn := hW.pre.few
    have hl := hc.len
    refine q_no (t_is (et_or (et_not (t_B (e_isi (b := true) (e_var rfl r2) (.tup _) (by decide +kernel)))) fun _ => et_or (t_T (e_ne (e_lenT (e_var rfl r2)) (e_ixT (e_var rfl r1) e_int rfl))) fun _ => et_not (t_B (e_is (e_allD (xs := c) (f := fun _ => true) (e_mapT (xs := c) (enc := PyData.int) (fun _ => .bool true) (src_tup (e_var rfl r2)) (by omega) L
      fun ms' x v H1 hx e1 ec L1 rv => ⟨_, fun Q q => q, rfl, ?_⟩)) rfl))) ?_) fun H1 e1 => ?_
    · have := hc.rng x hx
      exact e_call (a_cons (e_var rfl rv) (a_cons e_int (a_cons e_int a_nil))) L1 ⟨x, 0, 2, rfl, by simp [this]⟩
    · rw [List.length_map, hl]; simp
    · refine s_ret (e_is (e_allD (xs := W.E) (f := fun _ => true) (e_mapT (xs := W.E) (enc := dP) (fun _ => .bool true) (src_tup (e_ixT (e_var rfl (rp_keep e1 r1)) e_int rfl)) (by have := hedges_few hW.pre; omega) (L.mono e1)
        fun ms' p v H2 hp e2 ec L2 rv => ?_)) (by simp)) fun v H2 e2 p => k v H2 (e1.trans e2) p
      have hb := hW.pre.bnd p hp
      obtain ⟨x, y, rx, ry, hg⟩ := g_tup2 (ma := 2) (mb := 3) cut_le rv
      have rc := (rp_keep e1 r2).mono ec
      refine ⟨_, fun Q q => hg _ Q q, rfl, e_is (e_ne (i := atc c p.1) (j := atc c p.2) (e_ixT (e_var rfl rc) (e_var rfl rx) (atI_nat (by rw [List.getElem?_map, atc_get (by omega)]; rfl))) (e_ixT (e_var rfl rc) (e_var rfl ry) (atI_nat (by rw [List.getElem?_map, atc_get (by omega)]; rfl)))) ?_⟩
      have := hc.ne p.1 p.2 (decide_eq_true (.inl hp))
      simp [this]
abbrev s_need_coloring : Stmt := topS 24
theorem sc_need_coloring : FnScope ["web", "value"] ["web", "value"] (defScope s_need_coloring) := ⟨rfl, rfl, rfl, by decide +kernel, rfl, by decide +kernel, by decide +kernel⟩
theorem ok_need_coloring (F : Fun K "need_coloring" "need_coloring" s_need_coloring f fd) (c_need_web : Dfn P w K mg base 5 "need_web" ["value"] sp_none) (c_is_coloring : Dfn P w K mg base 3 "is_coloring" ["web", "value"] (sp_iscol (.bool true))) : FnOk P w K mg base CX0 6 f fd ["web", "value"] (sp_iscol .none) := by
  refine F.ok sc_need_coloring (fun vs H Q E h => ?_) (fun cdv A outer s H vs Q E hr h => ?_)
  · obtain ⟨ds, d, ms, r, _, ⟨W, c, rfl, _⟩, _⟩ := h; exact r.len
  · obtain ⟨ds, d, ms, r, L, ⟨W, c, rfl, hW, hc, rfl⟩, k⟩ := h
    have nd := sc_need_coloring.nd
    refine ⟨_, pss_cons (ps_expr (pe_own c_need_web hr (pa_cons (pv 0) pa_nil))) (pss_one (ps_if (pt_not (pt_val (pe_own c_is_coloring hr (pa_cons (pv 0) (pa_cons (pv 1) pa_nil))))) (pss_never) (pss_nil))), ?_⟩
    obtain ⟨v1, v2, rfl, r1, r2⟩ := r.two
    refine q_drop (e_call (a_cons (e_var rfl r1) a_nil) L ⟨W, rfl, hW, rfl⟩) fun _ H1 e1 _ => ?_
    exact s_if (b := false) (t_is (et_not (t_B (e_call (a_cons (e_var rfl (rp_keep e1 r1)) (a_cons (e_var rfl (rp_keep e1 r2)) a_nil)) (L.mono e1) ⟨W, c, rfl, hW, hc, rfl⟩))) rfl) (fun h => by cases h) fun _ H2 e2 => k _ H2 (e1.trans e2) .non
end
end T

set_option Elab.async false
set_option linter.all false
set_option maxRecDepth 100000
set_option maxHeartbeats 4000000
/-! GX1: dict(zip(a list, a tuple)). -/
namespace GX
open PySem
open Sem (wp)
section
variable {prog : Program} {w : World} {A : Around} {E : Value → Shared → Prop} {s : Shared} {z TI TO i1 i2 : Addr} {fp1 fp2 : List Addr} {n1 n2 i : Nat} {P1 P2 : Nat → Value → Prop} {St1 St2 : Nat → Heap → Prop} {a1 a2 : Value}
/-- the tuple that was given out before is still there -/
theorem zipH_next {T : Addr} {f : Bool} {oT : Obj} {Q : Value → Shared → Prop} (S : ZipSep2 z TI TO i1 i2 fp1 fp2) (D1 : Draws prog w A i1 fp1 n1 P1 St1) (D2 : Draws prog w A i2 fp2 n2 P2 St2)
    (hz : IsZipHeld s.heap z TI TO T f) (hT : s.heap.get? T = some oT) (hTI : IsTupOf2 s.heap TI (.ref i1) (.ref i2)) (st1 : St1 i s.heap) (st2 : St2 i s.heap) (hlt1 : i < n1) (hlt2 : i < n2)
    (hQ : ∀ x1 x2 h' tk, P1 i x1 → P2 i x2 → IsZipHeld h' z TI TO T true → St1 (i + 1) h' → St2 (i + 1) h' → IsTupOf2 h' s.heap.objs.size x1 x2 →
      (∀ c o, c ≠ z → c ≠ i1 → c ≠ i2 → s.heap.get? c = some o → h'.get? c = some o) → Q (.ref s.heap.objs.size) { s with heap := h', toks := tk }) :
    wpAny (model prog w) A (Builtin.«zip.__next__» ⟨[.ref z], []⟩) (fun fin s' => ∃ v, fin = .done (.ret v) ∧ Q v s') E s := by
  obtain ⟨hp, g, d, tk0, os⟩ := s
  show wpAny _ _ (field (.ref z) 2 >>= _) _ _ _
  refine wpAny_bind (wpAny_field hz rfl (x := .bool false) rfl ?_)
  show wpAny _ _ (field (.ref z) 3 >>= _) _ _ _
  refine wpAny_bind (wpAny_field hz rfl (x := .ref TI) rfl ?_)
  refine wpAny_bind (wpAny_seqItems hTI rfl ?_)
  show wpAny _ _ (Builtin.SmallTypes.ownedTupleIsFree (.ref z) >>= _) _ _ _
  refine wpAny_bind (wpAny_tupleHeld_zip hz hT fun g0 hz0 hs0 => ?_)
  replace hs0 : Heap.SameBut z hp g0 := hs0
  simp only [Bool.false_eq_true, if_false]
  refine wpAny_bind ?_
  rw [← Array.forIn_toList]
  simp only [List.forIn_cons, List.forIn_nil]
  refine wpAny_bind (wpAny_bind (wpAny_holding ?_))
  show wpAny _ _ (Builtin.SmallTypes.nextOf (.ref i1) >>= _) _ _ ⟨g0, g, d, tk0, os⟩
  refine wpAny_bind (D1.item i _ _ _ hlt1 (D1.over st1 hs0 S.zf1) fun x1 p1 tk1 hx1 sn1 hp1 => wpAny_pure ?_)
  replace hp1 : Heap.SameBut i1 g0 p1 := hp1
  refine wpAny_pure ?_
  refine wpAny_bind (wpAny_bind (wpAny_holding ?_))
  show wpAny _ _ (Builtin.SmallTypes.nextOf (.ref i2) >>= _) _ _ ⟨p1, g, d, tk1, os⟩
  refine wpAny_bind (D2.item i _ _ _ hlt2 (D2.over (D2.over st2 hs0 S.zf2) hp1 S.sep1_2) fun x2 p2 tk2 hx2 sn2 hp2 => wpAny_pure ?_)
  replace hp2 : Heap.SameBut i2 p1 p2 := hp2
  refine wpAny_pure (wpAny_pure ?_)
  show wpAny _ _ (newTuple [x1, x2] >>= _) _ _ ⟨p2, g, d, tk2, os⟩
  refine wpAny_bind (wpAny_newTuple ?_)
  have hsz : p2.objs.size = hp.objs.size := by rw [hp2.1, hp1.1, hs0.1]
  have hz3 : IsZipHeld p2 z TI TO T true := hp2.extBut _ _ S.zi2 (hp1.extBut _ _ S.zi1 hz0)
  have hk : ∀ c o, c ≠ z → c ≠ i1 → c ≠ i2 → hp.get? c = some o → p2.get? c = some o := fun c o c1 c2 c3 e => hp2.extBut _ _ c3 (hp1.extBut _ _ c2 (hs0.extBut _ _ c1 e))
  have hj1 : St1 (i + 1) p2 := D1.over sn1 hp2 S.sep2_1
  refine wpAny_pure ⟨_, rfl, ?_⟩
  show Q (.ref p2.objs.size) _
  have hp' : IsTupOf2 (p2.push { cls := .type "tuple", data := .seq #[x1, x2] }) p2.objs.size x1 x2 := Heap.get?_push_size _ rfl
  rw [hsz] at hp' ⊢
  exact hQ x1 x2 _ tk2 hx1 hx2 (Heap.get?_push_of_some _ hz3) (D1.frame _ _ _ hj1 fun b _ o e => Heap.get?_push_of_some _ e) (D2.frame _ _ _ sn2 fun b _ o e => Heap.get?_push_of_some _ e) hp'
    fun c o c1 c2 c3 e => Heap.get?_push_of_some _ (hk c o c1 c2 c3 e)
theorem zipH_end {T : Addr} {f : Bool} {oT : Obj} {Q : Fin → Shared → Prop} (S : ZipSep2 z TI TO i1 i2 fp1 fp2) (D1 : Draws prog w A i1 fp1 n1 P1 St1) (D2 : Draws prog w A i2 fp2 n2 P2 St2)
    (hz : IsZipHeld s.heap z TI TO T f) (hT : s.heap.get? T = some oT) (hTI : IsTupOf2 s.heap TI (.ref i1) (.ref i2)) (st1 : St1 i s.heap) (st2 : St2 i s.heap) (hle1 : i ≤ n1) (hle2 : i ≤ n2) (hend : i = n1 ∨ i = n2)
    (hE : ∀ h' tk e, (∀ c o, c ≠ z → c ≠ i1 → c ≠ i2 → s.heap.get? c = some o → h'.get? c = some o) → (∃ o, h'.get? e = some o ∧ o.cls = .type "StopIteration") → E (.ref e) { s with heap := h', toks := tk }) :
    wpAny (model prog w) A (Builtin.«zip.__next__» ⟨[.ref z], []⟩) Q E s := by
  obtain ⟨hp, g, d, tk0, os⟩ := s
  show wpAny _ _ (field (.ref z) 2 >>= _) _ _ _
  refine wpAny_bind (wpAny_field hz rfl (x := .bool false) rfl ?_)
  show wpAny _ _ (field (.ref z) 3 >>= _) _ _ _
  refine wpAny_bind (wpAny_field hz rfl (x := .ref TI) rfl ?_)
  refine wpAny_bind (wpAny_seqItems hTI rfl ?_)
  show wpAny _ _ (Builtin.SmallTypes.ownedTupleIsFree (.ref z) >>= _) _ _ _
  refine wpAny_bind (wpAny_tupleHeld_zip hz hT fun g0 hz0 hs0 => ?_)
  replace hs0 : Heap.SameBut z hp g0 := hs0
  simp only [Bool.false_eq_true, if_false]
  refine wpAny_bind ?_
  rw [← Array.forIn_toList]
  simp only [List.forIn_cons, List.forIn_nil]
  refine wpAny_bind (wpAny_bind (wpAny_holding ?_))
  show wpAny _ _ (Builtin.SmallTypes.nextOf (.ref i1) >>= _) _ _ ⟨g0, g, d, tk0, os⟩
  by_cases hlt1 : i < n1
  · refine wpAny_bind (D1.item i _ _ _ hlt1 (D1.over st1 hs0 S.zf1) fun x1 p1 tk1 hx1 sn1 hp1 => wpAny_pure ?_)
    replace hp1 : Heap.SameBut i1 g0 p1 := hp1
    refine wpAny_pure ?_
    have hi2 : i = n2 := by omega
    refine wpAny_bind (wpAny_bind (wpAny_holding ?_))
    show wpAny _ _ (Builtin.SmallTypes.nextOf (.ref i2) >>= _) _ _ ⟨p1, g, d, tk1, os⟩
    refine wpAny_bind (D2.done ⟨p1, g, d, tk1, os⟩ _ _ (by rw [← hi2]; exact D2.over (D2.over st2 hs0 S.zf2) hp1 S.sep1_2) fun q e hq he => ?_)
    exact hE q tk1 e (fun c o c1 c2 c3 x => hq _ _ c3 (hp1.extBut _ _ c2 (hs0.extBut _ _ c1 x))) he
  · have hi1 : i = n1 := by omega
    refine wpAny_bind (D1.done ⟨g0, g, d, tk0, os⟩ _ _ (by rw [← hi1]; exact D1.over st1 hs0 S.zf1) fun q e hq he => ?_)
    exact hE q tk0 e (fun c o c1 c2 _ x => hq _ _ c2 (hs0.extBut _ _ c1 x)) he
theorem pyNext_zipH {T : Addr} {f : Bool} {oT : Obj} {Q : Option Value → Shared → Prop} (S : ZipSep2 z TI TO i1 i2 fp1 fp2) (D1 : Draws prog w A.in1 i1 fp1 n1 P1 St1) (D2 : Draws prog w A.in1 i2 fp2 n2 P2 St2)
    (hz : IsZipHeld s.heap z TI TO T f) (hT : s.heap.get? T = some oT) (hTI : IsTupOf2 s.heap TI (.ref i1) (.ref i2)) (st1 : St1 i s.heap) (st2 : St2 i s.heap) (hlt1 : i < n1) (hlt2 : i < n2)
    (hQ : ∀ x1 x2 h' tk, P1 i x1 → P2 i x2 → IsZipHeld h' z TI TO T true → St1 (i + 1) h' → St2 (i + 1) h' → IsTupOf2 h' s.heap.objs.size x1 x2 →
      (∀ c o, c ≠ z → c ≠ i1 → c ≠ i2 → s.heap.get? c = some o → h'.get? c = some o) → Q (some (.ref s.heap.objs.size)) { s with heap := h', toks := tk }) :
    wpAny (model prog w) A (pyNext (.ref z)) Q E s := by
  have hTy : s.TypeIs (.ref z) "zip" := ⟨_, hz, rfl⟩
  unfold pyNext
  exact wpAny_bind (wpAny_attempt (wpAny_callSpecial?_slot (name := Str.ofString "__next__") hTy F.slot_zip_next
    (wpAny_call_entry F.slot_zip_next hTy F.entry_zip_next
      (zipH_next S D1 D2 hz hT hTI st1 st2 hlt1 hlt2 fun x1 x2 h' tk y1 y2 b1 d1 d2 b5 b7 => wpAny_pure (hQ x1 x2 h' tk y1 y2 b1 d1 d2 b5 b7)) (F.args_zip_next_1 _))))
theorem pyNext_zipH_end {T : Addr} {f : Bool} {oT : Obj} {Q : Option Value → Shared → Prop} (S : ZipSep2 z TI TO i1 i2 fp1 fp2) (D1 : Draws prog w A.in1 i1 fp1 n1 P1 St1) (D2 : Draws prog w A.in1 i2 fp2 n2 P2 St2)
    (hz : IsZipHeld s.heap z TI TO T f) (hT : s.heap.get? T = some oT) (hTI : IsTupOf2 s.heap TI (.ref i1) (.ref i2)) (st1 : St1 i s.heap) (st2 : St2 i s.heap) (hle1 : i ≤ n1) (hle2 : i ≤ n2) (hend : i = n1 ∨ i = n2)
    (hQ : ∀ h' tk, (∀ c o, c ≠ z → c ≠ i1 → c ≠ i2 → s.heap.get? c = some o → h'.get? c = some o) → Q none { s with heap := h', toks := tk }) : wpAny (model prog w) A (pyNext (.ref z)) Q E s := by
  have hTy : s.TypeIs (.ref z) "zip" := ⟨_, hz, rfl⟩
  unfold pyNext
  refine wpAny_bind (wpAny_attempt (wpAny_callSpecial?_slot (name := Str.ofString "__next__") hTy F.slot_zip_next
    (wpAny_call_entry F.slot_zip_next hTy F.entry_zip_next (zipH_end S D1 D2 hz hT hTI st1 st2 hle1 hle2 hend fun h' tk e hk he => ?_) (F.args_zip_next_1 _))))
  obtain ⟨o, ho, hc⟩ := he
  refine wpAny_bind (wpAny_isInstance (T := "StopIteration") (b := true) ⟨o, ho, hc⟩ isSubtype_stop ?_)
  exact wpAny_pure (hQ _ _ hk)
end
/-- zip of a list and a tuple, as many items, for dict() -/
theorem PairArg.zipLT {prog : Program} {w : World} (z TI TO i1 i2 l1 l2 : Addr) (D : ZipApart z TI TO i1 i2 l1 l2) (xs ys : Array Value) (hn : xs.size = ys.size) :
    PairArg prog w "zip" z [z, TI, TO, i1, i2, l1, l2] [z, TO, i1, i2] xs.size (fun i k v => xs[i]? = some k ∧ ys[i]? = some v)
      (fun h => IsZip h z TI TO .none ∧ IsPair h TI (.ref i1) (.ref i2) ∧ (∃ a b, IsPair h TO a b) ∧ h.IsListIter i1 l1 0 ∧ h.IsTupleIter i2 l2 0 ∧ h.IsList l1 xs ∧ h.IsTuple l2 ys) where
  type := fun s ok => ⟨_, ok.1, rfl⟩
  notDict := by decide
  keep := fun h h' ok hk => by
    obtain ⟨hz, hTI, ⟨a, b, hTO⟩, h1, h2, hl1, hl2⟩ := ok
    exact ⟨hk _ _ hz, hk _ _ hTI, ⟨a, b, hk _ _ hTO⟩, h1.at fun o e => hk _ o e, h2.at fun o e => hk _ o e, hl1.at fun o e => hk _ o e, hl2.at fun o e => hk _ o e⟩
  there := fun h ok b hb => by
    obtain ⟨hz, hTI, ⟨a, c, hTO⟩, ⟨o1, h1, _⟩, ⟨o2, h2, _⟩, ⟨o3, hl1, _⟩, ⟨o4, hl2, _⟩⟩ := ok
    simp only [List.mem_cons, List.not_mem_nil, or_false] at hb
    rcases hb with rfl | rfl | rfl | rfl | rfl | rfl | rfl
    all_goals first | exact ⟨_, hz⟩ | exact ⟨_, hTI⟩ | exact ⟨_, hTO⟩ | exact ⟨_, h1⟩ | exact ⟨_, h2⟩ | exact ⟨_, hl1⟩ | exact ⟨_, hl2⟩
  sub := fun b hb => by simp at hb ⊢; rcases hb with rfl | rfl | rfl | rfl <;> simp
  noKeys := fun A s Q E hA ok h => getAttrOr_miss_zip ok.1 rfl rfl rfl zip_no_keys (by decide +kernel) hA h
  iter := fun A s d Q E hA ok hd hdf h => by
    obtain ⟨hz, hTI, ⟨a, b, hTO⟩, h1, h2, hl1, hl2⟩ := ok
    simp only [List.mem_cons, List.not_mem_nil, or_false, not_or] at hdf
    obtain ⟨dz, dTI, dTO, di1, di2, dl1, dl2⟩ := hdf
    have hh : A.in1.handled = none := hA
    have D1 := Draws.list (prog := prog) (w := w) hh i1 l1 D.l1i1 xs
    have D2 := Draws.tuple (prog := prog) (w := w) hh i2 l2 D.l2i2 ys
    have S : ZipSep2 z TI TO i1 i2 [i1, l1] [i2, l2] := {
      TIz := D.TIz, TOz := D.TOz, TITO := D.TITO, TIi1 := D.TIi1, TIi2 := D.TIi2
      mem1 := by simp
      mem2 := by simp
      zf1 := by simp; exact ⟨D.i1z.symm, D.l1z.symm⟩
      Tf1 := by simp; exact ⟨D.TOi1, D.l1TO.symm⟩
      zf2 := by simp; exact ⟨D.i2z.symm, D.l2z.symm⟩
      Tf2 := by simp; exact ⟨D.TOi2, D.l2TO.symm⟩
      sep1_2 := by simp; exact ⟨D.i12, D.l2i1.symm⟩
      sep2_1 := by simp; exact ⟨D.i12.symm, D.l1i2.symm⟩ }
    refine wpAny_pyIter_zip hz (h z [z, TO, i1, i2] (fun i h => IsPair h TI (.ref i1) (.ref i2) ∧ h.IsListIter i1 l1 i ∧ h.IsTupleIter i2 l2 i ∧ h.IsList l1 xs ∧ h.IsTuple l2 ys ∧
      ((IsZip h z TI TO .none ∧ ∃ a b, IsPair h TO a b) ∨ ∃ T f oT, IsZipHeld h z TI TO T f ∧ h.get? T = some oT ∧ T ≠ z ∧ T ≠ i1 ∧ T ≠ i2 ∧ T ≠ d)) s.heap s.toks ?_
      ⟨hTI, h1, h2, hl1, hl2, .inl ⟨hz, a, b, hTO⟩⟩ (fun _ _ e => e) fun b hb => .inl hb)
    exact {
      off := fun hm => by
        simp only [List.mem_cons, List.not_mem_nil, or_false] at hm
        rcases hm with e | e | e | e
        · exact dz e
        · exact dTO e
        · exact di1 e
        · exact di2 e
      frame := fun i h₁ h₂ st hk => by
        obtain ⟨hTI, h1, h2, hl1, hl2, hz⟩ := st
        refine ⟨hk _ _ (Ne.symm dTI) hTI, h1.at fun o e => hk _ o (Ne.symm di1) e, h2.at fun o e => hk _ o (Ne.symm di2) e, hl1.at fun o e => hk _ o (Ne.symm dl1) e, hl2.at fun o e => hk _ o (Ne.symm dl2) e, ?_⟩
        rcases hz with ⟨hz, a, b, hTO⟩ | ⟨T, f, oT, hz, hT, r1, r2, r3, r4⟩
        · exact .inl ⟨hk _ _ (Ne.symm dz) hz, a, b, hk _ _ (Ne.symm dTO) hTO⟩
        · exact .inr ⟨T, f, oT, hk _ _ (Ne.symm dz) hz, hk _ _ r4 hT, r1, r2, r3, r4⟩
      item := fun i s₁ Q₁ E₁ hi st hds hQ => by
        obtain ⟨hTI, h1, h2, hl1, hl2, hz⟩ := st
        have lt : ∀ {c o}, s₁.heap.get? c = some o → s₁.heap.objs.size ≠ c := fun e => Nat.ne_of_gt (Heap.lt_size e)
        have n1 : s₁.heap.objs.size ≠ i1 := let ⟨_, e, _⟩ := h1; lt e
        have n2 : s₁.heap.objs.size ≠ i2 := let ⟨_, e, _⟩ := h2; lt e
        rcases hz with ⟨hz, a, b, hTO⟩ | ⟨T, f, oT, hz, hT, r1, r2, r3, r4⟩
        · refine wpAny_pyNext_zipD2_item S D1 D2 hz hTI hTO ⟨h1, hl1⟩ ⟨h2, hl2⟩ hi (by rw [← hn]; exact hi) fun x1 x2 h' tk p1 p2 a1 a2 a3 a4 a5 a6 hk => ?_
          exact hQ s₁.heap.objs.size _ _ h' tk ⟨p1, p2⟩ (.inl ⟨_, a5, rfl, _, rfl⟩)
            ⟨hk _ _ D.TIz D.TITO D.TIi1 D.TIi2 hTI, a3.1, a4.1, a3.2, a4.2, .inr ⟨s₁.heap.objs.size, false, _, a1, a5, lt hz, n1, n2, Nat.ne_of_gt hds⟩⟩
            fun c o hc e => hk c o (fun x => hc (by simp [x])) (fun x => hc (by simp [x])) (fun x => hc (by simp [x])) (fun x => hc (by simp [x])) e
        · refine pyNext_zipH S D1 D2 hz hT hTI ⟨h1, hl1⟩ ⟨h2, hl2⟩ hi (by rw [← hn]; exact hi) fun x1 x2 h' tk p1 p2 a1 a3 a4 a5 hk => ?_
          exact hQ s₁.heap.objs.size _ _ h' tk ⟨p1, p2⟩ (.inl ⟨_, a5, rfl, _, rfl⟩)
            ⟨hk _ _ D.TIz D.TIi1 D.TIi2 hTI, a3.1, a4.1, a3.2, a4.2, .inr ⟨T, true, oT, a1, hk _ _ r1 r2 r3 hT, r1, r2, r3, r4⟩⟩
            fun c o hc e => hk c o (fun x => hc (by simp [x])) (fun x => hc (by simp [x])) (fun x => hc (by simp [x])) e
      done := fun s₁ Q₁ E₁ st hQ => by
        obtain ⟨hTI, h1, h2, hl1, hl2, hz⟩ := st
        rcases hz with ⟨hz, a, b, hTO⟩ | ⟨T, f, oT, hz, hT, r1, r2, r3, r4⟩
        · exact wpAny_pyNext_zipD2_end S D1 D2 hz hTI hTO ⟨h1, hl1⟩ ⟨h2, hl2⟩ (Nat.le_refl _) (Nat.le_of_eq hn) (.inl rfl) fun h' tk hk => hQ h' tk fun c o hc e => hk c o (fun x => hc (by simp [x])) (fun x => hc (by simp [x])) (fun x => hc (by simp [x])) (fun x => hc (by simp [x])) e
        · exact pyNext_zipH_end S D1 D2 hz hT hTI ⟨h1, hl1⟩ ⟨h2, hl2⟩ (Nat.le_refl _) (Nat.le_of_eq hn) (.inl rfl) fun h' tk hk => hQ h' tk fun c o hc e => hk c o (fun x => hc (by simp [x])) (fun x => hc (by simp [x])) (fun x => hc (by simp [x])) e }
end GX
namespace GX
open PySem PySem.Spec PyProof.Rows L2
/-- dict(zip(x, y)), x a list of ints, y a tuple of as many -/
def tDictZip (K : PySem.W.Frag) (t1 t2 : TE) : TE := fun σ H Q => tCons t1 (tCons t2 tNil) σ H fun vs H2 => ∃ a b, ∃ (ns : List Int) (us : List V), vs = [.ref a, .ref b] ∧ SqL K H2 a (ns.map V.int) ∧ SqT K H2 b us ∧ ns.length = us.length ∧
  ∀ p, H2 p = none → Q (.ref p) (upd H2 p (.dK (mergeK [] ((ns.zip us).map fun q => (Sum.inl q.1, q.2)))))
theorem vals_at {vs : List V} {us : List Value} (r : Vals vs us) {i : Nat} {u : Value} (h : us[i]? = some u) : ∃ v, vs[i]? = some v ∧ RelV v u := by
  induction r generalizing i with
  | nil => simp at h
  | cons hr _ ih =>
    cases i with
    | zero => exact ⟨_, rfl, by simp at h; rw [← h]; exact hr⟩
    | succ i => obtain ⟨v, h1, h2⟩ := ih (i := i) (by simpa using h); exact ⟨v, by simpa using h1, h2⟩
theorem kv_zip : ∀ {ns : List Int} {xs : List V} {us : List Value}, Vals xs us → ns.length = xs.length → KV ((ns.zip xs).map fun q => ((Sum.inl q.1 : Key), q.2)) ((ns.zip us).map fun q => ((Sum.inl q.1 : Key), q.2))
  | [], _, _, _, _ => .nil
  | _ :: _, _, _, .nil, h => by simp at h
  | _ :: _, _, _, .cons r t, h => .cons ⟨rfl, r⟩ (kv_zip t (by simpa using h))
theorem pe_dictZip {X : Cx} (hc : X.calm = true) (hg : Gl X "dict") (hm : X.mg "dict" = none) (hgz : Gl X "zip") (hmz : X.mg "zip" = none) {e1 e2 : Expr} {t1 t2 : TE} (h1 : PE X e1 t1) (h2 : PE X e2 t2) {p p2 pos pos2 : Pos}
    (hst : starEach [e1, e2] X.env = (false, eval e1 X.env) :: starEach [e2] X.env := by rfl) (hst2 : starEach [e2] X.env = (false, eval e2 X.env) :: starEach [] X.env := by rfl) (hpl : (backTo pos2 (starEach [e2] X.env)).any (·.1) = false := by rfl)
    (hs0 : starEach [.Call (.Name "zip" p2) [e1, e2] [] pos2] X.env = (false, eval (.Call (.Name "zip" p2) [e1, e2] [] pos2) X.env) :: starEach [] X.env := by rfl) :
    PE X (.Call (.Name "dict" p) [.Call (.Name "zip" p2) [e1, e2] [] pos2] [] pos) (tDictZip X.K t1 t2) := by
  refine ⟨fun pins s σ H Q I h => ?_⟩
  refine Call_ (ld_blt I hg hm (by decide +kernel) (callWith_type1 (T := "dict") ?_ hs0 rfl))
  rw [hs0]
  show wpAny _ _ (spliced ((false, eval (.Call (.Name "zip" p2) [e1, e2] [] pos2) X.env) :: backTo pos (starEach [] X.env))) _ _ s
  refine Calls.spliced_cons (Call_ (ld_blt I hgz hmz PyProof.Rows.boot_zip (PyProof.Rows.callWith_type1 (thn ((pa_cons h1 (pa_cons h2 pa_nil hst2) hst).run pos2 pins s σ H _ I h) fun us s1 ⟨vs, H1, I1, r1, q1⟩ => ?_) hst hpl)))
  obtain ⟨a, b, ns, xs, ex, hqx, hqy, hln, q⟩ := q1
  subst ex
  cases r1 with
  | cons r rr =>
    cases rr with
    | cons r' rr =>
      cases rr
      cases r
      cases r'
      obtain ⟨its, rv, p1, z1⟩ := I1.list hqx
      obtain ⟨its2, rv2, p2', z2⟩ := I1.tuple hqy
      obtain ⟨o2, ho2, _⟩ := id p2'
      have la : its.length = ns.length := by have := rv.length; rw [List.length_map] at this; omega
      have lb : its2.length = xs.length := rv2.length.symm
      refine zip_begins2 (begins_list a its.toArray) (begins_tuple b its2.toArray) p1.isList (show s1.heap.IsTuple b its2.toArray from p2') fun h' hz hTI hTO g1 g2 hsz hk => Calls.spliced_nil ?_
      have I2 : Inv X pins σ H1 { s1 with heap := h' } := I1.kept (t' := s1.toks) hk
      have nl : ∀ {c o}, s1.heap.get? c = some o → c < s1.heap.objs.size := fun e => Heap.lt_size e
      refine PySem.call_dict_pairs (s := { s1 with heap := h' }) (knd := mixKind X.prog X.w) (kvs := (ns.zip its2).map fun q => ((Sum.inl q.1 : Key), q.2))
        (PairArg.zipLT (s1.heap.objs.size + 4) (s1.heap.objs.size + 2) (s1.heap.objs.size + 3) s1.heap.objs.size (s1.heap.objs.size + 1) a b (PySem.W.ktu_apart s1.heap.objs.size a b p1.lt (nl ho2)) its.toArray its2.toArray (by simp; omega)) (I1.ok.hd hc)
        ⟨hz, hTI, ⟨_, _, hTO⟩, ⟨_, g1, rfl, rfl⟩, ⟨_, g2, rfl, rfl⟩, p1.isList.at fun o e => hk _ o e, (show s1.heap.IsTuple b its2.toArray from p2').at fun o e => hk _ o e⟩ ⟨?_, ?_⟩ ?_ fun h'' tk hd' hk' => ?_
      · simp; omega
      · rintro i key v ⟨e1, e2⟩
        have e1' : its[i]? = some key := by simpa using e1
        have e2' : its2[i]? = some v := by simpa using e2
        obtain ⟨v0, hv0, rk⟩ := vals_at rv e1'
        rw [List.getElem?_map] at hv0
        obtain ⟨n, hn, rfl⟩ := Option.map_eq_some_iff.mp hv0
        refine ⟨.inl n, ?_, kV_is (k := .inl n) rk⟩
        have ez : (ns.zip its2)[i]? = some (n, v) := List.getElem?_zip_eq_some.mpr ⟨hn, e2'⟩
        rw [List.getElem?_map, ez]; rfl
      · simpa using (show its.length ≤ sizeLine from by have := rv.length; omega)
      · have kp : ∀ c o, s1.heap.get? c = some o → h''.get? c = some o := fun c o e => hk' c o (by
          have := Heap.lt_size e
          simp only [List.mem_cons, List.not_mem_nil, or_false, not_or]
          exact ⟨Nat.ne_of_lt (Nat.lt_of_lt_of_le this (Nat.le_add_right _ _)), Nat.ne_of_lt (Nat.lt_of_lt_of_le this (Nat.le_add_right _ _)), Nat.ne_of_lt this, Nat.ne_of_lt (Nat.lt_of_lt_of_le this (Nat.le_add_right _ _))⟩) (hk c o e)
        have I3 : Inv X pins σ H1 { s1 with heap := h'', toks := tk } := I1.kept (t' := tk) kp
        have hf : H1 h'.objs.size = none := I1.hok.fresh (by show s1.heap.objs.size ≤ _; rw [hsz]; exact Nat.le_add_right _ _)
        have rk : KV ((ns.zip xs).map fun q => ((Sum.inl q.1 : Key), q.2)) ((ns.zip its2).map fun q => ((Sum.inl q.1 : Key), q.2)) := kv_zip rv2 hln
        refine ⟨.ref h'.objs.size, upd H1 h'.objs.size _, I1.laid (t' := tk) kp (by show s1.heap.objs.size ≤ _; rw [hsz]; exact Nat.le_add_right _ _) (show ObjOk X.prog X.w _ _ _ (.dK (mergeK [] ((ns.zip xs).map fun q => ((Sum.inl q.1 : Key), q.2)))) from ⟨?_, ?_, merged [] _, KV.merge rk .nil, hd'⟩), rfl, q _ hf⟩
        · refine Nat.le_trans (length_mergeK _ []) ?_
          simp
          omega
        · exact beq_eq_false_iff_ne.mpr (by rw [hsz]; exact Nat.ne_of_gt (Nat.lt_of_lt_of_le I1.big (Nat.le_add_right _ _)))
end GX

set_option Elab.async false
set_option linter.all false
set_option maxRecDepth 100000
set_option maxHeartbeats 4000000
/-! GX2: sorted tuples of ints, sum(d.values()), d.items(), a display, a step range as a list, a back slice: of dicts with tuple keys. -/
namespace GX
open PySem PySem.Spec PyProof.Rows L2 Builtin
/-! ### sorting tuples of d ints, any number -/
section
variable {prog : Program} {w : World} {A : Around} {E : Value → Shared → Prop} {s : Shared}
theorem lex_allI {b : Bool} {Q : Bool → Shared → Prop} {xs ys : List Value} {ns ms : List Int} (i : Nat) (hx : IntsAre xs ns) (hy : IntsAre ys ms) (hl : ns.length = ms.length)
    (h : Q (HT.lexLt ns ms) s) : PySem.W.KatLex prog w A b false Q (xs.zip ys) i s := by
  induction hx generalizing ys ms i with
  | nil =>
    cases hy with
    | nil => exact PySem.W.kat_nil h
    | cons q u hy => simp at hl
  | @cons p t xs ns hx ih =>
    cases hy with
    | nil => simp at hl
    | @cons q u ys ms hy =>
      have hl' : ns.length = ms.length := by simpa using hl
      rw [HT.lexLt_cons] at h
      show PySem.W.KatLex prog w A b false Q ((Value.int p t, Value.int q u) :: xs.zip ys) i s
      refine PySem.W.kat_cons (wpAny_eqBool_int ?_)
      by_cases e : p = q
      · subst e
        rw [beq_self_eq_true]
        rw [if_pos rfl] at h
        refine PySem.W.kat_yes ?_
        exact ih (i + 1) hy hl' h
      · rw [show (p == q) = false from beq_eq_false_iff_ne.mpr e]
        rw [if_neg e] at h
        exact PySem.W.kat_no (TS.oneLt_ints _ h)
def TupsL (h : Heap) (d : Nat) (vs : List Value) : Prop := ∀ v, v ∈ vs → ∃ ns, TS.TupInts h v ns ∧ ns.length = d
theorem TupsL.keeps {h h' : Heap} {d : Nat} {vs : List Value} (x : TupsL h d vs) (k : ∀ b o, h.get? b = some o → o.cls = .type "tuple" → h'.get? b = some o) : TupsL h' d vs := fun v hv =>
  let ⟨ns, t, r⟩ := x v hv; ⟨ns, t.keeps k, r⟩
theorem firsts_ofL {h : Heap} {d : Nat} (hd : 1 ≤ d) : ∀ vs : List Value, TupsL h d vs → ∃ fs, PySem.W.KatTups h vs fs ∧ fs.length = vs.length ∧ ∀ f, f ∈ fs → ∃ n t, f = Value.int n t
  | [], _ => ⟨[], PySem.W.KatTups.nil, rfl, fun f hf => by simp at hf⟩
  | v :: vs, x => by
    obtain ⟨fs, k, hl, hi⟩ := firsts_ofL hd vs fun u hu => x u (List.mem_cons_of_mem _ hu)
    obtain ⟨ns, ⟨a, xs, rfl, ⟨o, ho, hc, n, hdt⟩, i⟩, hn⟩ := x v (List.mem_cons_self ..)
    obtain ⟨y, ys, e⟩ : ∃ y ys, xs.toList = y :: ys := by
      cases q : xs.toList with
      | nil =>
        rw [q] at i
        have l := i.length
        rw [List.length_nil, hn] at l
        omega
      | cons y ys => exact ⟨y, ys, rfl⟩
    obtain ⟨m, t, hy⟩ := i.all y (by rw [e]; exact List.mem_cons_self ..)
    refine ⟨y :: fs, PySem.W.KatTups.cons ho hc hdt ?_ k, by simp [hl], ?_⟩
    · have z := congrArg (fun l : List Value => l[0]?) e
      simpa using z
    · intro f hf
      rcases List.mem_cons.mp hf with rfl | hf
      · exact ⟨m, t, hy⟩
      · exact hi f hf
theorem tups_cmp {d : Nat} {vs : List Value} (x : TupsL s.heap d vs) {k : Value → List Int} (hk : ∀ v ∈ vs, k v = TS.intsOf s.heap v) : SrtO.Cmp prog w A s (tuples' true) (fun p => p.1 ∈ vs) (SrtO.lt2 fun v u => HT.lexLt (k v) (k u)) := by
  intro p q hm hm'
  show wpAny (model prog w) A (keyLt' (tuples' true) p.1 q.1) (fun r s' => s' = s ∧ r = HT.lexLt (k p.1) (k q.1)) (fun _ _ => False) s
  rw [hk _ hm, hk _ hm']
  obtain ⟨ns, tp, lp⟩ := x _ hm
  obtain ⟨ms, tq, lq⟩ := x _ hm'
  rw [tp.ints, tq.ints]
  obtain ⟨a, xs, e1, ⟨o, ho, hc, n, hdt⟩, i⟩ := tp
  obtain ⟨a', ys, e2, ⟨o', ho', hc', n', hdt'⟩, i'⟩ := tq
  rw [e1, e2]
  refine PySem.W.kat_lt ho hdt ho' hdt' ?_
  have sz : decide (xs.size < ys.size) = false := by
    have l1 := i.length
    have l2 := i'.length
    rw [Array.length_toList] at l1 l2
    exact decide_eq_false (by omega)
  rw [sz]
  exact lex_allI 0 i i' (by omega) ⟨rfl, rfl⟩
theorem tups_sortableO {a : Addr} {d : Nat} {vs : List Value} {k : Value → List Int} (hd : 1 ≤ d) (h0 : 0 < vs.length) (x : TupsL s.heap d vs) (hk : ∀ v ∈ vs, k v = TS.intsOf s.heap v) (ha : ∀ o, s.heap.get? a = some o → o.cls ≠ .type "tuple") :
    SrtO.SortableO prog w A s a vs fun v u => HT.lexLt (k v) (k u) := by
  intro h' keep
  have kp : ∀ b o, s.heap.get? b = some o → o.cls = .type "tuple" → h'.get? b = some o := fun b o e c => keep b o (fun z => by subst z; exact ha o e c) e
  have x' : TupsL h' d vs := x.keeps kp
  obtain ⟨fs, h1, h2, h3⟩ := firsts_ofL hd vs x'
  refine ⟨tuples' true, fun Q E hq => ?_, tups_cmp (s := { s with heap := h' }) x' fun v hv => ?_⟩
  · refine PySem.W.kat_kind (T := .type "int") h1 (by omega) (fun f hm => ?_) (by rfl) ?_
    · obtain ⟨x, t, rfl⟩ := h3 f hm
      exact PySem.W.Looks.now
    · have e : (Value.type "int" != Value.type "tuple") = true := by first | decide +kernel | rfl | decide
      rw [e]
      exact hq
  · obtain ⟨ns, t, _⟩ := x v hv
    rw [hk v hv, t.ints]
    exact (t.keeps kp).ints.symm
/-- what is collected of a dict's keys, and that the heap grew -/
theorem collect_kdl {T : String} {r d : Addr} {n : Nat} {P : Nat → Value → Prop} {OK : Heap → Prop} {R : List Value → Shared → Prop} (K : PySem.W.KdlSrc prog w T r d n P OK) (hh : A.handled = none) (hok : OK s.heap) (hn : n ≤ sizeLine)
    (h : ∀ (h' : Heap) (tk : Nat) (acc : Array Value), (∀ b o, s.heap.get? b = some o → h'.get? b = some o) → PySem.ItemsOf P acc n → s.heap.objs.size < h'.objs.size → R acc.toList { s with heap := h', toks := tk }) :
    wpAny (model prog w) A (collect (.ref r)) R E s := by
  have hlt := K.there _ hok
  unfold collect
  refine wpAny_bind (wpAny_runValue (codeAny_builtin PyProof.Rows.entry_proto_collect' ?_))
  rw [Around.under_plainId PySem.F.plain_proto_collect _]
  show wpAny _ A.in1 (newList [] >>= fun l => again (.builtin "list.__iadd__" ⟨[l, .ref r], []⟩)) _ _ s
  refine wpAny_bind (wpAny_newObj_type ?_)
  refine wpAny_pure ⟨plainId_quiet PySem.F.plain_list_iadd _, codeAny_builtin PyProof.Rows.entry_list_iadd' ?_⟩
  rw [Around.under_plainId PySem.F.plain_list_iadd _]
  have hS₁ : (s.heap.push { cls := .type "list", data := .seq ([] : List Value).toArray }).get? s.heap.objs.size = some { cls := .type "list", data := .seq #[] } := Heap.get?_push_size _ rfl
  show wpAny _ A.in1 (Builtin.List.listExtendWith (.ref s.heap.objs.size) (.ref r) (.ref s.heap.objs.size)) _ _ _
  have key := PySem.W.kdl_extend (A := A) (s := { s with heap := s.heap.push { cls := .type "list", data := .seq ([] : List Value).toArray } })
    (R := fun (q : Result) (s' : Shared) => ∃ (h' : Heap) (tk : Nat) (acc' : Array Value) (c' : Nat), q = .ok (.ret (.ref s.heap.objs.size)) ∧ s' = { s with heap := h', toks := tk } ∧
      (∀ b o, s.heap.get? b = some o → h'.get? b = some o) ∧ h'.get? s.heap.objs.size = some { cls := .type "list", dict := none, data := .seq acc' c', slots := #[] } ∧ PySem.ItemsOf P acc' n)
    K hh (K.keep _ _ hok fun b _ o e => Heap.get?_push_of_some _ e) s.heap.objs.size (Nat.ne_of_gt hlt.1) (Nat.ne_of_gt hlt.2) (.ref s.heap.objs.size) 0 hS₁
    (fun h' tk acc' c' hk hS' hacc => ⟨h', tk, acc', c', rfl, rfl, fun b o e => hk b o (Nat.ne_of_lt (Heap.lt_size e)) (Heap.get?_push_of_some _ e), hS', hacc⟩) hn
  refine wpAny_mono key (fun fin s' x => ?_) fun e s' x => ?_
  · cases fin with
    | done f =>
      obtain ⟨h', tk, acc', c', e, rfl, hk, hS', hacc⟩ := x
      cases e
      show wpAny _ A (load s.heap.objs.size >>= _) _ _ _
      refine wpAny_bind (wpAny_load hS' ?_)
      exact wpAny_pure (h h' tk acc' hk hacc (Heap.lt_size hS'))
    | again c₁ =>
      refine ⟨x.1, codeAny_mono x.2 fun q s₂ y => ?_⟩
      obtain ⟨h', tk, acc', c', rfl, rfl, hk, hS', hacc⟩ := y
      show wpAny _ A (load s.heap.objs.size >>= _) _ _ _
      refine wpAny_bind (wpAny_load hS' ?_)
      exact wpAny_pure (h h' tk acc' hk hacc (Heap.lt_size hS'))
  · obtain ⟨_, _, _, _, e', _⟩ := x
    cases e'
/-- sorted(d), d a dict with tuple keys -/
theorem sorted_kdl {d : Addr} {o : Obj} {es : Array DictEntry} {ep n : Nat} {Q : Value → Shared → Prop} (hh : A.handled = none) (lo : (d == sysModules) = false) (hx : o.ExactDict) (hdt : o.data = .dict es ep) (ho : s.heap.get? d = some o) (hn : es.size ≤ sizeLine) (h1 : 1 ≤ n)
    (hT : TupsL s.heap n (es.toList.map (·.key)))
    (h : ∀ (h' : Heap) (tk : Nat) (D : Addr) (out : List Value), SrtO.Srtd (fun v u => HT.lexLt (TS.intsOf s.heap v) (TS.intsOf s.heap u)) out → out.Perm (es.toList.map (·.key)) → (∀ b o, s.heap.get? b = some o → h'.get? b = some o) → s.heap.objs.size ≤ D →
      (∃ m, h'.get? D = some (seqObj "list" out.toArray m)) → Q (.ref D) { s with heap := h', toks := tk }) :
    wpAny (model prog w) A (call (.builtin "sorted") [.ref d]) Q E s := by
  refine Calls.call_function_entry kind_sorted plain_sorted entry_sorted (args_sorted1 _) ?_
  unfold Builtin.«sorted»
  refine wpAny_bind (m := checkCount "sorted" 1 1 _) (wpAny_pure ?_)
  refine wpAny_bind (collect_kdl (A := A.in1) (kdl_raw lo hx hdt) hh ho hn fun h' tk acc hk hacc hgrow => ?_)
  have ev : acc.toList = es.toList.map (·.key) := by
    apply List.ext_getElem?
    intro j
    rw [List.getElem?_map]
    have hl : acc.toList.length = es.toList.length := by rw [Array.length_toList, Array.length_toList, hacc.1]
    cases hj : acc.toList[j]? with
    | none =>
      have h1 := List.getElem?_eq_none_iff.mp hj
      rw [List.getElem?_eq_none (by omega)]; rfl
    | some u =>
      obtain ⟨en, e1, e2⟩ := hacc.2 j u (by rw [← Array.getElem?_toList]; exact hj)
      rw [Array.getElem?_toList, e1, e2]; rfl
  rw [ev]
  refine wpAny_bind (wpAny_newList ?_ (by rw [List.length_map, Array.length_toList]; exact hn))
  have hoL : (h'.push (seqObj "list" (es.toList.map (·.key)).toArray 0)).get? h'.objs.size = some (seqObj "list" (es.toList.map (·.key)).toArray 0) := Heap.get?_push_size _ rfl
  have k2 : ∀ b o, s.heap.get? b = some o → (h'.push (seqObj "list" (es.toList.map (·.key)).toArray 0)).get? b = some o := fun b o e => Heap.get?_push_of_some _ (hk b o e)
  show wpAny _ _ _ _ _ { s with heap := h'.push (seqObj "list" (es.toList.map (·.key)).toArray 0), toks := tk }
  generalize hh2 : h'.push (seqObj "list" (es.toList.map (·.key)).toArray 0) = h2 at hoL k2 ⊢
  have hlt : s.heap.objs.size ≤ h'.objs.size := Nat.le_of_lt hgrow
  have eqi : ∀ v ∈ es.toList.map (·.key), TS.intsOf h2 v = TS.intsOf s.heap v := fun v hv => by
    obtain ⟨ns, t, _⟩ := hT v hv
    rw [t.ints]
    exact (t.keeps fun b o e _ => k2 b o e).ints
  refine wpAny_bind (wpAny_holding (wpAny_call_entry slot_list_sort ⟨_, hoL, rfl⟩ entry_list_sort (SrtO.list_sort_ord (s := { s with heap := h2, toks := tk }) (NtL.swo_lexL (TS.intsOf h2)) hoL (by rw [List.length_map, Array.length_toList]; exact hn) (fun h2' => ?_) fun out hs hb => ⟨_, rfl, ?_⟩) (args_list_sort _)))
  · refine tups_sortableO (s := { s with heap := h2, toks := tk }) (d := n) h1 (by omega) (hT.keeps fun b o e _ => k2 b o e) (fun _ _ => rfl) fun o e => ?_
    have e' : some o = some (seqObj "list" _ 0) := e.symm.trans hoL
    cases e'
    intro c
    exact absurd (Value.type.inj c) (by decide)
  · refine wpAny_pure ⟨_, rfl, h _ _ _ out ?_ hb.perm ?_ hlt (sortedHeap_at hoL)⟩
    · refine List.Pairwise.imp_of_mem (fun {x y} hx hy q => ?_) hs
      have q' : HT.lexLt (TS.intsOf h2 y) (TS.intsOf h2 x) = false := q
      rw [eqi y (hb.perm.mem_iff.mp hy), eqi x (hb.perm.mem_iff.mp hx)] at q'
      exact q'
    · intro b o e
      have hb' : b < h'.objs.size := Heap.lt_size (hk b o e)
      exact (sortedHeap_old (Nat.ne_of_lt hb') (by rw [← hh2, Heap.size_push]; exact Nat.lt_succ_of_lt hb')).trans (k2 b o e)
end
end GX

set_option Elab.async false
set_option linter.all false
set_option maxRecDepth 100000
set_option maxHeartbeats 4000000
namespace GX
open PySem PySem.Spec PyProof.Rows L2
/-! ### sorted -/
theorem pair_map {G : List Int → Addr → Prop} {h : Heap} {bs : List Addr} {L : List (List Int)} (P : Paired G L bs) (hi : ∀ ns b, G ns b → TS.intsOf h (.ref b) = ns) : L = bs.map fun b => TS.intsOf h (.ref b) := by
  induction P with
  | nil => rfl
  | cons g _ ih => rw [List.map_cons, hi _ _ g, ← ih]
theorem pair_mem {G : List Int → Addr → Prop} {bs : List Addr} {L : List (List Int)} (P : Paired G L bs) : ∀ b ∈ bs, ∃ ns ∈ L, G ns b := by
  induction P with
  | nil => intro b hb; cases hb
  | cons g _ ih =>
    intro b hb
    rcases List.mem_cons.mp hb with rfl | hb
    · exact ⟨_, List.mem_cons_self, g⟩
    · obtain ⟨ns, h1, h2⟩ := ih b hb
      exact ⟨ns, List.mem_cons_of_mem _ h1, h2⟩
theorem pair_of {G : List Int → Addr → Prop} {f : Addr → List Int} : ∀ {bs : List Addr}, (∀ b ∈ bs, G (f b) b) → Paired G (bs.map f) bs
  | [], _ => .nil
  | b :: bs, h => .cons (h b List.mem_cons_self) (pair_of fun c hc => h c (List.mem_cons_of_mem _ hc))
theorem pair_back {G : List Int → Addr → Prop} {h : Heap} {bs : List Addr} {L : List (List Int)} (P : Paired G L bs) (hi : ∀ ns b, G ns b → TS.intsOf h (.ref b) = ns) {out : List Value} (hp : out.Perm (bs.map Value.ref)) :
    ∃ bs' : List Addr, out = bs'.map Value.ref ∧ bs'.Perm bs ∧ (bs'.map fun b => TS.intsOf h (.ref b)).Perm L ∧ Paired G (bs'.map fun b => TS.intsOf h (.ref b)) bs' := by
  have hr : ∀ v ∈ out, ∃ t, v = Value.ref t := fun v hv => by
    obtain ⟨t, _, e⟩ := List.mem_map.mp (hp.mem_iff.mp hv)
    exact ⟨t, e.symm⟩
  have e1 := L2.ref_map hr
  have hp2 : (out.map L2.adO).Perm bs := by
    have := hp.map L2.adO
    rw [L2.ad_map] at this
    exact this
  refine ⟨out.map L2.adO, e1, hp2, ?_, pair_of fun b hb => ?_⟩
  · rw [pair_map P hi]; exact hp2.map _
  · obtain ⟨ns, _, g⟩ := pair_mem P b (hp2.mem_iff.mp hb)
    rw [hi _ _ g]; exact g
def rSortX (K : PySem.W.Frag) : List V → Hp → VK → Prop := fun vs H Q => ∃ (a : Addr) (bs : List Addr) (L : List (List Int)) (d : Nat) (G : List Int → Addr → Prop), vs = [V.ref a] ∧ SqL K H a (bs.map V.ref) ∧ Paired G L bs ∧ (∀ ns b, G ns b → SqT K H b (ns.map V.int)) ∧ 1 ≤ d ∧ (∀ ns ∈ L, ns.length = d) ∧
  ∀ (L' : List (List Int)) (bs' : List Addr) (p : Addr), L'.Perm L → L'.Pairwise (fun x y => HT.lexLt y x = false) → Paired G L' bs' → H p = none → Q (.ref p) (upd H p (.lst (bs'.map V.ref)))
theorem cr_sortedX {X : Cx} : CallR X (.builtin "sorted") (rSortX X.K) := by
  intro pins s σ H vs us Q I r h
  obtain ⟨a, bs, L, d, G, rfl, hs, hP, hG, hd, hL, q⟩ := h
  obtain ⟨its, rv, hl, hz⟩ := I.list hs
  have ei := refs_at rv
  subst ei
  rw [Vals.ref1 r]
  have hi : ∀ ns b, G ns b → TS.intsOf s.heap (.ref b) = ns := fun ns b hb => (tupI_raw I (hG ns b hb)).ints
  have hT : TupsL s.heap d (bs.map Value.ref) := fun v hv => by
    obtain ⟨b, hb, rfl⟩ := List.mem_map.mp hv
    obtain ⟨ns, hn, g⟩ := pair_mem hP b hb
    exact ⟨ns, tupI_raw I (hG ns b g), hL ns hn⟩
  have hz' : (bs.map Value.ref).length ≤ sizeLine := by rw [List.length_map] at hz ⊢; exact hz
  refine SrtO.sorted_ord (NtL.swo_lexL (TS.intsOf s.heap)) hl.isList hz' (fun h2 h₁ c hc kk => ?_) fun out h1 h2 => ?_
  · refine tups_sortableO (s := { s with heap := h₁ }) hd (by omega) (hT.keeps fun b o e _ => (kk b o e).2) (fun v hv => ?_) fun o e => ?_
    · obtain ⟨ns, t, _⟩ := hT v hv
      rw [t.ints]
      exact (t.keeps fun b o e _ => (kk b o e).2).ints.symm
    · have e' : some o = some (seqObj "list" _ 0) := e.symm.trans hc
      cases e'
      intro c
      exact absurd (Value.type.inj c) (by decide)
  · obtain ⟨bs', eo, hp, hpL, hPa⟩ := pair_back hP hi h2.perm
    obtain ⟨ep, he'⟩ := sortedAll_at s.heap (bs.map Value.ref) out.toArray
    have hlen : (bs'.map V.ref).length ≤ sizeLine := by rw [List.length_map, hp.length_eq]; rw [List.length_map] at hz'; exact hz'
    subst eo
    refine ⟨.ref _, upd H (s.heap.objs.size + 1) (.lst (bs'.map V.ref)), I.laid (t' := s.toks) (fun _ _ => sortedAll_old) (Nat.le_succ _) ⟨hlen, bs'.map Value.ref, ep, vals_refs bs', he'⟩, rfl, q _ bs' _ hpL ?_ hPa (I.hok.fresh (Nat.le_succ _))⟩
    have h1' : (bs'.map Value.ref).Pairwise fun x y => HT.lexLt (TS.intsOf s.heap y) (TS.intsOf s.heap x) = false := h1
    rw [List.pairwise_map] at h1' ⊢
    exact h1'
theorem cr_sortedXK {X : Cx} (K : PySem.W.Frag) (hK : X.K = K) : CallR X (.builtin "sorted") (rSortX K) := by subst hK; exact cr_sortedX
abbrev kI (p : List Int × V) : List L2.Key × V := (p.1.map Sum.inl, p.2)
theorem kI_vs (ns : List Int) : ((ns.map Sum.inl : List L2.Key)).map kV = ns.map V.int := by rw [List.map_map]; rfl
def rSortDT : List V → Hp → VK → Prop := fun vs H Q => ∃ (a : Addr) (D : List (List Int × V)) (d : Nat), vs = [V.ref a] ∧ H a = some (.dT (D.map kI)) ∧ 1 ≤ d ∧ (∀ p ∈ D, p.1.length = d) ∧
  ∀ (L' : List (List Int)) (bs' : List Addr) (p : Addr), L'.Perm (D.map (·.1)) → L'.Pairwise (fun x y => HT.lexLt y x = false) → Paired (fun ns b => H b = some (.tup (ns.map V.int))) L' bs' → H p = none → Q (.ref p) (upd H p (.lst (bs'.map V.ref)))
theorem kt_pairs {H : Hp} : ∀ {D : List (List Int × V)} {xs : List (List L2.Key × Addr × Value)}, KT H (D.map kI) xs → Paired (fun (ns : List Int) b => H b = some (.tup (ns.map V.int))) (D.map (·.1)) (xs.map fun x => x.2.1)
  | [], _, r => by cases r; exact .nil
  | p :: D, _, r => by
    rw [List.map_cons] at r
    cases r with
    | cons h t =>
      refine .cons ?_ (kt_pairs t)
      have := h.2.1
      rw [kI_vs] at this
      exact this
theorem cr_sortedDT {X : Cx} (hc : X.calm = true) : CallR X (.builtin "sorted") rSortDT := by
  intro pins s σ H vs us Q I r h
  obtain ⟨a, D, d, rfl, ha, hd, hL, q⟩ := h
  rw [Vals.ref1 r]
  obtain ⟨z, hs, xs, rel, o, es, ep, ho, hx, hdt, hes, his, hn⟩ := dt_of I.hok ha
  have hP := kt_pairs rel
  have ek : es.toList.map (·.key) = (xs.map fun x => x.2.1).map Value.ref := by
    rw [hes, List.map_map, List.map_map]; rfl
  have hi : ∀ (ns : List Int) b, H b = some (.tup (ns.map V.int)) → TS.intsOf s.heap (.ref b) = ns := fun ns b hb => (tupI_raw I (SqT.of hb)).ints
  have hT : TupsL s.heap d (es.toList.map (·.key)) := fun v hv => by
    rw [ek] at hv
    obtain ⟨b, hb, rfl⟩ := List.mem_map.mp hv
    obtain ⟨ns, hn, g⟩ := pair_mem hP b hb
    obtain ⟨p, hp, rfl⟩ := List.mem_map.mp hn
    exact ⟨p.1, tupI_raw I (SqT.of g), hL p hp⟩
  have hsz : es.size ≤ sizeLine := by
    have l1 : (D.map kI).length = xs.length := Paired.length rel
    have l2 : es.size = xs.length := size_of_entries hes
    omega
  refine sorted_kdl (I.ok.hd hc) hs hx hdt ho hsz hd hT fun h' tk Da out h1 h2 kp hD hout => ?_
  rw [ek] at h2
  obtain ⟨bs', eo, hp, hpL, hPa⟩ := pair_back hP hi h2
  subst eo
  obtain ⟨m, hm⟩ := hout
  have hlen : (bs'.map V.ref).length ≤ sizeLine := by
    rw [List.length_map, hp.length_eq, List.length_map]
    have l2 : es.size = xs.length := size_of_entries hes
    omega
  refine ⟨.ref Da, upd H Da (.lst (bs'.map V.ref)), I.laid (t' := tk) kp hD ⟨hlen, bs'.map Value.ref, m, vals_refs bs', hm⟩, rfl, q _ bs' _ hpL ?_ hPa (I.hok.fresh hD)⟩
  have h1' : (bs'.map Value.ref).Pairwise fun x y => HT.lexLt (TS.intsOf s.heap y) (TS.intsOf s.heap x) = false := h1
  rw [List.pairwise_map] at h1' ⊢
  exact h1'
/-! ### sum(d.values()) -/
theorem preSum_list (ns : List Int) : ∀ k, k ≤ ns.length → preSum (fun i => ns.getD i 0) k = (ns.take k).sum
  | 0, _ => by simp [preSum]
  | k + 1, h => by
    show preSum _ k + ns.getD k 0 = _
    rw [preSum_list ns k (by omega), List.take_add_one, List.getD_eq_getElem?_getD, List.getElem?_eq_getElem (show k < ns.length by omega), List.sum_append]
    simp
def tSumV (td : TE) : TE := fun σ H Q => td σ H fun x H1 => ∃ (d : Addr) (kvs : List (List L2.Key × V)) (ns : List Int), x = .ref d ∧ H1 d = some (.dT kvs) ∧ kvs.map (·.2) = ns.map V.int ∧ Q (.int ns.sum) H1
theorem pe_sumV {X : Cx} {e : Expr} {td : TE} {p apos cpos pos : Pos} (he : PE X e td) (hm : X.mg "sum" = none) (hg : Gl X "sum" := by rfl) (hc : X.calm = true := by rfl) (hbase : attributeBase e "values" X.env (eval e X.env) = eval e X.env := by rfl) (hline : (apos.endLine == cpos.line) = true := by rfl)
    (hs0 : starEach [.Call (.Attribute e "values" apos) [] [] cpos] X.env = (false, eval (.Call (.Attribute e "values" apos) [] [] cpos) X.env) :: starEach [] X.env := by rfl) :
    PE X (.Call (.Name "sum" p) [.Call (.Attribute e "values" apos) [] [] cpos] [] pos) (tSumV td) := by
  refine ⟨fun pins s σ H Q I h => ?_⟩
  refine wpAny_Call_Name_kw (ld_blt I hg hm (u := .builtin "sum") (by decide +kernel) ?_ (by decide) (by decide))
  refine PyProof.Rows.callWith_builtin1 ?_ hs0 rfl
  rw [hs0]
  show wpAny _ _ (spliced ((false, eval (.Call (.Attribute e "values" apos) [] [] cpos) X.env) :: backTo pos (starEach [] X.env))) _ _ s
  refine Calls.spliced_cons ?_
  refine wpAny_Call_method (T := "dict") (id := "dict.values") hbase rfl hline PySem.F.plainAttrs_dict PySem.F.slot_dict_values PySem.F.type_dict_values (thn (he.run pins s σ H _ I h) fun u s1 ⟨x, H1, I1, rx, d, kvs, ns, ex, hd, hns, q⟩ => ?_)
  subst ex
  obtain rfl : u = Value.ref d := rx
  obtain ⟨z, hs, xs, rel, o, es, ep, ho, hx, hdt, hes, his, hn⟩ := dt_of I1.hok hd
  have hm0 : s1.heap.DictRaw d es ep := ⟨o, ho, hx, hdt⟩
  refine ⟨hm0.typeIs, fun b q => ?_, ?_⟩
  · cases q
    exact ⟨o, ho, hx.2.1⟩
  show wpAny _ _ (callWith cpos (.builtin "dict.values") [.ref d] [] []) _ X.xe s1
  refine method_meetsIn PySem.F.slot_dict_values PySem.F.entry_dict_values rfl (PySem.evalArgs_none ⟨rfl, hm0.typeIs, PySem.F.args_dict_values_1 _, _, meets_dict_values_raw d hs, ⟨⟨es, ep, hm0⟩, ?_⟩⟩)
  refine Calls.spliced_nil ?_
  have hzx : es.size = xs.length := size_of_entries hes
  have hln : xs.length = ns.length := by
    have := Paired.length rel
    have := congrArg List.length hns
    rw [List.length_map, List.length_map] at this
    omega
  have hval : ∀ i (hi : i < es.size), ∃ t, es[i].val = Value.int (ns.getD i 0) t := fun i hi => by
    have e0 := entry_at hes i
    rw [Array.getElem?_eq_getElem hi] at e0
    cases hxi : xs[i]? with
    | none => rw [hxi] at e0; cases e0
    | some x =>
      rw [hxi] at e0
      have e1 : es[i] = entryOfKey _ x := Option.some.inj e0
      obtain ⟨p, hp, _, _, rv⟩ := DX.pget rel hxi
      have e2 : (kvs.map (·.2))[i]? = some p.2 := by rw [List.getElem?_map, hp]; rfl
      rw [hns, List.getElem?_map] at e2
      obtain ⟨k, hk, ek⟩ := Option.map_eq_some_iff.mp e2
      rw [← ek] at rv
      obtain ⟨t, et⟩ := rv
      refine ⟨t, ?_⟩
      rw [e1, List.getD_eq_getElem?_getD, hk]
      exact et
  refine call_sum_walkAnyS (s := { s1 with heap := s1.heap.push { cls := .type "dict_values", data := .fields #[.ref d] } }) ?_
  have hm1 : (s1.heap.push { cls := .type "dict_values", data := .fields #[.ref d] }).DictRaw d es ep := ⟨o, Heap.get?_push_of_some _ ho, hx, hdt⟩
  refine wpAny_pyIter_values_raw (s := { s1 with heap := s1.heap.push { cls := .type "dict_values", data := .fields #[.ref d] } }) ⟨_, Heap.get?_push_size _ rfl, rfl, rfl⟩ hm1 ?_
  have hdl : d < (s1.heap.push { cls := .type "dict_values", data := .fields #[.ref d] }).objs.size := by rw [Heap.size_push]; exact Nat.lt_succ_of_lt (Heap.lt_size ho)
  refine ⟨_, _, _, _, _, _, _, fun i => ns.getD i 0, rfl, (Walks.rawValues (show X.A.in1.handled = none from I1.ok.hd hc) _ d (Nat.ne_of_lt hdl) es ep).toS, ⟨⟨_, Heap.get?_push_size _ rfl, rfl, rfl⟩, hm1.at fun o e => Heap.get?_push_of_some _ e⟩, fun b hb => ?_, ?_, fun s' t' hmv => ?_⟩
  · show b < (Heap.push _ _).objs.size
    rw [Heap.size_push]
    rcases List.mem_cons.mp hb with e | hb
    · rw [e]; exact Nat.lt_succ_self _
    · rw [List.mem_singleton.mp hb]; exact Nat.lt_succ_of_lt hdl
  · rintro i v ⟨hi, rfl⟩
    exact hval i hi
  · have hk : ∀ b o, s1.heap.get? b = some o → s'.heap.get? b = some o := fun b o e =>
      hmv.heap b o (fun hI => absurd (Heap.lt_size e) (by rw [List.mem_singleton.mp hI, Heap.size_push]; exact Nat.not_lt.mpr (Nat.le_succ _))) (Heap.get?_push_of_some _ (Heap.get?_push_of_some _ e))
    rw [Moved.eq_with hmv]
    refine ⟨.int ns.sum, H1, I1.kept (t' := s'.toks) hk, ⟨t', ?_⟩, q⟩
    rw [preSum_list ns _ (by omega), List.take_of_length_le (by omega)]
end GX

set_option Elab.async false
set_option linter.all false
set_option maxRecDepth 100000
set_option maxHeartbeats 4000000
namespace GX
open PySem PySem.Spec PyProof.Rows L2
/-! ### for k, v in d.items(), d locked, its keys tuples -/
section
variable {X : Cx} {pins : List (Addr × Obj)} {σ : L2.St} {H : Hp} {s : Shared} {d : Addr} {o : Obj}
theorem frzT2 {kvs : List (List L2.Key × V)} (I : Inv X pins σ H s) (h : H d = some (.frz o (.dT kvs))) :
    (d == sysModules) = false ∧ s.heap.get? d = some o ∧ o.ExactDict ∧ ∃ (es : Array DictEntry) (ep : Nat), o.data = .dict es ep ∧ es.size = kvs.length ∧
      ∀ (i : Nat) (k : List L2.Key) (v : V), kvs[i]? = some (k, v) → ∃ (en : DictEntry) (q : Addr), es[i]? = some en ∧ en.key = .ref q ∧ H q = some (.tup (k.map kV)) ∧ RelV v en.val := by
  obtain ⟨hd, z, hs, xs, pr, o', es, ep, ho, hx, hdt, he, _⟩ := I.hok d _ h
  rw [hd] at ho
  cases ho
  refine ⟨hs, hd, hx, es, ep, hdt, ?_, fun i k v e => ?_⟩
  · have l1 : es.size = xs.length := size_of_entries he
    have l2 : kvs.length = xs.length := Paired.length pr
    omega
  · obtain ⟨b, hb, e1, e2, e3⟩ := paired_get pr e
    have q := entry_at he i
    rw [hb] at q
    exact ⟨_, b.2.1, q, rfl, e2, e3⟩
end
/-- the pairs, each a new tuple of the key's own tuple and the value -/
def ItiT (d : Addr) (o : Obj) (kvs : List (List L2.Key × V)) : It :=
  ⟨fun i H => H d = some (.frz o (.dT kvs)) ∧ i < kvs.length, fun i H x H' => ∃ T q k v, kvs[i]? = some (k, v) ∧ H q = some (.tup (k.map kV)) ∧ x = .ref T ∧ H T = none ∧ H' = upd H T (.tup [.ref q, v]), fun i H => H d = some (.frz o (.dT kvs)) ∧ kvs.length ≤ i⟩
section
variable {P : Program} {w : World} {K : PySem.W.Frag} {o : Obj} {d : Addr} {es : Array DictEntry} {ep : Nat}
theorem turn_itemsT {kvs : List (List L2.Key × V)} {elts : List Expr} {kk : Nat} {tpos : Pos} (it : Addr) (hod : o.data = .dict es ep) :
    Turn P w K (.Tuple elts kk tpos) (ItiT d o kvs) [it] it (fun i h => ∃ ok ov, IsItemIter h it d i kvs.length ep ok ov) where
  mem := by simp
  obj := fun i h st b hb => by
    have e : b = it := by simpa using hb
    subst e
    obtain ⟨ok, ov, e⟩ := st
    exact ⟨_, e, fun v z => nomatch z⟩
  keep := fun i h h' st k => let ⟨ok, ov, e⟩ := st; ⟨ok, ov, k it (by simp) _ e⟩
  item := by
    intro X hP hw hK hc i pins s σ H E I hf st hg
    subst hP hw hK
    obtain ⟨hd, hi⟩ := hg
    obtain ⟨hs, hgd, hx, es', ep', hdt, hsz, ent⟩ := frzT2 I hd
    obtain ⟨rfl, rfl⟩ := dict_ep hod hdt
    obtain ⟨⟨k, v⟩, hkv⟩ : ∃ p, kvs[i]? = some p := ⟨kvs[i], List.getElem?_eq_getElem hi⟩
    obtain ⟨en, q, hen, hkey, hq, ru⟩ := ent i k v hkv
    obtain ⟨ok, ov, he⟩ := st
    rw [← hsz] at he
    have hie : i < es'.size := by omega
    have een : es'[i] = en := by
      rw [Array.getElem?_eq_getElem hie] at hen
      exact Option.some.inj hen
    have hlt : it < s.heap.objs.size := Heap.lt_size he
    refine DT.nextI he ⟨o, hgd, hx, hdt⟩ hie fun h' ho hT hz hk => ?_
    refine ⟨_, rfl, wpAny_letOwnedTupleGo_items (s := { s with heap := h' }) ho fun h'' he' sb => ?_⟩
    rw [een] at hT he'
    have hT2 : h''.get? s.heap.objs.size = some { cls := .type "tuple", data := .seq #[en.key, en.val] } := (sb.2 _ (Nat.ne_of_gt hlt)).trans hT
    have new : ObjOk X.prog X.w (upd H s.heap.objs.size (.tup [.ref q, v])) h'' s.heap.objs.size (.tup [.ref q, v]) :=
      ⟨by show 2 ≤ sizeLine; decide, [en.key, en.val], .cons (by rw [hkey]; exact rfl) (.cons ru .nil), ⟨_, hT2, rfl, _, rfl⟩⟩
    have I1 : Inv X pins σ (upd H s.heap.objs.size (.tup [.ref q, v])) { s with heap := h'' } :=
      I.turnedNew (t' := s.toks) (ch := [it]) (fun b ob hb e => (sb.2 b (by simpa using hb)).trans (hk b ob (by simpa using hb) e)) hf (Nat.le_refl _) new
    refine ⟨.ref s.heap.objs.size, _, I1, rfl, ⟨_, q, k, v, hkv, hq, rfl, I.hok.fresh (Nat.le_refl _), rfl⟩, ⟨en.key, en.val, ?_⟩, fun b hb => ?_⟩
    · rw [← hsz]; exact he'
    · have e : b = it := by simpa using hb
      rw [e, upd_ne (Nat.ne_of_lt hlt)]
      exact (hf it (by simp)).1
  done := by
    intro X hP hw hK hc i pins s σ H E I hf st hg
    subst hP hw hK
    obtain ⟨hd, hi⟩ := hg
    obtain ⟨f0, f1, f2, f3, f4, f5⟩ := hf it (by simp)
    obtain ⟨hs, hgd, hx, es', ep', hdt, hsz, ent⟩ := frzT2 I hd
    obtain ⟨rfl, rfl⟩ := dict_ep hod hdt
    obtain ⟨ok, ov, he⟩ := st
    rw [← hsz] at he
    exact DT.endI (I.ok.hd hc) he ⟨o, hgd, hx, hdt⟩ (by omega) fun h' eb => ⟨rfl, I.turned (t' := s.toks) (fun b ob hb e => eb b ob hb e) f0 f1 f3 f4 f5⟩
  self := fun A i s Q E st h => let ⟨_, _, e⟩ := st; PySem.W.kcp_self e h
end
def iItemsT (td : TE) : TI := fun σ H R => td σ H fun x H1 => ∃ d o kvs, x = .ref d ∧ H1 d = some (.frz o (.dT kvs)) ∧ R (ItiT d o kvs) H1
theorem pi_itemsT {X : Cx} {e : Expr} {td : TE} {apos cpos : Pos} {elts : List Expr} {kk : Nat} {tpos : Pos} (he : PE X e td) (hbase : attributeBase e "items" X.env (eval e X.env) = eval e X.env := by rfl) (hline : (apos.endLine == cpos.line) = true := by rfl) :
    PI X (.Tuple elts kk tpos) (.Call (.Attribute e "items" apos) [] [] cpos) (iItemsT td) := by
  refine ⟨fun pins s σ H R I h => ?_⟩
  refine wpAny_Call_method (T := "dict") (id := "dict.items") hbase rfl hline PySem.F.plainAttrs_dict PySem.F.slot_dict_items PySem.F.type_dict_items (thn (he.run pins s σ H _ I h) fun u s1 ⟨x, H1, I1, rx, d, o, kvs, ex, hd, q⟩ => ?_)
  subst ex
  obtain rfl : u = Value.ref d := rx
  obtain ⟨hs, hgd, hx, es, ep, hdt, hsz, ent⟩ := frzT2 I1 hd
  have hm : DT.Raw s1.heap d es ep := ⟨o, hgd, hx, hdt⟩
  refine ⟨hm.typeIs, fun b q => ?_, ?_⟩
  · cases q
    exact ⟨o, hgd, hx.2.1⟩
  have I2 : Inv X pins σ H1 { s1 with heap := s1.heap.push { cls := .type "dict_items", data := .fields #[.ref d] } } := I1.kept (t' := s1.toks) fun b ob q => Heap.get?_push_of_some _ q
  have fin : wpAny (model X.prog X.w) X.A (pyIter (.ref s1.heap.objs.size)) (PIE X pins σ (.Tuple elts kk tpos) R) X.xe { s1 with heap := s1.heap.push { cls := .type "dict_items", data := .fields #[.ref d] } } := by
    refine DT.iterI (d := d) ⟨_, Heap.get?_push_size _ rfl, rfl, rfl⟩ (hm.push _) (pi_one (tk := s1.toks) I2 _ (turn_itemsT _ hdt) ⟨.none, .none, ?_⟩ q)
    rw [← hsz]
    exact Heap.get?_push_size _ rfl
  show wpAny _ _ (callWith cpos (.builtin "dict.items") [.ref d] [] []) _ X.xe s1
  exact method_meetsIn PySem.F.slot_dict_items PySem.F.entry_dict_items rfl (PySem.evalArgs_none ⟨rfl, hm.typeIs, PySem.F.args_dict_items_1 _, _, DT.meetsItems (es := es) (ep := ep) hs, ⟨hm, fin⟩⟩)
/-! ### {k: v}, k a tuple -/
def tDispT (tk tv : TE) : TE := fun σ H Q => ∀ p, H p = none → tk σ (upd H p (.dT [])) fun x H1 => tv σ H1 fun y H2 => H2 p = some (.dT []) ∧ ∃ (b : Addr) (ks : List L2.Key), x = .ref b ∧ H2 b = some (.tup (ks.map kV)) ∧ Q (.ref p) (upd H2 p (.dT [(ks, y)]))
theorem pe_dispT {X : Cx} {pos : Pos} {k v : Expr} {tk tv : TE} (hu : X.A.units + 1 < cLine) (hk : PE X k tk) (hv : PE X v tv) : PE X (.Dict [some k] [v] pos) (tDispT tk tv) := by
  refine ⟨fun pins s σ H Q I q => ?_⟩
  have hn := I.hok.fresh (Nat.le_refl s.heap.objs.size)
  have I1 := I.laid (a := s.heap.objs.size) (o := .dT []) (h' := s.heap.push { cls := .type "dict", data := .dict #[] }) (t' := s.toks) (fun _ _ q => Heap.get?_push_of_some _ q) (Nat.le_refl _) (dt_empty s.heap I.big)
  have hlen : (pairTrees [some k] [v] X.env pos).length = 1 := pairTrees_length [some k] [v] X.env pos rfl rfl
  rw [arm_eval_Dict, zip_pairTrees [some k] [v] X.env pos rfl rfl, dictDisplay_pairs _ (fun z => by rw [z] at hlen; cases hlen) (by omega)]
  refine wpAny_bind (wpAny_standAt (wpAny_bind (wpAny_subDictH (knd := tupleKind (mixKind X.prog X.w)) (Q := fun d s' => wpAny (model X.prog X.w) X.A (pure (Value.ref d)) (EP X pins σ Q) X.xe s') (show X.A.units < cLine by omega) (by omega) ?_)))
  refine pairTrees_cons_walk (thn (hk.run pins _ σ _ _ I1 (q _ hn)) fun u s1 ⟨x, H1, I2, rx, q1⟩ => thn (hv.run pins s1 σ H1 _ I2 q1) fun w2 s2 ⟨y, H2, I3, ry, e, b, ks, eb, hb, q2⟩ => pairTrees_nil_walk ?_)
  subst eb
  obtain rfl : u = Value.ref b := rx
  obtain ⟨z, hd, xs, rel, dd⟩ := dt_of I3.hok e
  cases rel
  refine ⟨[(ks, b, w2)], ⟨rfl, rfl, key_of I3.hok hb, trivial⟩, dd, fun h' tk' dd' hs => wpAny_pure ⟨.ref s.heap.objs.size, _, ?_, rfl, q2⟩⟩
  obtain ⟨o, es, ep, hq, h2, h3, h4, _, h5⟩ := dd'
  refine d_write (t' := tk') I3 (by rw [e]; exact True.intro) hs ⟨o, hq⟩ ⟨by show 1 ≤ sizeLine; decide, hd, [(ks, b, w2)], .cons ⟨rfl, ?_, ry⟩ .nil, o, es, ep, hq, h2, h3, h4, h5⟩
  rw [upd_ne (ne_of hb e (fun z => nomatch z))]
  exact hb
/-! ### xs[-2::-1] -/
theorem pick_back2 (items : Array Value) (h : 1 ≤ items.size) : slicePick items (some (-2)) none (some (-1)) = (items.toList.take (items.size - 1)).reverse.toArray := by
  obtain ⟨m, hm⟩ : ∃ m, items.size = m + 1 := ⟨items.size - 1, by omega⟩
  unfold slicePick
  have hb : sliceBounds (some (-2)) none (some (-1)) items.size = ((m : Int) - 1, -1, -1) := by
    rw [hm]
    simp only [sliceBounds, Option.getD_some]
    refine Prod.ext ?_ rfl
    show (if ((-1 : Int) > 0) then max 0 (min ((if (-2 : Int) < 0 then -2 + ((m + 1 : Nat) : Int) else -2)) ((m + 1 : Nat) : Int)) else max (-1) (min ((if (-2 : Int) < 0 then -2 + ((m + 1 : Nat) : Int) else -2)) (((m + 1 : Nat) : Int) - 1))) = (m : Int) - 1
    rw [if_neg (by decide), if_pos (by decide)]
    omega
  rw [hb, hm]
  show ((sliceRange ((m : Int) - 1) (-1) (-1)).filterMap (items[·]?)).toArray = _
  rw [PySem.W.krv_sliceRange, PySem.W.krv_range, List.filterMap_reverse]
  have hp := pick_run items 0 m
  have e : (List.range m).map (0 + ·) = List.range m := by
    rw [show ((0 + ·) : Nat → Nat) = id from funext fun k => Nat.zero_add k, List.map_id]
  rw [e, List.drop_zero] at hp
  rw [hp]; rfl
def tBack2 (K : PySem.W.Frag) (te : TE) : TE := fun σ H Q => te σ H fun x H1 => ∃ a xs, x = .ref a ∧ SqL K H1 a xs ∧ 1 ≤ xs.length ∧ ∀ p, H1 p = none → Q (.ref p) (upd H1 p (.lst (xs.take (xs.length - 1)).reverse))
theorem pe_back2 {X : Cx} {e : Expr} {te : TE} {k k2 : Nat} {p1 p2 p3 p4 p5 pos : Pos} (he : PE X e te) : PE X (.Subscript e (.Slice (some (.UnaryOp .USub (.Constant (.int 2) k2 p4) p5)) none (some (.UnaryOp .USub (.Constant (.int 1) k p1) p2)) p3) pos) (tBack2 X.K te) := by
  refine ⟨fun pins s σ H Q I h => ?_⟩
  refine Subscript_ (thn (he.run pins s σ H _ I h) fun v s1 ⟨x, H1, I1, r1, q1⟩ => ?_)
  obtain ⟨a, xs, ex, hx, hn, q⟩ := q1
  subst ex
  cases r1
  have hst : PO X (some (.UnaryOp .USub (.Constant (.int 1) k p1) p2)) (tPart (tUn (rU fun i => .int (-i)) (tC (.int 1)))) := po_some (pe_un un_neg pe_int)
  have hst2 : PO X (some (.UnaryOp .USub (.Constant (.int 2) k2 p4) p5)) (tPart (tUn (rU fun i => .int (-i)) (tC (.int 2)))) := po_some (pe_un un_neg pe_int)
  refine wpAny_Slice (thn (hst2.run pins s1 σ H1 (fun o H2 => o = some (-2) ∧ H2 = H1) I1 ⟨2, rfl, -2, rfl, rfl, rfl⟩) fun vl s2 ⟨l, H2, I2, pl, el, e2⟩ => ?_)
  subst el e2
  refine thn (po_none.run pins s2 σ H2 (fun o H3 => o = none ∧ H3 = H2) I2 ⟨rfl, rfl⟩) fun vu s3 ⟨u, H3, I3, pu, eu, e3⟩ => ?_
  subst eu e3
  refine thn (hst.run pins s3 σ H3 (fun o H4 => o = some (-1) ∧ H4 = H3) I3 ⟨1, rfl, -1, rfl, rfl, rfl⟩) fun vs s4 ⟨o, H4, I4, ps, eo, e4⟩ => ?_
  subst eo e4
  have I5 : Inv X pins σ H4 { s4 with heap := s4.heap.push { cls := .type "slice", data := .fields #[vl, vu, vs] } } := I4.kept (t' := s4.toks) fun b ob q => Heap.get?_push_of_some _ q
  obtain ⟨its, r, ht, hz⟩ := I5.list hx
  have hlen := r.length
  show wpAny (model X.prog X.w) X.A (subscriptTail e (.Slice (some (.UnaryOp .USub (.Constant (.int 2) k2 p4) p5)) none (some (.UnaryOp .USub (.Constant (.int 1) k p1) p2)) p3) (.ref a) (.ref s4.heap.objs.size)) (EP X pins σ Q) X.xe { s4 with heap := s4.heap.push { cls := .type "slice", data := .fields #[vl, vu, vs] } }
  refine tail_any (ops := [.ref a, .ref s4.heap.objs.size]) ht.isList.typeIs (PySem.slot_list_getitem.lookup) ?_ (by with_unfolding_all rfl)
  refine wpAny_getItem_list_slice ht.isList (Heap.IsSliceOf.new _ vl vu vs) pl pu ps (by decide) ?_ (by rw [List.size_toArray]; omega)
  rw [pick_back2 _ (by rw [List.size_toArray]; omega)]
  refine ⟨.ref _, _, I5.laid (t' := s4.toks) (o := .lst (xs.take (xs.length - 1)).reverse) (fun b ob q => Heap.get?_push_of_some _ q) (Nat.le_refl _) ?_, rfl, q _ (I5.hok.fresh (Nat.le_refl _))⟩
  refine ⟨by rw [List.length_reverse, List.length_take]; omega, _, 0, ?_, Heap.get?_push_size _ rfl⟩
  show Vals _ ((its.take (its.toArray.size - 1)).reverse)
  rw [List.size_toArray, ← hlen]
  exact (r.take _).reverse
end GX

set_option Elab.async false
set_option linter.all false
set_option maxRecDepth 100000
set_option maxHeartbeats 4000000
namespace GX
open PySem PySem.Spec PyProof.Rows L2
/-! ### list(range(i, j, c)) -/
def rgCV (i c : Int) (n : Nat) : List V := (List.range n).map fun (k : Nat) => V.int (i + (k : Int) * c)
def tLstRg3 (ta tb tc : TE) : TE := fun σ H Q => tCons ta (tCons tb (tCons tc tNil)) σ H fun vs H1 => ∃ (i j c : Int) (n : Nat), vs = [.int i, .int j, .int c] ∧ RgC i j c n ∧ n ≤ 100000 ∧ ∀ p, H1 p = none → Q (.ref p) (upd H1 p (.lst (rgCV i c n)))
theorem pe_listRg3 {X : Cx} (hc : X.calm = true) (hg : Gl X "list") (hm : X.mg "list" = none) (hg2 : Gl X "range") (hm2 : X.mg "range" = none) {a b c : Expr} {ta tb tc : TE} {p p2 pos pos2 : Pos} (ha : PE X a ta) (hb : PE X b tb) (hcc : PE X c tc)
    (n1 : starEach [a, b, c] X.env = (false, eval a X.env) :: starEach [b, c] X.env := by rfl) (n2 : starEach [b, c] X.env = (false, eval b X.env) :: starEach [c] X.env := by rfl) (n3 : starEach [c] X.env = (false, eval c X.env) :: starEach [] X.env := by rfl)
    (hpl : (backTo pos2 (starEach [b, c] X.env)).any (·.1) = false := by rfl)
    (na : starEach [.Call (.Name "range" p2) [a, b, c] [] pos2] X.env = (false, eval (.Call (.Name "range" p2) [a, b, c] [] pos2) X.env) :: starEach [] X.env := by rfl) :
    PE X (.Call (.Name "list" p) [.Call (.Name "range" p2) [a, b, c] [] pos2] [] pos) (tLstRg3 ta tb tc) := by
  refine ⟨fun pins s σ H Q I h => ?_⟩
  refine Call_ (ld_blt I hg hm boot_list (PyProof.Rows.callWith_type1 ?_ na rfl))
  rw [na]
  show wpAny _ _ (spliced ((false, eval (.Call (.Name "range" p2) [a, b, c] [] pos2) X.env) :: backTo pos (starEach [] X.env))) _ _ s
  refine Calls.spliced_cons (Call_ (ld_blt I hg2 hm2 boot_range (PyProof.Rows.callWith_type1 (thn ((pa_cons ha (pa_cons hb (pa_cons hcc pa_nil n3) n2) n1).run pos2 pins s σ H _ I h) fun us s1 ⟨vs, H1, I1, r1, q1⟩ => ?_) n1 hpl)))
  obtain ⟨i, j, k, n, e, ⟨c0, c1, c2, c3⟩, hn, q⟩ := q1
  subst e
  cases r1 with
  | cons r rr =>
    cases rr with
    | cons r' rr =>
      cases rr with
      | cons r'' rr =>
        cases rr
        obtain ⟨t, rfl⟩ := r
        obtain ⟨t', rfl⟩ := r'
        obtain ⟨t'', rfl⟩ := r''
        refine call_range_3 c0 (Calls.spliced_nil ?_) (.inl (PyProof.noPylong_small c1))
        have I2 : Inv X pins σ H1 { s1 with heap := s1.heap.push { cls := .type "range", data := .fields #[.int i t, .int j t', .int k t''] } } := I1.kept (t' := s1.toks) fun b o e => Heap.get?_push_of_some _ e
        refine call_list_range (s := { s1 with heap := s1.heap.push { cls := .type "range", data := .fields #[.int i t, .int j t', .int k t''] } }) (n := n) (I1.ok.hd hc) (IsRange.new ..) c2 c3 (by omega) fun h' tk acc c' hk e' hi => ?_
        refine ⟨.ref _, upd H1 _ (.lst (rgCV i k n)), I2.laid (t' := tk) hk (Nat.le_refl _) (show ObjOk X.prog X.w _ _ _ (.lst (rgCV i k n)) from ⟨?_, acc.toList, c', ?_, ?_⟩), rfl, q _ (I2.hok.fresh (Nat.le_refl _))⟩
        · unfold rgCV; rw [List.length_map, List.length_range, sizeLine_eq]; omega
        · have e : acc.toList.length = n := by rw [Array.length_toList]; exact hi.1
          unfold rgCV
          rw [← e]
          refine vals_of_get acc.toList _ fun j u hj => ?_
          obtain ⟨t, rfl⟩ := hi.2 j u (by rw [← hj, Array.getElem?_toList])
          exact ⟨t, rfl⟩
        · rw [Array.toArray_toList]; exact e'
/-! ### y = {k: v for ..} -/
theorem swD_true {kx vx : Expr} {gs : List Comprehension} {scope : Scope} {pos py : Pos} {y : Str} {l : Nat} {env : Env} (hk : env.scope.kind = .function) (hy : env.scope.names.lookup y = some .local) (hl : (py.line == pos.line) = true)
    (ha : (scope.names.any fun (n, k) => n == y && (k == .local || k == .cell)) = false) : swapsWith (.DictComp kx vx gs scope pos) (some (.Name y py)) l env = pure true := by
  have ky : env.kindOf y = some .local := hy
  have hb : env.blockKind = .function := by unfold Env.blockKind; rw [hk]; rfl
  unfold swapsWith
  simp only [hb, ky, ha, Expr.pos, hl]
  rfl
theorem ps_setDc {X : Cx} {i : Nat} {y : Str} {py : Pos} {kx vx tg iter : Expr} {ifs : List Expr} {scope : Scope} {own : List (Str × Nat)} {pos spos : Pos} {wi : TI} {g : TG} {tt : TT} {tk tv : TE} (hc : X.calm = true) (hN : X.N.Nodup) (hy : X.N[i]? = some y) (hyl : X.env.scope.names.lookup y = some .local)
    (hsw : swapsWith (.DictComp kx vx [⟨tg, iter, ifs, 0⟩] scope pos) (some (.Name y py)) spos.line X.env = pure true) (hi : PI X tg iter wi) (ok : BlkOk X.N X.env.scope scope own)
    (hg : ∀ (s : Shared) (H : Hp) (C : Addr) (cl : List (Str × Addr)) (fp : List Addr), PG (X.blk s H scope (compEnvC scope cl C X.env) fp) tg g) (ht : ∀ (s : Shared) (H : Hp) (C : Addr) (cl : List (Str × Addr)) (fp : List Addr), PTs (X.blk s H scope (compEnvC scope cl C X.env) fp) ifs tt)
    (hk : ∀ (s : Shared) (H : Hp) (C : Addr) (cl : List (Str × Addr)) (fp : List Addr), PE (X.blk s H scope (compEnvC scope cl C X.env) fp) kx tk)
    (he : ∀ (s : Shared) (H : Hp) (C : Addr) (cl : List (Str × Addr)) (fp : List Addr), PE (X.blk s H scope (compEnvC scope cl C X.env) fp) vx tv) (hs : ∀ x, foldedSetIterable iter X.env x = pure x := by intro _; rfl) :
    PS X (.Assign [.Name y py] (.DictComp kx vx [⟨tg, iter, ifs, 0⟩] scope pos) spos) (tAsg (tDc wi g tt tk tv (own.map (·.2))) (gName i)) := by
  refine ⟨fun pins s σ H D I h => ?_⟩
  rw [exec_Assign_Name_used _ _ _ _ hsw]
  refine wpAny_bind (wpAny_standAt (wpAny_bind ?_))
  show wpAny _ X.A (do let _ ← comprehension (.DictComp kx vx [⟨tg, iter, ifs, 0⟩] scope pos) scope X.env (firstIterPos [⟨tg, iter, ifs, 0⟩] pos) newDict false (eval iter X.env) (some (assign (.Name y py) X.env))) _ _ s
  have h : tDc wi g tt tk tv (own.map (·.2)) σ H (fun x H1 => gName i x σ H1 D.nx) := h
  refine wpAny_bind (thn (dc_core (Qf := fun _ s' => SP X pins D .next s') hc hN I hi ok hg ht hk he hs h fun L C s' m H' I' q hn f => ?_) fun _ s' hq => wpAny_pure (wpAny_pure hq))
  show wpAny _ _ (assign (.Name y py) X.env (.ref L)) _ _ _
  refine wpAny_assign_Name (store_ok2 (v := V.ref L) I' hN hy (.inl hyl) rfl (fun s2 I2 ⟨a, sb, ha⟩ => ?_) (.inr hyl))
  obtain ⟨f0, f1, f2, f3, f4, f5⟩ := f
  have haC : C ≠ a := by
    rcases ha with z | z
    · rw [z]; exact f1
    · exact fun e => f4 y a z e.symm
  refine ⟨m, hn.sameBut sb haC, fun h3 sb3 => ?_⟩
  exact ⟨_, H', I2.turned (t' := s2.toks) (fun b o hb e => (sb3.2 b hb).trans e) f0 f1 f3 f4 f5, q⟩
end GX

set_option linter.all false
/-! M4: rounds, layings. -/
namespace M
open PySem G
/-- the neighbors that are nearer to field 0 -/
noncomputable def Web.ner (W : Web) (v : Nat) : List Nat := (W.nb v).filter fun u => decide (W.dist 0 u < W.dist 0 v)
noncomputable def Web.up (W : Web) (v : Nat) : Nat := (W.ner v).headD 0
theorem Web.Ok.up_spec {W : Web} (h : W.Ok) {v : Nat} (hv : v < W.n) (h0 : v ≠ 0) : W.up v ∈ W.ner v ∧ (∀ y ∈ W.ner v, W.up v ≤ y) ∧ W.adj v (W.up v) = true ∧ W.dist 0 (W.up v) + 1 = W.dist 0 v := by
  have D := h.dist h.pre.pos
  obtain ⟨u, hu, e⟩ := D.back v hv h0
  have hm : u ∈ W.ner v := List.mem_filter.mpr ⟨(mem_nb h.pre).mpr hu, by simp; omega⟩
  have hs : (W.ner v).Pairwise (· < ·) := (nb_lt v).filter _
  cases q : W.ner v with
  | nil => rw [q] at hm; cases hm
  | cons x r =>
    have ex : W.up v = x := by unfold Web.up; rw [q]; rfl
    rw [ex]
    have hx : x ∈ W.ner v := by rw [q]; exact List.mem_cons_self
    obtain ⟨h1, h2⟩ := List.mem_filter.mp hx
    have ha := (mem_nb h.pre).mp h1
    have h3 := D.lip x v (by rw [adj_sym]; exact ha)
    have h4 := of_decide_eq_true h2
    refine ⟨List.mem_cons_self, fun y hy => ?_, ha, by omega⟩
    rw [q] at hs
    rcases List.mem_cons.mp hy with rfl | hy
    · exact Nat.le_refl _
    · exact Nat.le_of_lt ((List.pairwise_cons.mp hs).1 y hy)
theorem Web.Ok.up_lt {W : Web} (h : W.Ok) {v : Nat} (hv : v < W.n) (h0 : v ≠ 0) : W.up v < W.n := (adj_lt h.pre (h.up_spec hv h0).2.2.1).2.1
theorem Web.Ok.d0 {W : Web} (h : W.Ok) {v : Nat} (hv : v < W.n) (h0 : W.dist 0 v = 0) : v = 0 := Decidable.byContradiction fun z => by
  have := (h.up_spec hv z).2.2.2
  omega
/-- two ways up, from both ends, until they meet -/
def legs (d up : Nat → Nat) : Nat → Nat → Nat → List Nat × List Nat
  | 0, a, b => ([a], [b])
  | k + 1, a, b => if a = b then ([a], [b]) else if d b ≤ d a then (a :: (legs d up k (up a) b).1, (legs d up k (up a) b).2) else ((legs d up k a (up b)).1, b :: (legs d up k a (up b)).2)
noncomputable def Web.leg (W : Web) (a b : Nat) : List Nat × List Nat := legs (W.dist 0) W.up (W.dist 0 a + W.dist 0 b) a b
noncomputable def Web.rnd (W : Web) (p : Nat × Nat) : List Nat := (W.leg p.1 p.2).1 ++ ((W.leg p.1 p.2).2.take ((W.leg p.1 p.2).2.length - 1)).reverse
noncomputable def Web.tre (W : Web) (p : Nat × Nat) : Bool := (decide (p.1 ≠ 0) && decide (W.up p.1 = p.2)) || decide (W.up p.2 = p.1)
noncomputable def Web.rnds (W : Web) : List (List Nat) := (W.E.filter fun p => !W.tre p).map W.rnd
theorem legs_same {d up : Nat → Nat} {k a : Nat} : legs d up k a a = ([a], [a]) := by
  cases k with
  | zero => rfl
  | succ k => unfold legs; rw [if_pos rfl]
theorem Web.leg_same {W : Web} {a : Nat} : W.leg a a = ([a], [a]) := legs_same
theorem Web.Ok.ne0 {W : Web} (h : W.Ok) {a b : Nat} (ha : a < W.n) (hb : b < W.n) (hab : a ≠ b) (hd : W.dist 0 b ≤ W.dist 0 a) : a ≠ 0 := fun z => by
  subst z
  rw [(h.dist h.pre.pos).s0] at hd
  exact hab (h.d0 hb (by omega)).symm
theorem Web.Ok.leg_left {W : Web} (h : W.Ok) {a b : Nat} (ha : a < W.n) (hb : b < W.n) (hab : a ≠ b) (hd : W.dist 0 b ≤ W.dist 0 a) : W.leg a b = (a :: (W.leg (W.up a) b).1, (W.leg (W.up a) b).2) := by
  have e := (h.up_spec ha (h.ne0 ha hb hab hd)).2.2.2
  unfold Web.leg
  rw [show W.dist 0 a + W.dist 0 b = (W.dist 0 (W.up a) + W.dist 0 b) + 1 by omega]
  rw [legs, if_neg hab, if_pos hd]
theorem Web.Ok.leg_right {W : Web} (h : W.Ok) {a b : Nat} (ha : a < W.n) (hb : b < W.n) (hab : a ≠ b) (hd : ¬ W.dist 0 b ≤ W.dist 0 a) : W.leg a b = ((W.leg a (W.up b)).1, b :: (W.leg a (W.up b)).2) := by
  have e := (h.up_spec hb (h.ne0 hb ha (Ne.symm hab) (by omega))).2.2.2
  unfold Web.leg
  rw [show W.dist 0 a + W.dist 0 b = (W.dist 0 a + W.dist 0 (W.up b)) + 1 by omega]
  rw [legs, if_neg hab, if_neg hd]
/-! ### ways -/
inductive Pth (A : Nat → Nat → Prop) : Nat → Nat → List Nat → Prop
  | one (a : Nat) : Pth A a a [a]
  | cons {a x b : Nat} {q : List Nat} : A a x → Pth A x b q → Pth A a b (a :: q)
theorem Pth.ne {A : Nat → Nat → Prop} {a b : Nat} {q : List Nat} : Pth A a b q → ∃ r, q = a :: r
  | .one _ => ⟨[], rfl⟩
  | .cons _ _ => ⟨_, rfl⟩
theorem Pth.mono {A B : Nat → Nat → Prop} (h : ∀ u w, A u w → B u w) {a b : Nat} {q : List Nat} : Pth A a b q → Pth B a b q
  | .one a => .one a
  | .cons x r => .cons (h _ _ x) (r.mono h)
theorem Pth.app {A : Nat → Nat → Prop} {a m b : Nat} {q q' : List Nat} (h' : Pth A m b (m :: q')) : Pth A a m q → Pth A a b (q ++ q')
  | .one _ => h'
  | .cons x r => .cons x (Pth.app h' r)
theorem Pth.snoc {A : Nat → Nat → Prop} {a b x : Nat} {q : List Nat} (h : Pth A a b q) (hx : A b x) : Pth A a x (q ++ [x]) := Pth.app (.cons hx (.one x)) h
theorem Pth.rev {A : Nat → Nat → Prop} (hs : ∀ u w, A u w → A w u) {a b : Nat} {q : List Nat} : Pth A a b q → Pth A b a q.reverse
  | .one a => .one a
  | .cons x r => by rw [List.reverse_cons]; exact (r.rev hs).snoc (hs _ _ x)
theorem Pth.last {A : Nat → Nat → Prop} {a b : Nat} {q : List Nat} : Pth A a b q → ∃ r, q = r ++ [b]
  | .one a => ⟨[], rfl⟩
  | .cons (a := a) _ r => by obtain ⟨r', e⟩ := r.last; exact ⟨a :: r', by rw [e]; rfl⟩
theorem Pth.all {A : Nat → Nat → Prop} {n : Nat} (h : ∀ u w, A u w → u < n) {a b : Nat} {q : List Nat} : Pth A a b q → b < n → ∀ x ∈ q, x < n
  | .one a, hb, x, hx => by rw [List.mem_singleton.mp hx]; exact hb
  | .cons y r, hb, x, hx => by
    rcases List.mem_cons.mp hx with rfl | hx
    · exact h _ _ y
    · exact r.all h hb x hx
theorem Pth.chain {A : Nat → Nat → Prop} {c : List Int} {f : Nat → Int} (h : ∀ u w, A u w → stp (atc c u) (atc c w) = f w - f u) {a b : Nat} {q : List Nat} : Pth A a b q → M.chain c q = f b - f a
  | .one a => by show (0 : Int) = _; omega
  | .cons (x := y) x r => by
    obtain ⟨t, rfl⟩ := r.ne
    have := r.chain h
    show stp _ _ + M.chain c (y :: t) = _
    rw [this, h _ _ x]; omega
theorem Pth.chain2 {A : Nat → Nat → Prop} {c c' : List Int} {f : Nat → Int} (h : ∀ u w, A u w → stp (atc c' u) (atc c' w) = stp (atc c u) (atc c w) + (f w - f u)) {a b : Nat} {q : List Nat} : Pth A a b q → M.chain c' q = M.chain c q + (f b - f a)
  | .one a => by show (0 : Int) = 0 + _; omega
  | .cons (x := y) x r => by
    obtain ⟨t, rfl⟩ := r.ne
    have := r.chain2 h
    show stp _ _ + M.chain c' (y :: t) = (stp _ _ + M.chain c (y :: t)) + _
    rw [this, h _ _ x]; omega
theorem Pth.chain_snoc {A : Nat → Nat → Prop} {c : List Int} {x : Nat} {a b : Nat} {q : List Nat} : Pth A a b q → M.chain c (q ++ [x]) = M.chain c q + stp (atc c b) (atc c x)
  | .one a => by show stp _ _ + 0 = 0 + _; omega
  | .cons (x := y) _ r => by
    have := r.chain_snoc (c := c) (x := x)
    obtain ⟨t, rfl⟩ := r.ne
    show stp _ _ + M.chain c ((y :: t) ++ [x]) = (stp _ _ + M.chain c (y :: t)) + _
    rw [this]; omega
/-- from a field to the one above it -/
def Web.Up (W : Web) (u w : Nat) : Prop := u < W.n ∧ u ≠ 0 ∧ w = W.up u
def Web.Tr (W : Web) (u w : Nat) : Prop := W.Up u w ∨ W.Up w u
theorem Web.Tr.symm {W : Web} (u w : Nat) (h : W.Tr u w) : W.Tr w u := h.elim .inr .inl
theorem Web.Tr.adj {W : Web} (hW : W.Ok) {u w : Nat} (h : W.Tr u w) : W.adj u w = true := by
  rcases h with ⟨h1, h2, rfl⟩ | ⟨h1, h2, rfl⟩
  · exact (hW.up_spec h1 h2).2.2.1
  · rw [adj_sym]; exact (hW.up_spec h1 h2).2.2.1
theorem Web.Ok.leg_pth {W : Web} (h : W.Ok) : ∀ (k a b : Nat), a < W.n → b < W.n → W.dist 0 a + W.dist 0 b = k → ∃ m, m < W.n ∧ Pth W.Up a m (W.leg a b).1 ∧ Pth W.Up b m (W.leg a b).2
  | k, a, b, ha, hb, hk => by
    by_cases hab : a = b
    · subst hab
      rw [Web.leg_same]
      exact ⟨a, ha, .one a, .one a⟩
    · by_cases hd : W.dist 0 b ≤ W.dist 0 a
      · have h0 := h.ne0 ha hb hab hd
        have e := (h.up_spec ha h0).2.2.2
        rw [h.leg_left ha hb hab hd]
        cases k with
        | zero => omega
        | succ k =>
          obtain ⟨m, hm, p1, p2⟩ := h.leg_pth k (W.up a) b (h.up_lt ha h0) hb (by omega)
          exact ⟨m, hm, .cons ⟨ha, h0, rfl⟩ p1, p2⟩
      · have h0 := h.ne0 hb ha (Ne.symm hab) (by omega)
        have e := (h.up_spec hb h0).2.2.2
        rw [h.leg_right ha hb hab hd]
        cases k with
        | zero => omega
        | succ k =>
          obtain ⟨m, hm, p1, p2⟩ := h.leg_pth k a (W.up b) ha (h.up_lt hb h0) (by omega)
          exact ⟨m, hm, p1, .cons ⟨hb, h0, rfl⟩ p2⟩
theorem Web.Ok.rnd_pth {W : Web} (h : W.Ok) {p : Nat × Nat} (h1 : p.1 < W.n) (h2 : p.2 < W.n) : Pth W.Tr p.1 p.2 (W.rnd p) := by
  obtain ⟨m, hm, p1, p2⟩ := h.leg_pth _ p.1 p.2 h1 h2 rfl
  obtain ⟨r, er⟩ := p2.last
  have p3 : Pth W.Tr m p.2 (W.leg p.1 p.2).2.reverse := (p2.mono (B := W.Tr) fun _ _ x => .inl x).rev Web.Tr.symm
  unfold Web.rnd
  refine Pth.app ?_ (p1.mono (B := W.Tr) fun _ _ x => .inl x)
  rw [er] at p3 ⊢
  rw [List.reverse_append] at p3
  rw [List.length_append, List.length_singleton, Nat.add_sub_cancel, List.take_left']
  · exact p3
  · rfl
theorem Web.Ok.legs_len {W : Web} (h : W.Ok) {a b : Nat} (ha : a < W.n) (hb : b < W.n) : 1 ≤ (W.leg a b).1.length ∧ 1 ≤ (W.leg a b).2.length := by
  obtain ⟨m, hm, p1, p2⟩ := h.leg_pth _ a b ha hb rfl
  obtain ⟨r, e⟩ := p1.ne
  obtain ⟨r2, e2⟩ := p2.ne
  rw [e, e2]; simp
/-! ### layings -/
def Lay (W : Web) (h : Nat → Int) : Prop := ∀ u v, W.adj u v = true → h v - h u = 1 ∨ h v - h u = -1
/-- a laying over a coloring -/
structure Lift (W : Web) (c : List Int) (h : Nat → Int) : Prop where
  lay : Lay W h
  mod : ∀ v, v < W.n → h v % 3 = atc c v
def Laid (W : Web) (c : List Int) : Prop := ∃ h, Lift W c h
theorem stp_lift {W : Web} (hW : W.Pre) {c : List Int} {h : Nat → Int} (L : Lift W c h) (u w : Nat) (a : W.adj u w = true) : stp (atc c u) (atc c w) = h w - h u := by
  have h1 := L.mod u (adj_lt hW a).1
  have h2 := L.mod w (adj_lt hW a).2.1
  unfold stp
  rcases L.lay u w a with e | e
  · rw [if_pos (by omega)]; omega
  · rw [if_neg (by omega)]; omega
theorem Web.Ok.trn_laid {W : Web} (h : W.Ok) {c : List Int} (L : Laid W c) : ∀ r ∈ W.rnds, trn c r = 0 := fun r hr => by
  obtain ⟨f, L⟩ := L
  obtain ⟨p, hp, rfl⟩ := List.mem_map.mp hr
  have hb := h.pre.bnd p (List.mem_filter.mp hp).1
  have P := h.rnd_pth (p := p) (by omega) hb.2
  have A : ∀ u w, W.Tr u w → stp (atc c u) (atc c w) = f w - f u := fun u w x => stp_lift h.pre L u w (x.adj h)
  obtain ⟨t, et⟩ := P.ne
  unfold trn
  rw [show (W.rnd p).take 1 = [p.1] by rw [et]; rfl, P.chain_snoc, P.chain A, stp_lift h.pre L p.2 p.1 (by rw [adj_sym]; exact decide_eq_true (.inl (List.mem_filter.mp hp).1))]
  omega
/-- heights along the ways up -/
noncomputable def hgt (W : Web) (c : List Int) : Nat → Nat → Int
  | 0, _ => atc c 0
  | k + 1, v => hgt W c k (W.up v) + stp (atc c (W.up v)) (atc c v)
noncomputable def Web.hgt (W : Web) (c : List Int) (v : Nat) : Int := M.hgt W c (W.dist 0 v) v
theorem Web.Ok.hgt0 {W : Web} (h : W.Ok) {c : List Int} : W.hgt c 0 = atc c 0 := by unfold Web.hgt; rw [(h.dist h.pre.pos).s0]; rfl
theorem Web.Ok.hgt_up {W : Web} (h : W.Ok) {c : List Int} {v : Nat} (hv : v < W.n) (h0 : v ≠ 0) : W.hgt c v = W.hgt c (W.up v) + stp (atc c (W.up v)) (atc c v) := by
  unfold Web.hgt
  rw [← (h.up_spec hv h0).2.2.2]; rfl
theorem stp_mod {x y : Int} (hx : 0 ≤ x ∧ x ≤ 2) (hy : 0 ≤ y ∧ y ≤ 2) (h : x ≠ y) : (stp x y) % 3 = (y - x) % 3 ∧ stp y x = - stp x y ∧ (stp x y = 1 ∨ stp x y = -1) := by
  unfold stp
  split <;> split <;> omega
theorem Col.at {W : Web} {c : List Int} (hc : Col W c) {v : Nat} (hv : v < W.n) : 0 ≤ atc c v ∧ atc c v ≤ 2 := hc.rng _ (List.mem_of_getElem? (atc_get (by rw [hc.len]; exact hv)))
theorem Web.Ok.hgt_mod {W : Web} (h : W.Ok) {c : List Int} (hc : Col W c) : ∀ (k v : Nat), v < W.n → W.dist 0 v = k → W.hgt c v % 3 = atc c v
  | k, v, hv, hk => by
    by_cases h0 : v = 0
    · subst h0
      rw [h.hgt0]
      have := hc.at hv
      omega
    · have u := h.up_spec hv h0
      cases k with
      | zero => omega
      | succ k =>
        have ih := h.hgt_mod hc k (W.up v) (h.up_lt hv h0) (by omega)
        rw [h.hgt_up hv h0]
        have c1 := hc.at (h.up_lt hv h0)
        have c2 := hc.at hv
        have := (stp_mod c1 c2 (Ne.symm (hc.ne v (W.up v) u.2.2.1))).1
        omega
theorem Web.Ok.laid_trn {W : Web} (h : W.Ok) {c : List Int} (hc : Col W c) (ht : ∀ r ∈ W.rnds, trn c r = 0) : Laid W c := by
  refine ⟨W.hgt c, ?_, fun v hv => h.hgt_mod hc _ v hv rfl⟩
  have key : ∀ p ∈ W.E, W.hgt c p.2 - W.hgt c p.1 = 1 ∨ W.hgt c p.2 - W.hgt c p.1 = -1 := fun p hp => by
    have hb := h.pre.bnd p hp
    have c1 := hc.at (v := p.1) (by omega)
    have c2 := hc.at (v := p.2) hb.2
    have hne := hc.ne p.1 p.2 (decide_eq_true (.inl hp))
    have hs := stp_mod c1 c2 hne
    cases ht' : W.tre p with
    | true =>
      unfold Web.tre at ht'
      rcases (Bool.or_eq_true _ _).mp ht' with z | z
      · obtain ⟨z1, z2⟩ := (Bool.and_eq_true _ _).mp z
        have z1 := of_decide_eq_true z1
        have z2 := of_decide_eq_true z2
        have := h.hgt_up (c := c) (v := p.1) (by omega) z1
        rw [z2, hs.2.1] at this
        omega
      · have z := of_decide_eq_true z
        have := h.hgt_up (c := c) (v := p.2) hb.2 (by omega)
        rw [z] at this
        omega
    | false =>
      have hr : W.rnd p ∈ W.rnds := List.mem_map.mpr ⟨p, List.mem_filter.mpr ⟨hp, by rw [ht']; rfl⟩, rfl⟩
      have hz := ht _ hr
      have P := h.rnd_pth (p := p) (by omega) hb.2
      have A : ∀ u w, W.Tr u w → stp (atc c u) (atc c w) = W.hgt c w - W.hgt c u := fun u w x => by
        rcases x with ⟨x1, x2, rfl⟩ | ⟨x1, x2, rfl⟩
        · have e := h.hgt_up (c := c) x1 x2
          have := stp_mod (hc.at (h.up_lt x1 x2)) (hc.at x1) (Ne.symm (hc.ne _ _ (h.up_spec x1 x2).2.2.1))
          omega
        · have e := h.hgt_up (c := c) x1 x2
          omega
      obtain ⟨t, et⟩ := P.ne
      unfold trn at hz
      rw [show (W.rnd p).take 1 = [p.1] by rw [et]; rfl, P.chain_snoc, P.chain A, hs.2.1] at hz
      have m1 := h.hgt_mod hc _ p.1 (by omega) rfl
      have m2 := h.hgt_mod hc _ p.2 hb.2 rfl
      omega
  intro u v a
  rcases of_decide_eq_true a with a | a
  · exact key _ a
  · have := key _ a
    simp only at this
    omega
/-! ### a recoloring -/
/-- c and d differ at v alone, whose neighbors are all of color x -/
structure Rec (W : Web) (c d : List Int) (v : Nat) (x : Int) : Prop where
  at_ : ∀ u, u ≠ v → atc d u = atc c u
  nbr : ∀ u, W.adj v u = true → atc c u = x
theorem Web.Ok.trn_rec {W : Web} (h : W.Ok) {c d : List Int} (hc : Col W c) (hd : Col W d) {v : Nat} (hv : v < W.n) {x : Int} (r : Rec W c d v x) : ∀ q ∈ W.rnds, trn d q = trn c q := fun q hq => by
  obtain ⟨p, hp, rfl⟩ := List.mem_map.mp hq
  have hpE := (List.mem_filter.mp hp).1
  have hb := h.pre.bnd p hpE
  have P := h.rnd_pth (p := p) (by omega) hb.2
  have A : ∀ u w, W.adj u w = true → stp (atc d u) (atc d w) = stp (atc c u) (atc c w) + ((if w = v then stp x (atc d v) - stp x (atc c v) else 0) - (if u = v then stp x (atc d v) - stp x (atc c v) else 0)) := fun u w a => by
    obtain ⟨l1, l2, l3⟩ := adj_lt h.pre a
    by_cases e1 : u = v
    · subst e1
      have ew : ¬ w = u := fun z => l3 z.symm
      rw [if_pos rfl, if_neg ew, r.at_ w ew, r.nbr w a]
      have hx : atc c w = x := r.nbr w a
      have c1 := hc.at l1
      have c2 := hc.at l2
      have d1 := hd.at l1
      have n1 := hc.ne u w a
      have n2 := hd.ne u w a
      rw [r.at_ w ew] at n2
      rw [hx] at c2 n1 n2
      have s1 := (stp_mod c1 c2 n1).2.1
      have s2 := (stp_mod d1 c2 n2).2.1
      omega
    · by_cases e2 : w = v
      · subst e2
        rw [if_pos rfl, if_neg e1, r.at_ u e1, r.nbr u (by rw [adj_sym]; exact a)]
        omega
      · rw [if_neg e1, if_neg e2, r.at_ u e1, r.at_ w e2]; omega
  obtain ⟨t, et⟩ := P.ne
  unfold trn
  rw [show (W.rnd p).take 1 = [p.1] by rw [et]; rfl, P.chain_snoc, P.chain_snoc, P.chain2 (c := c) (c' := d) (f := fun w => if w = v then stp x (atc d v) - stp x (atc c v) else 0) fun u w z => A u w (z.adj h), A p.2 p.1 (by rw [adj_sym]; exact decide_eq_true (.inl hpE))]
  congr 1
  omega
theorem IsD.few {W : Web} (hW : W.Pre) {s : Nat} {d : Nat → Nat} (D : IsD W s d) : ∀ (k v : Nat), v < W.n → d v = k → ∃ l : List Nat, l.Nodup ∧ l.length = k + 1 ∧ ∀ x ∈ l, x < W.n ∧ d x ≤ k
  | 0, v, hv, hk => ⟨[v], by simp, rfl, fun x hx => by rw [List.mem_singleton.mp hx]; omega⟩
  | k + 1, v, hv, hk => by
    obtain ⟨u, hu, e⟩ := D.back v hv (fun z => by rw [z, D.s0] at hk; omega)
    obtain ⟨l, h1, h2, h3⟩ := D.few hW k u (adj_lt hW hu).2.1 (by omega)
    refine ⟨v :: l, List.nodup_cons.mpr ⟨fun z => ?_, h1⟩, by simp [h2], fun x hx => ?_⟩
    · have := (h3 v z).2; omega
    · rcases List.mem_cons.mp hx with rfl | hx
      · omega
      · have := h3 x hx; omega
theorem IsD.small {W : Web} (hW : W.Pre) {s : Nat} {d : Nat → Nat} (D : IsD W s d) {v : Nat} (hv : v < W.n) : d v + 1 ≤ W.n := by
  obtain ⟨l, h1, h2, h3⟩ := D.few hW _ v hv rfl
  have := h1.length_le_of_subset (fun x hx => List.mem_range.mpr (h3 x hx).1)
  rw [List.length_range] at this
  omega
theorem nb_few {W : Web} {v : Nat} : (W.nb v).length ≤ W.n := by
  unfold Web.nb
  have := List.length_filter_le (W.adj v) (List.range W.n)
  rw [List.length_range] at this
  exact this
theorem legs_sz {d up : Nat → Nat} : ∀ (k a b : Nat), (legs d up k a b).1.length + (legs d up k a b).2.length ≤ k + 2
  | 0, a, b => by unfold legs; simp
  | k + 1, a, b => by
    unfold legs
    split
    · simp
    · split
      · have := legs_sz (d := d) (up := up) k (up a) b
        simp; omega
      · have := legs_sz (d := d) (up := up) k a (up b)
        simp; omega
theorem Web.Ok.rnds_ok {W : Web} (h : W.Ok) {r : List Nat} (hr : r ∈ W.rnds) : ∃ a r', r = a :: r' ∧ (∀ x ∈ r, x < W.n) ∧ r.length ≤ 1000 := by
  obtain ⟨p, hp, rfl⟩ := List.mem_map.mp hr
  have hb := h.pre.bnd p (List.mem_filter.mp hp).1
  have P := h.rnd_pth (p := p) (by omega) hb.2
  obtain ⟨t, et⟩ := P.ne
  refine ⟨p.1, t, et, P.all (n := W.n) (fun u w x => (adj_lt h.pre (x.adj h)).1) hb.2, ?_⟩
  have h1 := legs_sz (d := W.dist 0) (up := W.up) (W.dist 0 p.1 + W.dist 0 p.2) p.1 p.2
  have h2 := (h.dist h.pre.pos).small h.pre (v := p.1) (by omega)
  have h3 := (h.dist h.pre.pos).small h.pre (v := p.2) hb.2
  have h4 := h.pre.few
  unfold Web.rnd Web.leg
  rw [List.length_append, List.length_reverse, List.length_take]
  omega
theorem rnds_few {W : Web} (h : W.Pre) : W.rnds.length ≤ 36 := by
  unfold Web.rnds
  rw [List.length_map]
  have := List.length_filter_le (fun p => !W.tre p) W.E
  have := hedges_few h
  omega
end M

set_option Elab.async false
set_option linter.all false
set_option maxRecDepth 100000
set_option maxHeartbeats 4000000
namespace G
open PySem PySem.Spec PyProof.Rows L2 Evl RZ GX
section
variable {K : PySem.W.Frag} {σ : L2.St} {H H' : Hp} {ms : List Addr} {ta tb te tl th : TE} {t u : TT} {P : V → Hp → Prop} {v : V} {d d1 d2 : PyData} {i j : Int} {b : Bool} {ds es : List PyData}
theorem a_star {tr : TA} (h : ED ms te σ H (.list ds)) (hr : EA ms tr σ H es) : EA ms (StX.tStar K te tr) σ H (ds ++ es) := fun H1 e Q q => h H1 e _ fun x H2 e2 r => by
  obtain ⟨a, xs, rfl, ha, ra⟩ := r.lst_of
  exact ⟨a, xs, rfl, .inr (SqL.of (cut_some ha).2), hr H2 (e.trans e2) _ fun ys H3 e3 r3 => q _ H3 (e2.trans e3) ((ra.mono (ex_cut e3)).app r3)⟩
theorem e_back2 (h : ED ms te σ H (.list ds)) (hn : 1 ≤ ds.length) (L : Live H ms) : ED ms (tBack2 K te) σ H (.list (ds.take (ds.length - 1)).reverse) := fun H1 e Q q => h H1 e _ fun x H2 e2 r => by
  obtain ⟨a, xs, rfl, ha, ra⟩ := r.lst_of
  refine ⟨a, xs, rfl, SqL.of (cut_some ha).2, by rw [ra.len]; exact hn, fun p hp => q _ _ (e2.trans (Ex.new hp)) ?_⟩
  rw [ra.len]
  exact rl_new hp (L.mono (e.trans e2)) (ra.take _).rev
theorem q_par {D : Ends} {k l : Nat} {tz : TS} {P1 : V → Hp → Prop} {P2 : V → Hp → V → Hp → Prop} (h1 : EvP ta σ H P1) (h2 : ∀ v H1, Ex H H1 → P1 v H1 → EvP tb σ H1 (P2 v H1)) (q : ∀ v w H1 H2, Ex H H1 → P1 v H1 → Ex H1 H2 → P2 v H1 w H2 → tz D ((σ.set k (some v)).set l (some w)) H2) :
    tSeq (tPar k l (tCons ta (tCons tb tNil))) tz D σ H := h1 H (Ex.refl _) _ fun v H1 e1 p1 => h2 v H1 e1 p1 H1 (Ex.refl _) _ fun w H2 e2 p2 => ⟨v, w, rfl, q v w H1 H2 e1 p1 e2 p2⟩
theorem s_par {D : Ends} {k l : Nat} {P1 : V → Hp → Prop} {P2 : V → Hp → V → Hp → Prop} (h1 : EvP ta σ H P1) (h2 : ∀ v H1, Ex H H1 → P1 v H1 → EvP tb σ H1 (P2 v H1)) (q : ∀ v w H1 H2, Ex H H1 → P1 v H1 → Ex H1 H2 → P2 v H1 w H2 → D.nx ((σ.set k (some v)).set l (some w)) H2) :
    tPar k l (tCons ta (tCons tb tNil)) D σ H := h1 H (Ex.refl _) _ fun v H1 e1 p1 => h2 v H1 e1 p1 H1 (Ex.refl _) _ fun w H2 e2 p2 => ⟨v, w, rfl, q v w H1 H2 e1 p1 e2 p2⟩
theorem rp_tups {L : List (List Int)} : ∀ {xs : List V}, RpAll H xs (L.map fun c => PyData.tuple (c.map PyData.int)) → ∃ bs : List Addr, xs = bs.map V.ref ∧ Paired (fun (ns : List Int) b => H b = some (.tup (ns.map V.int))) L bs := by
  induction L with
  | nil => intro xs r; cases r; exact ⟨[], rfl, .nil⟩
  | cons c L ih =>
    intro xs r
    rw [List.map_cons] at r
    cases r with
    | cons r1 r =>
      obtain ⟨b, ys, rfl, hb, ry⟩ := r1.tup_of
      obtain ⟨bs, rfl, hp⟩ := ih r
      rw [ry.ints_of] at hb
      exact ⟨b :: bs, rfl, .cons hb hp⟩
theorem rp_of_tups {L : List (List Int)} {bs : List Addr} (h : Paired (fun (ns : List Int) b => H b = some (.tup (ns.map V.int))) L bs) : RpAll H (bs.map V.ref) (L.map fun c => PyData.tuple (c.map PyData.int)) := by
  induction h with
  | nil => exact .nil
  | cons h _ ih => exact .cons (.tup h (RpAll.ints _)) ih
/-- sorted(xs), xs a list of tuples of ints of one length -/
theorem e_sortedX {L : List (List Int)} {m : Nat} (h : ED ms ta σ H (.list (L.map fun c => PyData.tuple (c.map PyData.int)))) (hm : 1 ≤ m) (hl : ∀ c ∈ L, c.length = m) (Lv : Live H ms) :
    EvP (tCB (rSortX K) (tCons ta tNil)) σ H fun v H2 => ∃ L' : List (List Int), L'.Perm L ∧ L'.Pairwise (fun x y => HT.lexLt y x = false) ∧ Rp (cut H2 ms) v (.list (L'.map fun c => PyData.tuple (c.map PyData.int))) := e_cb1 h fun x H2 e2 r Q q => by
  obtain ⟨a, xs, rfl, ha, ra⟩ := r.lst_of
  obtain ⟨bs, rfl, hp⟩ := rp_tups ra
  refine ⟨a, bs, L, m, fun ns b => cut H2 ms b = some (.tup (ns.map V.int)), rfl, SqL.of (cut_some ha).2, hp, fun ns b g => SqT.of (cut_some g).2, hm, hl, fun L' bs' p h1 h2 h3 h4 => q _ _ (Ex.new h4) ⟨L', h1, h2, rl_new h4 (Lv.mono e2) (rp_of_tups h3)⟩⟩
end
/-- the callee chooses what it hands back -/
def PSr (R : List PyData → (PyData → Prop) → Prop) : Sp := fun vs H Q _ => ∃ ds S ms, RpAll (cut H ms) vs ds ∧ Live H ms ∧ R ds S ∧ ∀ v H' d, Ex H H' → S d → Rp (cut H' ms) v d → Q v H'
theorem e_callr {σ : L2.St} {H : Hp} {ms : List Addr} {R : List PyData → (PyData → Prop) → Prop} {E : XK} {ta : TA} {ds : List PyData} {S : PyData → Prop} (h : EA ms ta σ H ds) (L : Live H ms) (hR : R ds S) :
    EvP (tCall (PSr R) [] E ta) σ H fun v H2 => ∃ d, S d ∧ Rp (cut H2 ms) v d := fun H1 e Q q =>
  h H1 e _ fun vs H2 e2 r => ⟨ds, S, ms, by simpa using r, L.mono (e.trans e2), hR, fun v H' d e3 s p => q v H' (e2.trans e3) ⟨d, s, p⟩⟩
/-! ### a dict of ints, each key once -/
def dkA (ks : List Int) (k : Int) : List Int := if k ∈ ks then ks else ks ++ [k]
def dk (l : List Int) : List Int := l.foldl dkA []
abbrev tK (k : Int) : L2.Key × V := (Sum.inl k, V.bl true)
theorem dk_snoc {l : List Int} {k : Int} : dk (l ++ [k]) = dkA (dk l) k := by unfold dk; rw [List.foldl_append]; rfl
theorem put_tK (ks : List Int) (k : Int) : putK (ks.map tK) (Sum.inl k) (V.bl true) = (dkA ks k).map tK := by
  have ha : ((ks.map tK).any fun kv => decide (kv.1 = (Sum.inl k : L2.Key))) = decide (k ∈ ks) := by
    induction ks with
    | nil => rfl
    | cons a r ih =>
      rw [List.map_cons, List.any_cons, ih]
      by_cases e : a = k
      · subst e; simp
      · have e2 : ¬ (Sum.inl a : L2.Key) = Sum.inl k := fun z => e (Sum.inl.inj z)
        have e3 : ¬ k = a := fun z => e z.symm
        rw [decide_eq_false e2]
        simp [e3]
  unfold putK dkA
  rw [ha]
  by_cases h : k ∈ ks
  · rw [if_pos (decide_eq_true h), if_pos h, List.map_map]
    exact List.map_congr_left fun x _ => by
      show (if (Sum.inl x : L2.Key) = Sum.inl k then ((Sum.inl x : L2.Key), V.bl true) else tK x) = tK x
      split <;> rfl
  · rw [if_neg (by simp [h]), if_neg h, List.map_append]; rfl
theorem dkA_len (ks : List Int) (k : Int) : (dkA ks k).length ≤ ks.length + 1 := by
  unfold dkA
  split
  · omega
  · simp
theorem dk_lenA : ∀ (l acc : List Int), (l.foldl dkA acc).length ≤ acc.length + l.length
  | [], acc => Nat.le_refl _
  | k :: l, acc => by
    have h1 := dk_lenA l (dkA acc k)
    have h2 := dkA_len acc k
    rw [List.foldl_cons, List.length_cons]; omega
theorem dk_len (l : List Int) : (dk l).length ≤ l.length := by
  have := dk_lenA l []
  rw [List.length_nil] at this
  unfold dk; omega
section
variable {K : PySem.W.Frag} {σ : L2.St} {H H' : Hp} {ms : List Addr} {ta tb te tl th tk : TE}
theorem n_dcB {α : Type} {xs : List α} {enc : α → PyData} {wi : TI} {g : TG} {vs : List Nat} (kf : α → Int) (S : Src ms wi σ H (xs.map enc)) (hn : xs.length ≤ 1000) (L : Live H ms)
    (step : ∀ (ms' : List Addr) (a : α) (v : V) (H1 : Hp), a ∈ xs → Ex H H1 → Ex (cut H ms) (cut H1 ms') → Live H1 ms' → Rp (cut H1 ms') v (enc a) →
      ∃ σ2, (∀ Q : L2.St → Hp → Prop, Q σ2 H1 → g v (wipe σ vs) H1 Q) ∧ wipe σ2 vs = wipe σ vs ∧ ED ms' tk σ2 H1 (.int (kf a))) :
    EvP (tDc wi g tYes tk (tC (.bl true)) vs) σ H fun v H2 => ∃ D, v = .ref D ∧ H D = none ∧ H2 D = some (.dK ((dk (xs.map kf)).map tK)) := fun H0 e Q q => S H0 e _ fun J H2 Y e2 W hY => fun Dl hD => by
  have L2' : Live H2 ms := L.mono (e.trans e2)
  refine ⟨fun i m Hc => m = xs.length - i ∧ i ≤ xs.length ∧ Hc Dl = some (.dK ((dk ((xs.take i).map kf)).map tK)) ∧ Ex H2 Hc, ⟨xs.length, by simp, Nat.zero_le _, by rw [List.take_zero]; exact upd_same, Ex.new hD⟩, ?_⟩
  rintro i m Hc ⟨rfl, hi, h1, h3⟩
  have hlen : (xs.map enc).length = xs.length := List.length_map _
  by_cases hlt : i < xs.length
  · refine .inr ⟨W.goes i Hc (by rw [hlen]; exact hlt) (cut_le.trans h3), fun H' => i + 1 ≤ xs.length ∧ H' Dl = some (.dK ((dk ((xs.take (i + 1)).map kf)).map tK)) ∧ Ex H2 H', fun H' p' => ⟨xs.length - (i + 1), by omega, rfl, p'⟩, fun x H' y => ?_⟩
    obtain ⟨ey, ry⟩ := hY i Hc x H' (by rw [hlen]; exact hlt) (cut_le.trans h3) (W.yields i Hc x H' (by rw [hlen]; exact hlt) (cut_le.trans h3) y)
    have hxi : xs[i]? = some xs[i] := List.getElem?_eq_getElem hlt
    have hdi : (xs.map enc)[i]? = some (enc xs[i]) := by rw [List.getElem?_map, hxi]; rfl
    have ec : Ex (cut H2 ms) (cut Hc (Dl :: ms)) := fun a o z => by
      obtain ⟨z1, z2⟩ := cut_some z
      have : a ≠ Dl := ne_of_none z2 hD
      rw [cut_out (by simp [this, z1])]
      exact h3 a o z2
    have Lc : Live Hc (Dl :: ms) := (L2'.mono h3).cons h1
    obtain ⟨σ2, hg, hw, he⟩ := step (Dl :: ms) xs[i] x H' (List.getElem_mem hlt) (((e.trans e2).trans h3).trans ey) (((ex_cut (e.trans e2)).trans ec).trans (ex_cut ey)) (Lc.mono ey) (ry (Dl :: ms) _ ec Lc hdi)
    have tk' : xs.take (i + 1) = xs.take i ++ [xs[i]] := by rw [List.take_add_one, hxi]; rfl
    refine hg _ ⟨hw, ?_⟩
    refine he H' (Ex.refl _) _ fun y H4 e4 r4 => ?_
    cases r4.int_of
    refine ⟨_, Sum.inl (kf xs[i]), rfl, e4 Dl _ (ey Dl _ h1), ?_, hlt, ?_, Ex.mut ((h3.trans ey).trans e4) hD⟩
    · rw [List.length_map]
      have := dk_len ((xs.take i).map kf)
      rw [List.length_map, List.length_take] at this
      exact Evl.sz_lt (by omega)
    · rw [upd_same, put_tK, ← dk_snoc, tk', List.map_append]; rfl
  · have e' : i = xs.length := by omega
    subst e'
    rw [List.take_length] at h1
    exact .inl ⟨by rw [← hlen]; exact W.stops Hc (cut_le.trans h3), q _ _ (e2.trans h3) ⟨Dl, rfl, Evl.fresh_back (e.trans e2) hD, h1⟩⟩
theorem e_lenD {p : Addr} {kvs : List (L2.Key × V)} (ha : EvP ta σ H fun w _ => w = .ref p) (hp : H p = some (.dK kvs)) : ED ms (tCB (fun xs H Q => ∃ a kvs, xs = [V.ref a] ∧ H a = some (.dK kvs) ∧ Q (.int kvs.length) H) (tCons ta tNil)) σ H (.int kvs.length) := fun H1 e Q q =>
  ha H1 e _ fun x H2 e2 rx => by
    subst rx
    exact ⟨p, kvs, rfl, e2 p _ (e p _ hp), q _ H2 e2 (.int _)⟩
theorem e_listD {p : Addr} {ks : List Int} (ha : EvP ta σ H fun w _ => w = .ref p) (hp : H p = some (.dK (ks.map tK))) (L : Live H ms) : ED ms (tCB rListD (tCons ta tNil)) σ H (.list (ks.map PyData.int)) := fun H1 e Q q =>
  ha H1 e _ fun x H2 e2 rx => by
    subst rx
    refine ⟨p, _, rfl, e2 p _ (e p _ hp), fun l hl => q _ _ (e2.trans (Ex.new hl)) (rl_new hl ((L.mono e).mono e2) ?_)⟩
    rw [List.map_map]
    exact RpAll.ints ks
theorem e_listRg3 {i j c : Int} {n : Nat} (ha : ED ms ta σ H (.int i)) (hb : ED ms tb σ H (.int j)) (hc : ED ms te σ H (.int c)) (h : RgC i j c n) (hn : n ≤ 100000) (L : Live H ms) : ED ms (tLstRg3 ta tb te) σ H (.list ((List.range n).map fun (k : Nat) => PyData.int (i + (k : Int) * c))) := fun H1 e Q q =>
  ha H1 e _ fun x H2 e2 rx => hb H2 (e.trans e2) _ fun y H3 e3 ry => hc H3 ((e.trans e2).trans e3) _ fun z H4 e4 rz => by
    cases rx.int_of; cases ry.int_of; cases rz.int_of
    refine ⟨i, j, c, n, rfl, h, hn, fun p hp => q _ _ (((e2.trans e3).trans e4).trans (Ex.new hp)) (rl_new hp (L.mono (((e.trans e2).trans e3).trans e4)) ?_)⟩
    have := RpAll.ints (H := cut H4 ms) ((List.range n).map fun (k : Nat) => i + (k : Int) * c)
    rw [List.map_map, List.map_map] at this
    exact this
/-- d[k], d's keys ints -/
theorem e_dgetK {p : Addr} {kvs : List (L2.Key × V)} {k : Int} {v : V} {d : PyData} (ha : EvP ta σ H fun w _ => w = .ref p) (hp : H p = some (.dK kvs)) (hb : ED ms tb σ H (.int k)) (hv : valV kvs (Sum.inl k) = some v) (r : Rp (cut H ms) v d) : ED ms (tDGet ta tb) σ H d := fun H1 e Q q =>
  ha H1 e _ fun x H2 e2 rx => hb H2 (e.trans e2) _ fun y H3 e3 ry => by
    subst rx
    cases ry.int_of
    refine ⟨p, v, rfl, ?_, q v H3 (e2.trans e3) (rp_keep ((e.trans e2).trans e3) r)⟩
    rw [← hv]
    exact DGet.k (k := Sum.inl k) (((e.trans e2).trans e3) p _ hp)
theorem t_notInK {p : Addr} {kvs : List (L2.Key × V)} {k : Int} (ha : EvP ta σ H fun w _ => w = .ref p) (hp : H p = some (.dK kvs)) (hb : ED ms tb σ H (.int k)) : EvT (tB (tDNotIn tb ta)) σ H (!(valV kvs (Sum.inl k)).isSome) := fun H1 e Q q =>
  hb H1 e _ fun y H2 e2 ry => ha H2 (e.trans e2) _ fun x H3 e3 rx => by
    subst rx
    cases ry.int_of
    exact ⟨p, _, rfl, DGet.k (k := Sum.inl k) (((e.trans e2).trans e3) p _ hp), _, rfl, q H3 (e2.trans e3)⟩
theorem s_dputK {D : Ends} {p : Addr} {kvs : List (L2.Key × V)} {k : Int} {v0 : V} (hp : H p = some (.dK kvs)) (hv : EvP te σ H fun w _ => w = v0) (ha : EvP ta σ H fun w _ => w = .ref p) (hb : ED ms tb σ H (.int k)) (hz : kvs.length < 100000)
    (q : ∀ H1, Ex H H1 → D.nx σ (upd H1 p (.dK (putK kvs (Sum.inl k) v0)))) : sDPut ta tb te D σ H := hv H (Ex.refl _) _ fun v H1 e1 pv => ha H1 e1 _ fun x H2 e2 rx => hb H2 (e1.trans e2) _ fun y H3 e3 ry => by
  subst pv rx
  cases ry.int_of
  exact ⟨p, _, rfl, DPut.k (k := Sum.inl k) (((e1.trans e2).trans e3) p _ hp) (Evl.sz_lt hz), q H3 ((e1.trans e2).trans e3)⟩
theorem q_dputK {D : Ends} {tz : TS} {p : Addr} {kvs : List (L2.Key × V)} {k : Int} {v0 : V} (hp : H p = some (.dK kvs)) (hv : EvP te σ H fun w _ => w = v0) (ha : EvP ta σ H fun w _ => w = .ref p) (hb : ED ms tb σ H (.int k)) (hz : kvs.length < 100000)
    (q : ∀ H1, Ex H H1 → tz D σ (upd H1 p (.dK (putK kvs (Sum.inl k) v0)))) : tSeq (sDPut ta tb te) tz D σ H := s_dputK (D := { D with nx := tz D }) hp hv ha hb hz q
/-- a tuple of ints as a key -/
abbrev kT (ks : List Int) : List L2.Key := ks.map Sum.inl
theorem rp_key {H : Hp} {v : V} {ks : List Int} (r : Rp (cut H ms) v (.tuple (ks.map PyData.int))) : ∃ b, v = .ref b ∧ H b = some (.tup ((kT ks).map kV)) := by
  obtain ⟨b, xs, rfl, hb, rx⟩ := r.tup_of
  refine ⟨b, rfl, ?_⟩
  rw [rx.ints_of] at hb
  rw [kI_vs]
  exact (cut_some hb).2
theorem e_dgetT {p : Addr} {kvs : List (List L2.Key × V)} {ks : List Int} {v : V} {d : PyData} (ha : EvP ta σ H fun w _ => w = .ref p) (hp : H p = some (.dT kvs)) (hb : ED ms tb σ H (.tuple (ks.map PyData.int))) (hv : valV kvs (kT ks) = some v) (r : Rp (cut H ms) v d) : ED ms (tDGet ta tb) σ H d := fun H1 e Q q =>
  ha H1 e _ fun x H2 e2 rx => hb H2 (e.trans e2) _ fun y H3 e3 ry => by
    subst rx
    obtain ⟨b, rfl, hb⟩ := rp_key ry
    refine ⟨p, v, rfl, ?_, q v H3 (e2.trans e3) (rp_keep ((e.trans e2).trans e3) r)⟩
    rw [← hv]
    exact DGet.t (((e.trans e2).trans e3) p _ hp) hb
theorem t_notInT {p : Addr} {kvs : List (List L2.Key × V)} {ks : List Int} (ha : EvP ta σ H fun w _ => w = .ref p) (hp : H p = some (.dT kvs)) (hb : ED ms tb σ H (.tuple (ks.map PyData.int))) : EvT (tB (tDNotIn tb ta)) σ H (!(valV kvs (kT ks)).isSome) := fun H1 e Q q =>
  hb H1 e _ fun y H2 e2 ry => ha H2 (e.trans e2) _ fun x H3 e3 rx => by
    subst rx
    obtain ⟨b, rfl, hb⟩ := rp_key (ry.mono (ex_cut e3))
    exact ⟨p, _, rfl, DGet.t (((e.trans e2).trans e3) p _ hp) hb, _, rfl, q H3 (e2.trans e3)⟩
theorem s_dputT {D : Ends} {p : Addr} {kvs : List (List L2.Key × V)} {ks : List Int} {v0 : V} (hp : H p = some (.dT kvs)) (hv : EvP te σ H fun w _ => w = v0) (ha : EvP ta σ H fun w _ => w = .ref p) (hb : ED ms tb σ H (.tuple (ks.map PyData.int))) (hz : kvs.length < 100000)
    (q : ∀ H1, Ex H H1 → D.nx σ (upd H1 p (.dT (putK kvs (kT ks) v0)))) : sDPut ta tb te D σ H := hv H (Ex.refl _) _ fun v H1 e1 pv => ha H1 e1 _ fun x H2 e2 rx => hb H2 (e1.trans e2) _ fun y H3 e3 ry => by
  subst pv rx
  obtain ⟨b, rfl, hb⟩ := rp_key ry
  exact ⟨p, _, rfl, DPut.t (((e1.trans e2).trans e3) p _ hp) hb (Evl.sz_lt hz), q H3 ((e1.trans e2).trans e3)⟩
theorem q_dputT {D : Ends} {tz : TS} {p : Addr} {kvs : List (List L2.Key × V)} {ks : List Int} {v0 : V} (hp : H p = some (.dT kvs)) (hv : EvP te σ H fun w _ => w = v0) (ha : EvP ta σ H fun w _ => w = .ref p) (hb : ED ms tb σ H (.tuple (ks.map PyData.int))) (hz : kvs.length < 100000)
    (q : ∀ H1, Ex H H1 → tz D σ (upd H1 p (.dT (putK kvs (kT ks) v0)))) : tSeq (sDPut ta tb te) tz D σ H := s_dputT (D := { D with nx := tz D }) hp hv ha hb hz q
/-- d.get(k, int) -/
theorem v_dget2T {p : Addr} {kvs : List (List L2.Key × V)} {ks : List Int} {i : Int} (ha : EvP ta σ H fun w _ => w = .ref p) (hp : H p = some (.dT kvs)) (hb : ED ms tb σ H (.tuple (ks.map PyData.int))) (hi : EvP te σ H fun w _ => w = .int i) : EvP (tDGet2 ta tb te) σ H fun w _ => w = (valV kvs (kT ks)).getD (.int i) := fun H1 e Q q =>
  ha H1 e _ fun x H2 e2 rx => by
    subst rx
    refine ⟨p, rfl, .inr ⟨kvs, .inl ((e.trans e2) p _ hp)⟩, hb H2 (e.trans e2) _ fun y H3 e3 ry => hi H3 ((e.trans e2).trans e3) _ fun z H4 e4 rz => ?_⟩
    subst rz
    obtain ⟨b, rfl, hb⟩ := rp_key (ry.mono (ex_cut e4))
    exact ⟨_, DGet.t ((((e.trans e2).trans e3).trans e4) p _ hp) hb, q _ H4 ((e2.trans e3).trans e4) rfl⟩
/-- {int: int} -/
theorem n_dispK {k i : Int} (hk : ED ms ta σ H (.int k)) (hv : EvP tb σ H fun w _ => w = .int i) : EvP (tDisp [(ta, tb)]) σ H fun v H2 => ∃ p, v = .ref p ∧ H p = none ∧ H2 p = some (.dK [(Sum.inl k, .int i)]) := fun H1 e Q q p hp => by
  refine hk _ (e.trans (Ex.new hp)) _ fun x H2 e2 rx => hv H2 ((e.trans (Ex.new hp)).trans e2) _ fun y H3 e3 ry => ?_
  cases rx.int_of
  subst ry
  have hp3 : H3 p = some (.dK []) := e3 _ _ (e2 _ _ upd_same)
  exact ⟨hp3, [(Sum.inl k, .int i)], rfl, by simp, q _ _ (Ex.mut (((Ex.new hp).trans e2).trans e3) hp) ⟨p, rfl, Evl.fresh_back e hp, upd_same⟩⟩
/-- {tuple: int} -/
theorem n_dispT {ks : List Int} {i : Int} (hk : ED ms ta σ H (.tuple (ks.map PyData.int))) (hv : EvP tb σ H fun w _ => w = .int i) : EvP (tDispT ta tb) σ H fun v H2 => ∃ p, v = .ref p ∧ H p = none ∧ H2 p = some (.dT [(kT ks, .int i)]) := fun H1 e Q q p hp => by
  refine hk _ (e.trans (Ex.new hp)) _ fun x H2 e2 rx => hv H2 ((e.trans (Ex.new hp)).trans e2) _ fun y H3 e3 ry => ?_
  obtain ⟨b, rfl, hb⟩ := rp_key (rx.mono (ex_cut e3))
  subst ry
  have hp3 : H3 p = some (.dT []) := e3 _ _ (e2 _ _ upd_same)
  exact ⟨hp3, b, kT ks, rfl, hb, q _ _ (Ex.mut (((Ex.new hp).trans e2).trans e3) hp) ⟨p, rfl, Evl.fresh_back e hp, upd_same⟩⟩
theorem n_newT : EvP tDNewT σ H fun v H2 => ∃ p, v = .ref p ∧ H p = none ∧ H2 p = some (.dT []) := fun H1 e Q q p hp => q _ _ (Ex.new hp) ⟨p, rfl, Evl.fresh_back e hp, upd_same⟩
end
end G
namespace G
open PySem PySem.Spec PyProof.Rows L2 Evl RZ GX
/-! ### a call by hand -/
theorem c_cons {te : TE} {tr : TA} {σ : L2.St} {H : Hp} {P : V → Hp → Prop} {Q : List V → Hp → Prop} (h : EvP te σ H P) (q : ∀ v H1, Ex H H1 → P v H1 → tr σ H1 fun vs H2 => Q (v :: vs) H2) : tCons te tr σ H Q := h H (Ex.refl _) _ fun v H1 e p => q v H1 e p
theorem c_nil {σ : L2.St} {H : Hp} {Q : List V → Hp → Prop} (h : Q [] H) : tNil σ H Q := h
theorem s_retC {sp : Sp} {E : XK} {ta : TA} {D : Ends} {σ : L2.St} {H : Hp} (h : ta σ H fun vs H2 => sp (vs ++ []) H2 D.rt E) : tRet (tCall sp [] E ta) D σ H := h
/-- a call as a value, its arguments said one by one -/
theorem e_callC {sp : Sp} {E : XK} {ta : TA} {σ : L2.St} {H : Hp} {P : V → Hp → Prop} (h : ∀ H1, Ex H H1 → ∀ Q : VK, (∀ v H2, Ex H1 H2 → P v H2 → Q v H2) → ta σ H1 fun vs H2 => sp (vs ++ []) H2 Q E) : EvP (tCall sp [] E ta) σ H P := fun H1 e Q q => h H1 e Q q
end G
namespace G
open PySem PySem.Spec PyProof.Rows L2 Evl RZ GX
/-! ### tables -/
theorem valV_map_int {f : Nat → Int} {u : Nat} : ∀ ln : List Nat, valV (ln.map fun (x : Nat) => ((Sum.inl (x : Int) : L2.Key), V.int (f x))) (Sum.inl (u : Int)) = if u ∈ ln then some (V.int (f u)) else none
  | [] => rfl
  | x :: r => by
    rw [List.map_cons]
    by_cases e : x = u
    · subst e
      rw [valV_pos (p := ((Sum.inl (x : Int) : L2.Key), V.int (f x))) rfl, if_pos List.mem_cons_self]
    · rw [valV_neg (p := ((Sum.inl (x : Int) : L2.Key), V.int (f x))) (fun z => e (by have := Sum.inl.inj z; omega)), valV_map_int r]
      by_cases m : u ∈ r
      · rw [if_pos m, if_pos (List.mem_cons_of_mem _ m)]
      · rw [if_neg m, if_neg (fun z => (List.mem_cons.mp z).elim (fun q => e q.symm) m)]
end G

set_option linter.all false
/-! M5: moves. -/
namespace M
open PySem G
def lowB (W : Web) (c : List Int) (f : Nat) : Bool := (W.nb f).all fun u => !decide (atc c u < atc c f)
def highB (W : Web) (c : List Int) (f : Nat) : Bool := (W.nb f).all fun u => !decide (atc c f < atc c u)
/-- the recoloring of f, if there is one -/
def recO (W : Web) (c : List Int) (f : Nat) : Option (List Int) :=
  match dk ((W.nb f).map (atc c)) with
  | [x] => some (c.set f (3 - atc c f - x))
  | _ => none
def dOpt : Option (List Int) → PyData
  | some c => dC c
  | none => .none
theorem set_cut {α : Type} {c : List α} {f : Nat} {x : α} (h : f < c.length) : c.take f ++ [x] ++ c.drop (f + 1) = c.set f x := by
  rw [List.set_eq_take_append_cons_drop, if_pos h, List.append_assoc]; rfl
theorem filter_nil_all {α : Type} {p : α → Bool} {l : List α} : decide (l.filter p = []) = l.all fun x => !p x := by
  rw [Bool.eq_iff_iff]
  simp [List.filter_eq_nil_iff]
theorem atc_set {c : List Int} {f v : Nat} {x : Int} (h : f < c.length) : atc (c.set f x) v = if v = f then x else atc c v := by
  unfold atc
  rw [List.getD_eq_getElem?_getD, List.getD_eq_getElem?_getD, List.getElem?_set]
  by_cases e : f = v
  · subst e; rw [if_pos rfl, if_pos rfl, if_pos h]; rfl
  · rw [if_neg e, if_neg (fun z => e z.symm)]
end M
namespace M
open PySem G
/-- heights that go with the neighbors ahead -/
def cst (hv : Nat → Int) (o : Option (List Int)) (u : Nat) : Option (List Int) :=
  some (match o with
    | none => [hv u - 1, hv u + 1]
    | some l => l.filter fun x => decide (x ∈ [hv u - 1, hv u + 1]))
def Web.ahd (W : Web) (f : Nat) : List Nat := (W.nb f).filter fun u => decide (u < f)
def rg2 (lo hi : Int) : List Int := (List.range ((hi - lo).toNat / 2 + 1)).map fun (k : Nat) => lo + (k : Int) * 2
def cand (W : Web) (lo hi : List Int) (f : Nat) (hv : Nat → Int) : List Int :=
  (((W.ahd f).foldl (cst hv) none).getD (rg2 (atc lo f) (atc hi f))).filter fun x => decide (atc lo f ≤ x) && decide (x ≤ atc hi f)
end M
namespace M
theorem cst_len {hv : Nat → Int} : ∀ (m : List Nat) (o : Option (List Int)) (l : List Int), (∀ l, o = some l → l.length ≤ 2) → m.foldl (cst hv) o = some l → l.length ≤ 2
  | [], o, l, h1, h2 => h1 l h2
  | a :: m, o, l, h1, h2 => by
    refine cst_len m (cst hv o a) l (fun l' hl' => ?_) h2
    unfold cst at hl'
    cases o with
    | none => cases hl'; exact Nat.le_refl _
    | some l0 =>
      cases hl'
      exact Nat.le_trans (List.length_filter_le _ _) (h1 l0 rfl)
end M

set_option Elab.async false
set_option linter.all false
set_option maxRecDepth 100000
set_option maxHeartbeats 4000000
namespace T
open PySem PySem.Spec PyProof.Rows L2 RZ G M GX
open Evl (Ex EvT et_or et_not et_and)
section
variable {P : Program} {w : World} {K : PySem.W.Frag} {mg : Str → Option Value} {base : Heap} {f : Addr} {fd : FuncData}
def sp_turns_of : Sp := PSm fun ds d => ∃ (c : List Int) (r : List Nat) (a : Nat) (r' : List Nat), ds = [dC c, dNs r] ∧ r = a :: r' ∧ (∀ x ∈ r, x < c.length) ∧ r.length ≤ 1000 ∧ d = .int (trn c r)
abbrev s_turns_of : Stmt := topS 26
theorem sc_turns_of : FnScope ["coloring", "told", "line", "one", "other"] ["coloring", "told"] (defScope s_turns_of) := ⟨rfl, rfl, rfl, by decide +kernel, rfl, by decide +kernel, by decide +kernel⟩
theorem ok_turns_of (F : Fun K "turns_of" "turns_of" s_turns_of f fd) (b : Blt mg) (g : Glb mg) (c_step : Dfn P w K mg base 1 "step" ["one", "other"] sp_step) : FnOk P w K mg base CX0 2 f fd ["coloring", "told"] sp_turns_of := by
  refine F.ok sc_turns_of (fun vs H Q E h => ?_) (fun cdv A outer s H vs Q E hr h => ?_)
  · obtain ⟨ds, d, ms, r, _, ⟨c, q, a, q', rfl, _⟩, _⟩ := h; exact r.len
  · obtain ⟨ds, d, ms, r, L, ⟨c, q, a, q', rfl, hq, hlt, hlen, rfl⟩, k⟩ := h
    have nd := sc_turns_of.nd
    refine ⟨_, pss_cons (ps_set (i := 2) nd rfl (Or.inl rfl) (pe_lst (pa_starK K rfl (pv 1) (pa_cons (pe_ix (ix_listK K rfl) (pv 1) (pe_int) (fun _ _ => rfl)) pa_nil)))) (pss_one (ps_ret (pe_op op_fdiv (pe_callB (cr_sumK K rfl rfl) (by rfl) b.sum (by decide +kernel) (pa_cons (pe_lc (own := [("one", 3), ("other", 4)]) rfl nd (pi_zipK K rfl (by rfl) b.zip (pa_cons (pv 2) (pa_cons (pe_slice (sl_listK K rfl) (pv 2) (po_some (pe_int)) po_none) pa_nil))) (blkOk_by (own := [("one", 3), ("other", 4)]) (N := ["coloring", "told", "line", "one", "other"]) (sc := (defScope s_turns_of)) (by decide +kernel)) (fun _ _ _ _ _ => pg_tupK (n := 2) K rfl rfl (pgs_cons (pg_name (i := 3) nd rfl (Or.inl rfl)) (pgs_cons (pg_name (i := 4) nd rfl (Or.inl rfl)) (pgs_nil)))) (fun _ _ _ _ _ => pts_nil) (fun _ _ _ _ _ => pe_own c_step hr (pa_cons (pe_ix (ix_tupK K rfl) (pv 0) (pv 3) (fun _ _ => rfl)) (pa_cons (pe_ix (ix_tupK K rfl) (pv 0) (pv 4) (fun _ _ => rfl)) pa_nil)))) pa_nil)) (pe_gi g.COLORS)))), ?_⟩
    obtain ⟨v1, v2, rfl, r1, r2⟩ := r.two
    refine q_asg (e_is (d2 := dNs (q ++ [a])) (e_lst (a_star (e_var rfl r2) (a_cons (e_ixL (d := dN a) (e_var rfl r2) e_int (by rw [hq]; exact atI_nat (j := 0) rfl)) a_nil)) (by simp [nI]; omega) L) (by show PyData.list _ = PyData.list _; rw [nI_app, List.map_append]; rfl)) fun v H1 e1 r3 => ?_
    have r1' := rp_keep e1 r1
    have ez : zipD ((nI (q ++ [a])).map PyData.int) (((nI (q ++ [a])).map PyData.int).drop 1) = (((q ++ [a]).zip ((q ++ [a]).drop 1))).map fun p => PyData.tuple [dN p.1, dN p.2] := by
      unfold zipD
      rw [dNs_eq, ← List.map_drop, zip_map_nI, List.map_map]; rfl
    have hall : ∀ x ∈ q ++ [a], x < c.length := fun x hx => by
      rcases List.mem_append.mp hx with hx | hx
      · exact hlt x hx
      · rw [List.mem_singleton.mp hx]; exact hlt a (by rw [hq]; exact List.mem_cons_self)
    refine s_ret (e_is (e_IC (e_sum (ns := ((q ++ [a]).zip ((q ++ [a]).drop 1)).map fun p => stp (atc c p.1) (atc c p.2)) (e_is (e_mapT (xs := (q ++ [a]).zip ((q ++ [a]).drop 1)) (enc := fun p => .tuple [dN p.1, dN p.2]) (fun p => .int (stp (atc c p.1) (atc c p.2))) ?_ ?_ (L.mono e1) fun ms' p v H2 hp e2 ec L2 rv => ?_) (by rw [List.map_map]; rfl))) e_int ⟨by decide, by decide⟩) ?_) fun v H2 e2 p => k v H2 (e1.trans e2) p
    · rw [← ez]
      exact src_zipAL (a_cons (e_var rfl r3) (a_cons (e_is (e_slL (e_var rfl r3) (eo_some (ms := []) e_int) eo_none (L.mono e1)) (by rw [show (1 : Int) = ((1 : Nat) : Int) from rfl, cutD_from])) a_nil))
    · rw [List.length_zip]; simp; omega
    · obtain ⟨x, y, rx, ry, hg⟩ := g_tup2 (ma := 3) (mb := 4) cut_le rv
      have rc := r1'.mono ec
      have m1 := hall _ (List.of_mem_zip hp).1
      have m2 := hall _ (List.mem_of_mem_drop (List.of_mem_zip hp).2)
      refine ⟨_, fun Q q => hg _ Q q, rfl, e_call (a_cons (e_ixT (d := .int (atc c p.1)) (e_var rfl rc) (e_var rfl rx) (atI_nat (by rw [List.getElem?_map, atc_get m1]; rfl))) (a_cons (e_ixT (d := .int (atc c p.2)) (e_var rfl rc) (e_var rfl ry) (atI_nat (by rw [List.getElem?_map, atc_get m2]; rfl))) a_nil)) L2 ⟨_, _, rfl, rfl⟩⟩
    · show PyData.int (_ / 3) = PyData.int (trn c q)
      rw [chain_zip]
      unfold trn
      rw [hq]; rfl
theorem dNs_len (l : List Nat) : ((nI l).map PyData.int).length = l.length := by rw [List.length_map, nI_len]
/-- what rounds_of hands back -/
noncomputable abbrev dRounds (W : Web) : PyData := .list (W.rnds.map dNs)
def sp_rounds : Sp := sp_web fun W d => d = dRounds W
noncomputable def Ups (W : Web) : List PyData := [PyData.none] ++ (List.range (W.n - 1)).map fun k => dN (W.up (1 + k))
theorem ups_get {W : Web} {v : Nat} (h : v < W.n) : (Ups W)[v]? = some (if v = 0 then .none else dN (W.up v)) := by
  unfold Ups
  cases v with
  | zero => rfl
  | succ v =>
    rw [if_neg (by omega), List.getElem?_append_right (by simp), List.getElem?_map, List.length_singleton, Nat.add_sub_cancel, List.getElem?_range (by omega)]
    show some (dN (W.up (1 + v))) = _
    rw [Nat.add_comm]
theorem ups_tre {W : Web} {p : Nat × Nat} (h : p.1 < p.2) : ((!eqD (if p.1 = 0 then .none else dN (W.up p.1)) (dN p.2)) && !eqD (if p.2 = 0 then .none else dN (W.up p.2)) (dN p.1)) = !W.tre p := by
  have e2 : p.2 ≠ 0 := by omega
  unfold Web.tre
  rw [if_neg e2]
  have q : ∀ a b : Nat, eqD (dN a) (dN b) = decide (a = b) := fun a b => by
    show decide ((a : Int) = (b : Int)) = decide (a = b)
    exact decide_eq_decide.mpr (by omega)
  rw [q]
  by_cases e1 : p.1 = 0
  · rw [if_pos e1]; simp [e1, eqD]
  · rw [if_neg e1, q]; simp [e1]
theorem ups_int {W : Web} {v : Nat} : (if v = 0 then PyData.none else dN (W.up v)) = .none ∨ ∃ i, (if v = 0 then PyData.none else dN (W.up v)) = .int i := by
  split
  · exact .inl rfl
  · exact .inr ⟨_, rfl⟩
abbrev s_rounds_of : Stmt := topS 18
theorem sc_rounds_of : FnScope ["web", "told", "nears", "found", "ups", "one", "other", "left", "right", "field", "near"] ["web"] (defScope s_rounds_of) := ⟨rfl, rfl, rfl, by decide +kernel, rfl, by decide +kernel, by decide +kernel⟩
theorem ok_rounds_of (F : Fun K "rounds_of" "rounds_of" s_rounds_of f fd) (b : Blt mg) (c_nears_of : Dfn P w K mg base 1 "nears_of" ["web"] sp_nears) (c_reach_of : Dfn P w K mg base 2 "reach_of" ["web", "first"] sp_dist) : FnOk P w K mg base CX0 3 f fd ["web"] sp_rounds := by
  refine F.ok sc_rounds_of (fun vs H Q E h => ?_) (fun cdv A outer s H vs Q E hr h => ?_)
  · obtain ⟨ds, d, ms, r, _, ⟨W, rfl, _⟩, _⟩ := h; exact r.len
  · obtain ⟨ds, d, ms, r, L, ⟨W, rfl, hW, rfl⟩, k⟩ := h
    have nd := sc_rounds_of.nd
    refine ⟨_, pss_cons (ps_asg (pe_tup (pa_cons (pe_own c_reach_of hr (pa_cons (pv 0) (pa_cons (pe_int) pa_nil))) (pa_cons (pe_own c_nears_of hr (pa_cons (pv 0) pa_nil)) (pa_cons (pe_lst pa_nil) pa_nil)))) (pg_tupK (n := 3) K rfl rfl (pgs_cons (pg_name (i := 1) nd rfl (Or.inr rfl)) (pgs_cons (pg_name (i := 2) nd rfl (Or.inr rfl)) (pgs_cons (pg_name (i := 3) nd rfl (Or.inl rfl)) (pgs_nil)))))) (pss_cons (ps_set (i := 4) nd rfl (Or.inl rfl) (pe_op op_cat (pe_lst (pa_cons (pe_non) pa_nil)) (pe_lc (own := [("field", 9)]) rfl nd (pi_range2 (by rfl) b.range (pa_cons (pe_int) (pa_cons (pe_ix (ix_tupK K rfl) (pv 0) (pe_int) (fun _ _ => rfl)) pa_nil))) (blkOk_by (own := [("field", 9)]) (N := ["web", "told", "nears", "found", "ups", "one", "other", "left", "right", "field", "near"]) (sc := (defScope s_rounds_of)) (by decide +kernel)) (fun _ _ _ _ _ => pg_name (i := 9) nd rfl (Or.inr rfl)) (fun _ _ _ _ _ => pts_nil) (fun _ _ _ _ _ => pe_callB (cr_minK' K rfl rfl) (by rfl) b.min (by decide +kernel) (pa_cons (pe_lc (own := [("near", 10)]) rfl nd (pi_listK K rfl (pe_ix (ix_listK K rfl) (pv 2) (pv 9) (fun _ _ => rfl))) (blkOk_by (own := [("near", 10)]) (N := ["web", "told", "nears", "found", "ups", "one", "other", "left", "right", "field", "near"]) (sc := (relS { kind := PySem.ScopeKind.function, names := [(PySem.Str.ofString ".0", PySem.NameKind.local), (PySem.Str.ofString "field", PySem.NameKind.cell), (PySem.Str.ofString "min", PySem.NameKind.globalImplicit), (PySem.Str.ofString "nears", PySem.NameKind.free), (PySem.Str.ofString "told", PySem.NameKind.free)], isGenerator := false, isCoroutine := false, more := [] } (defScope s_rounds_of))) (by decide +kernel)) (fun _ _ _ _ _ => pg_name (i := 10) nd rfl (Or.inl rfl)) (fun _ _ _ _ _ => pts_one (pt_cmpR op_lt (pe_ix (ix_listK K rfl) (pv 1) (pv 10) (fun _ _ => rfl)) (pe_ix (ix_listK K rfl) (pv 1) (pv 9) (fun _ _ => rfl)) (nomark _))) (fun _ _ _ _ _ => pv 10)) pa_nil))))) (pss_cons (ps_for PassesOwn.never rfl (pi_tupK K rfl (pe_ix (ix_tupK K rfl) (pv 0) (pe_int) (fun _ _ => rfl))) (pg_tupK (n := 2) K rfl rfl (pgs_cons (pg_name (i := 5) nd rfl (Or.inl rfl)) (pgs_cons (pg_name (i := 6) nd rfl (Or.inl rfl)) (pgs_nil)))) (pss_one (ps_if ((pw_and (pt_cmpR op_ne (pe_ix (ix_listK K rfl) (pv 4) (pv 5) (fun _ _ => rfl)) (pv 6) (nomark _)) (pw_and1 (pt_cmpR op_ne (pe_ix (ix_listK K rfl) (pv 4) (pv 6) (fun _ _ => rfl)) (pv 5) (nomark _)))).pt) (pss_cons (ps_par (i := 7) (j := 8) rfl nd rfl rfl (by decide) rfl rfl (pa_cons (pe_lst (pa_cons (pv 5) pa_nil)) (pa_cons (pe_lst (pa_cons (pv 6) pa_nil)) pa_nil)) (by rfl)) (pss_cons (ps_while PassesOwn.never (pt_cmpR op_ne (pe_ix (ix_listK K rfl) (pv 7) (pe_un un_neg (pe_int)) (fun _ _ => rfl)) (pe_ix (ix_listK K rfl) (pv 8) (pe_un un_neg (pe_int)) (fun _ _ => rfl)) (nomark _)) (pss_one (ps_if (pt_cmpR op_ge (pe_ix (ix_listK K rfl) (pv 1) (pe_ix (ix_listK K rfl) (pv 7) (pe_un un_neg (pe_int)) (fun _ _ => rfl)) (fun _ _ => rfl)) (pe_ix (ix_listK K rfl) (pv 1) (pe_ix (ix_listK K rfl) (pv 8) (pe_un un_neg (pe_int)) (fun _ _ => rfl)) (fun _ _ => rfl)) (nomark _)) (pss_one (ps_expr (pe_bm PySem.F.plainAttrs_list PySem.F.slot_list_append PySem.F.type_list_append mt_append (pv 7) (pa_cons (pe_ix (ix_listK K rfl) (pv 4) (pe_ix (ix_listK K rfl) (pv 7) (pe_un un_neg (pe_int)) (fun _ _ => rfl)) (fun _ _ => rfl)) pa_nil)))) (pss_one (ps_expr (pe_bm PySem.F.plainAttrs_list PySem.F.slot_list_append PySem.F.type_list_append mt_append (pv 8) (pa_cons (pe_ix (ix_listK K rfl) (pv 4) (pe_ix (ix_listK K rfl) (pv 8) (pe_un un_neg (pe_int)) (fun _ _ => rfl)) (fun _ _ => rfl)) pa_nil))))))) (pss_one (ps_expr (pe_bm PySem.F.plainAttrs_list PySem.F.slot_list_append PySem.F.type_list_append mt_append (pv 3) (pa_cons (pe_op op_cat (pv 7) (pe_back2 (pv 8))) pa_nil)))))) (pss_nil)))) (pss_one (ps_ret (pv 3))))), ?_⟩
    obtain ⟨v1, rfl, r1⟩ := r.one
    have hp := hW.pre.pos
    have hn := hW.pre.few
    have hE := hedges_few hW.pre
    -- told, nears, found
    refine e_call (a_cons (e_var rfl r1) (a_cons e_int a_nil)) L ⟨W, 0, rfl, hW.pre, hp, ⟨_, hW.dist hp⟩, rfl⟩ H (Ex.refl _) _ fun vt H1 e1 rt => ?_
    refine e_call (a_cons (e_var rfl (rp_keep e1 r1)) a_nil) (L.mono e1) ⟨W, rfl, hW.pre, rfl⟩ H1 (Ex.refl _) _ fun vn H2 e2 rn => ?_
    refine n_nil H2 (Ex.refl _) _ fun vf H3 e3 ⟨pf, hv, nf, hf⟩ => ?_
    subst hv
    refine ⟨by show 3 ≤ sizeLine; exact G.sz (by omega), fun pt npt => ?_⟩
    refine ⟨pt, _, rfl, SqT.of upd_same, rfl, _, _, rfl, _, _, rfl, _, _, rfl, rfl, ?_⟩
    have e4 := Ex.new npt (o := .tup [vt, vn, .ref pf])
    replace hf := e4 _ _ hf
    generalize upd H3 pt (.tup [vt, vn, .ref pf]) = H4 at *
    have e34 := e3.trans e4
    have nfH : H pf = none := Evl.fresh_back (e1.trans e2) nf
    have eH4 : Ex H H4 := (e1.trans e2).trans e34
    have cm : Ex (cut H2 ms) (cut H4 (pf :: ms)) := cut_more (qs := [pf]) (fun q hq => by cases List.mem_singleton.mp hq; exact nf) e34
    replace rn := rn.mono cm
    replace rt := (rp_keep e2 rt).mono cm
    replace r1 := (rp_keep (e1.trans e2) r1).mono cm
    have L4 : Live H4 (pf :: ms) := (L.mono eH4).cons hf
    -- ups
    show tSeq _ _ _ [some v1, some vt, some vn, some (.ref pf), none, none, none, none, none, none, none] H4
    refine q_asg (e_cat (e_lst (a_cons e_non a_nil) (by simp) L4) (e_mapT (xs := List.range (W.n - 1)) (enc := fun (k : Nat) => .int (1 + (k : Int))) (fun k => dN (W.up (1 + k))) ?_ (by simp; omega) L4 fun ms' a v H5 ha e5 ec5 L5 rv => ⟨[some v1, some vt, some vn, some (.ref pf), none, none, none, none, none, some v, none], fun Q q => q, rfl, ?_⟩) (by simp; omega) L4) fun vu H5 e5 ru => ?_
    · rw [show W.n - 1 = ((W.n : Int) - 1).toNat by omega]
      exact src_rg2 (i := 1) (j := W.n) (a_cons e_int (a_cons (e_ixT (e_var rfl r1) e_int rfl) a_nil)) (by omega) (by omega)
    · have ha' : 1 + a < W.n := by have := List.mem_range.mp ha; omega
      cases rv.int_of
      have ea : (1 : Int) + (a : Int) = ((1 + a : Nat) : Int) := by omega
      rw [ea]
      have u := hW.up_spec ha' (by omega)
      refine e_min (ns := nI (W.ner (1 + a))) (e_is (e_lcT (xs := W.nb (1 + a)) (enc := dN) (fun u => decide (W.dist 0 u < W.dist 0 (1 + a))) dN (src_list (e_ixL (d := dNs (W.nb (1 + a))) (e_var rfl (rn.mono ec5)) (e_var rfl (.int _)) (atI_nat (by rw [List.getElem?_map, nears_get ha']; rfl)) |> fun z => e_is z (by show PyData.list _ = PyData.list _; rw [dNs_eq]))) (by have := nb_few (W := W) (v := 1 + a); omega) L5 fun ms6 z v6 H6 hz e6 ec6 L6 rv6 => ⟨_, fun Q q => q, rfl, ?_, fun _ => e_var rfl rv6⟩) (by show PyData.list _ = PyData.list _; rw [dNs_eq]; rfl)) ?_ ?_
      · have hz' := (adj_lt hW.pre ((mem_nb hW.pre).mp hz)).2.1
        cases rv6.int_of
        refine t_is (t_T (e_B0 (e_ixL (e_var rfl ((rt.mono ec5).mono ec6)) (e_var rfl (.int _)) (atI_nat (dist_get hz'))) (e_ixL (e_var rfl ((rt.mono ec5).mono ec6)) (e_var rfl (.int _)) (atI_nat (dist_get ha'))))) ?_
        exact decide_eq_decide.mpr (by omega)
      · exact List.mem_map.mpr ⟨_, u.1, rfl⟩
      · intro y hy
        obtain ⟨k, hk, rfl⟩ := nI_mem hy
        have := u.2.1 k hk
        omega
    have e5' : Ex (cut H4 (pf :: ms)) (cut H5 (pf :: ms)) := ex_cut e5
    replace r1 := r1.mono e5'
    replace rt := rt.mono e5'
    replace hf := e5 _ _ hf
    have eH5 : Ex H H5 := eH4.trans e5
    refine s_seqfor (ms := pf :: ms) (src_tup (e_ixT (e_var rfl r1) e_int rfl))
      (fun B i σ' H' => ∃ (y5 y6 y7 y8 : Option V) (xs : List V), σ' = [some v1, some vt, some vn, some (.ref pf), some vu, y5, y6, y7, y8, none, none] ∧ H' pf = some (.lst xs) ∧
        RpAll (cut H' (pf :: ms)) xs ((((W.E.take i).filter fun p => !W.tre p).map W.rnd).map dNs) ∧ Ex (cut B (pf :: ms)) H' ∧ Ex H H') (fun B eB => ⟨none, none, none, none, [], rfl, eB _ _ hf, .nil, cut_le, eH5.trans eB⟩) (fun B i σ' H' _ _ ⟨_, _, _, _, _, _, _, _, h, _⟩ => h) ?_ ?_
    · rintro B i d v σ' Hc H' eB hd ⟨y5, y6, y7, y8, xs, rfl, hfc, rxs, eb, eHc⟩ ec hr
      rw [List.getElem?_map] at hd
      obtain ⟨p, hpi, rfl⟩ := Option.map_eq_some_iff.mp hd
      have hpE := List.mem_of_getElem? hpi
      have hb := hW.pre.bnd p hpE
      have Lc : Live Hc (pf :: ms) := (L.mono eHc).cons hfc
      obtain ⟨x, y, rx, ry, hg⟩ := g_tup2 (ma := 5) (mb := 6) cut_le (hr _ (ex_cut_in eb) Lc)
      refine hg _ _ ?_
      cases rx.int_of
      cases ry.int_of
      have eB' : Ex (cut H5 (pf :: ms)) (cut H' (pf :: ms)) := ((ex_cut eB).trans (ex_cut_in eb)).trans (ex_cut ec)
      have rt' := rt.mono eB'
      have ru' : Rp (cut H' (pf :: ms)) vu (.list (Ups W)) := ru.mono eB'
      have hf' := ec _ _ hfc
      have rxs' := rxs.mono (ex_cut ec)
      have eH' := eHc.trans ec
      have tk : W.E.take (i + 1) = W.E.take i ++ [p] := by rw [List.take_add_one, hpi]; rfl
      show tIfS _ _ _ _ [some v1, some vt, some vn, some (.ref pf), some vu, some (.int (p.1 : Int)), some (.int (p.2 : Int)), y7, y8, none, none] H'
      refine s_if (b := !W.tre p) (t_is (et_and (t_T (e_neO (ms := pf :: ms) (e_ixL (e_var rfl ru') (e_var rfl (.int _)) (atI_nat (ups_get (by omega)))) ups_int (e_var rfl (.int _)))) fun _ => t_T (e_neO (ms := pf :: ms) (e_ixL (e_var rfl ru') (e_var rfl (.int _)) (atI_nat (ups_get hb.2))) ups_int (e_var rfl (.int _)))) (ups_tre hb.1)) (fun htr H6 e6 => ?_) (fun htr H6 e6 => ?_)
      · -- left, right = [one], [other]
        refine q_par (n_one (v := .int (p.1 : Int)) (e_ref rfl)) (fun w1 H7 e7 _ => n_one (v := .int (p.2 : Int)) (e_ref rfl)) fun w1 w2 H7 H8 e7 ⟨pl, hw, nl, hl⟩ e8 ⟨pr, hw2, nr, hr8⟩ => ?_
        subst hw hw2
        have hlr : pl ≠ pr := ne_of_none hl nr
        have nlH : H pl = none := Evl.fresh_back (eH'.trans e6) nl
        have nrH : H pr = none := Evl.fresh_back ((eH'.trans e6).trans e7) nr
        have hl8 := e8 _ _ hl
        have e68 := (e6.trans e7).trans e8
        have hf8 := e68 _ _ hf'
        have hfl : pf ≠ pl := ne_of_none (e6 _ _ hf') nl
        have hfr : pf ≠ pr := ne_of_none ((e6.trans e7) _ _ hf') nr
        have sub : Ex (cut H' (pf :: ms)) (cut H8 (pl :: pr :: pf :: ms)) := cut_more (qs := [pl, pr]) (fun q hq => by
          rcases List.mem_cons.mp hq with rfl | hq
          · exact Evl.fresh_back e6 nl
          · cases List.mem_singleton.mp hq; exact Evl.fresh_back (e6.trans e7) nr) e68
        have rt8 := rt'.mono sub
        have ru8 := ru'.mono sub
        have rx8 := rxs'.mono sub
        have eH8 := eH'.trans e68
        refine q_while (fun m σ' H' => ∃ (a c : Nat) (L0 R0 : List Nat), m = W.dist 0 a + W.dist 0 c ∧ σ' = [some v1, some vt, some vn, some (.ref pf), some vu, some (.int (p.1 : Int)), some (.int (p.2 : Int)), some (.ref pl), some (.ref pr), none, none] ∧ a < W.n ∧ c < W.n ∧
          W.leg p.1 p.2 = (L0 ++ (W.leg a c).1, R0 ++ (W.leg a c).2) ∧ L0.length + W.dist 0 a = W.dist 0 p.1 ∧ R0.length + W.dist 0 c = W.dist 0 p.2 ∧
          H' pl = some (.lst ((nI (L0 ++ [a])).map V.int)) ∧ H' pr = some (.lst ((nI (R0 ++ [c])).map V.int)) ∧ Ex (cut H8 [pl, pr]) H' ∧ Ex H H') _
          ⟨p.1, p.2, [], [], rfl, rfl, by omega, hb.2, rfl, by simp, by simp, hl8, hr8, cut_le, eH8⟩ ?_
        rintro m σ' H9 ⟨a, c, L0, R0, rfl, rfl, ha, hc, hleg, hL0, hR0, hl9, hr9, eb9, eH9⟩
        have s9 : Ex (cut H8 (pl :: pr :: pf :: ms)) (cut H9 (pl :: pr :: pf :: ms)) := ex_cut_in ((cut_sub fun m hm => by
          rcases List.mem_cons.mp hm with rfl | hm
          · exact List.mem_cons_self
          · cases List.mem_singleton.mp hm; exact List.mem_cons_of_mem _ List.mem_cons_self).trans eb9)
        have rt9 := rt8.mono s9
        have ru9 := ru8.mono s9
        have hla : ∀ {Hx : Hp}, Ex H9 Hx → atI ((nI (L0 ++ [a])).map V.int) (-1) = some (.int (a : Int)) := fun _ => by rw [nI_app, List.map_append]; exact atI_last _ _
        have hra : ∀ {Hx : Hp}, Ex H9 Hx → atI ((nI (R0 ++ [c])).map V.int) (-1) = some (.int (c : Int)) := fun _ => by rw [nI_app, List.map_append]; exact atI_last _ _
        have dl := (hW.dist hp).small hW.pre (v := p.1) (by omega)
        have dr := (hW.dist hp).small hW.pre (v := p.2) hb.2
        refine ⟨_, t_T (e_ne (ms := []) (e_ixM (e_ref rfl) hl9 (e_neg e_int) (hla (Ex.refl _)) (.int _)) (e_ixM (e_ref rfl) hr9 (e_neg e_int) (hra (Ex.refl _)) (.int _))), fun hne H10 e10 => ?_, fun heq H10 e10 => ?_⟩
        · have hac : a ≠ c := by
            intro z; subst z; simp at hne
          have hl10 := e10 _ _ hl9
          have hr10 := e10 _ _ hr9
          have rt10 := rp_keep e10 rt9
          have ru10 := rp_keep e10 ru9
          refine ⟨_, fun _ _ h => h, ?_⟩
          show tIfS _ _ _ _ _ _
          refine s_if (b := decide (W.dist 0 c ≤ W.dist 0 a)) (t_is (t_T (e_B0 (ms := pl :: pr :: pf :: ms) (e_ixL (d := dN (W.dist 0 a)) (e_var rfl rt10) (e_ixM (e_ref rfl) hl10 (e_neg e_int) (hla e10) (.int _)) (atI_nat (dist_get ha))) (e_ixL (d := dN (W.dist 0 c)) (e_var rfl rt10) (e_ixM (e_ref rfl) hr10 (e_neg e_int) (hra e10) (.int _)) (atI_nat (dist_get hc))))) (decide_eq_decide.mpr (by omega))) (fun hd H11 e11 => ?_) (fun hd H11 e11 => ?_)
          · have hd := of_decide_eq_true hd
            have h0 := hW.ne0 ha hc hac hd
            have u := hW.up_spec ha h0
            have hl11 := e11 _ _ hl10
            refine s_app (ms := pl :: pr :: pf :: ms) (d := dN (W.up a)) (e_ref rfl) hl11 (by simp) (e_ixL (e_var rfl (rp_keep e11 ru10)) (e_ixM (e_ref rfl) hl11 (e_neg e_int) (hla (e10.trans e11)) (.int _)) (atI_nat (by rw [ups_get ha, if_neg h0]))) (by rw [List.length_map, nI_len, List.length_append, List.length_singleton]; omega) fun v12 H12 e12 r12 => ?_
            cases r12.int_of
            refine ⟨W.dist 0 (W.up a) + W.dist 0 c, by omega, W.up a, c, L0 ++ [a], R0, rfl, rfl, hW.up_lt ha h0, hc, ?_, by rw [List.length_append, List.length_singleton]; omega, hR0, ?_, ?_, ?_, ?_⟩
            · rw [hleg, hW.leg_left ha hc hac hd, List.append_assoc]; rfl
            · rw [upd_same, nI_app (l := L0 ++ [a]) (m := [W.up a]), List.map_append]; rfl
            · rw [upd_ne hlr.symm]; exact e12 _ _ (e11 _ _ hr10)
            · exact ex_cut_upd (((eb9.trans e10).trans e11).trans e12) (by simp)
            · exact Ex.mut (((eH9.trans e10).trans e11).trans e12) nlH
          · have hd := of_decide_eq_false hd
            have h0 := hW.ne0 hc ha (Ne.symm hac) (by omega)
            have u := hW.up_spec hc h0
            have hr11 := e11 _ _ hr10
            refine s_app (ms := pl :: pr :: pf :: ms) (d := dN (W.up c)) (e_ref rfl) hr11 (by simp) (e_ixL (e_var rfl (rp_keep e11 ru10)) (e_ixM (e_ref rfl) hr11 (e_neg e_int) (hra (e10.trans e11)) (.int _)) (atI_nat (by rw [ups_get hc, if_neg h0]))) (by rw [List.length_map, nI_len, List.length_append, List.length_singleton]; omega) fun v12 H12 e12 r12 => ?_
            cases r12.int_of
            refine ⟨W.dist 0 a + W.dist 0 (W.up c), by omega, a, W.up c, L0, R0 ++ [c], rfl, rfl, ha, hW.up_lt hc h0, ?_, hL0, by rw [List.length_append, List.length_singleton]; omega, ?_, ?_, ?_, ?_⟩
            · rw [hleg, hW.leg_right ha hc hac hd, List.append_assoc]; rfl
            · rw [upd_ne hlr]; exact e12 _ _ (e11 _ _ hl10)
            · rw [upd_same, nI_app (l := R0 ++ [c]) (m := [W.up c]), List.map_append]; rfl
            · exact ex_cut_upd (((eb9.trans e10).trans e11).trans e12) (by simp)
            · exact Ex.mut (((eH9.trans e10).trans e11).trans e12) nrH
        · have hac : a = c := by
            have : decide ((a : Int) = (c : Int)) = true := by simpa using heq
            have := of_decide_eq_true this
            omega
          subst hac
          rw [Web.leg_same] at hleg
          have eh9 : Ex (cut H8 (pl :: pr :: pf :: ms)) (cut H10 (pf :: ms)) := (s9.trans (ex_cut e10)).trans (cut_sub fun m hm => List.mem_cons_of_mem _ (List.mem_cons_of_mem _ hm))
          have hf10 : H10 pf = some (.lst xs) := e10 _ _ (eb9 _ _ (by rw [cut_out (by simp [hfl, hfr])]; exact hf8))
          have L10 : Live H10 (pf :: ms) := (L.mono (eH9.trans e10)).cons hf10
          have npl : pl ∉ pf :: ms := fun z => by
            rcases List.mem_cons.mp z with z | z
            · exact hfl z.symm
            · exact L.out nlH z
          have npr : pr ∉ pf :: ms := fun z => by
            rcases List.mem_cons.mp z with z | z
            · exact hfr z.symm
            · exact L.out nrH z
          have rl : Rp (cut H10 (pf :: ms)) (.ref pl) (dNs (L0 ++ [a])) := .lst (by rw [cut_out npl]; exact e10 _ _ hl9) (RpAll.ints _)
          have rr : Rp (cut H10 (pf :: ms)) (.ref pr) (dNs (R0 ++ [a])) := .lst (by rw [cut_out npr]; exact e10 _ _ hr9) (RpAll.ints _)
          have hxl : xs.length ≤ 36 := by
            have h1 := rxs.len
            rw [List.length_map, List.length_map] at h1
            have h2 := List.length_filter_le (fun p => !W.tre p) (W.E.take i)
            have h3 := List.length_take_le i W.E
            have h4 : (W.E.take i).length ≤ W.E.length := by rw [List.length_take]; omega
            omega
          refine s_app (ms := pf :: ms) (d := dNs (W.rnd p)) (e_ref rfl) hf10 (by simp) (e_is (e_cat (e_var rfl rl) (e_back2 (e_var rfl rr) (by simp [nI]) L10) (by simp [nI]; omega) L10) ?_) (by omega) fun v12 H12 e12 r12 => ?_
          · show PyData.list _ = PyData.list _
            have e1 : W.rnd p = (L0 ++ [a]) ++ ((R0 ++ [a]).take ((R0 ++ [a]).length - 1)).reverse := by unfold Web.rnd; rw [hleg]
            rw [e1, dNs_len]
            unfold nI
            simp only [List.map_append, List.map_take, List.map_reverse, List.append_assoc]
          · refine ⟨_, _, _, _, xs ++ [v12], rfl, upd_same, ?_, ?_, ?_⟩
            · rw [cut_upd List.mem_cons_self, tk, List.filter_append, List.filter_cons, if_pos htr, List.filter_nil, List.map_append, List.map_append]
              exact ((rx8.mono eh9).mono (ex_cut e12)).snoc r12
            · refine ex_cut_upd (Ex.trans (Ex.trans ?_ e10) e12) (by simp)
              have : Ex (cut B (pf :: ms)) (cut H8 [pl, pr]) := fun q o z => by
                have hq : q ∉ [pl, pr] := fun hm => by
                  have z2 := (eb q o z)
                  rcases List.mem_cons.mp hm with rfl | hm
                  · rw [Evl.fresh_back (ec.trans e6) nl] at z2; cases z2
                  · cases List.mem_singleton.mp hm; rw [Evl.fresh_back ((ec.trans e6).trans e7) nr] at z2; cases z2
                rw [cut_out hq]
                exact (ec.trans e68) _ _ (eb q o z)
              exact this.trans eb9
            · exact Ex.mut ((eH9.trans e10).trans e12) nfH
      · refine ⟨_, _, _, _, xs, rfl, e6 _ _ hf', ?_, (eb.trans ec).trans e6, eH'.trans e6⟩
        rw [tk, List.filter_append, List.filter_cons, if_neg (by rw [htr]; decide), List.filter_nil, List.append_nil]
        exact rxs'.mono (ex_cut e6)
    · rintro B σ' H' eB ⟨y5, y6, y7, y8, xs, rfl, hfc, rxs, eb, eHc⟩
      rw [List.length_map, List.take_length] at rxs
      refine s_ret (e_var rfl (d := dRounds W) (ms := ms) ?_) fun v H7 e7 p => k v H7 (eHc.trans e7) p
      exact .lst (by rw [cut_out (L.out nfH)]; exact hfc) (rxs.mono (cut_sub fun m hm => List.mem_cons_of_mem _ hm))
end
end T

set_option Elab.async false
set_option linter.all false
set_option maxRecDepth 100000
set_option maxHeartbeats 4000000
namespace T
open PySem PySem.Spec PyProof.Rows L2 RZ G M GX
open Evl (Ex EvT et_or et_not et_and)
section
variable {P : Program} {w : World} {K : PySem.W.Frag} {mg : Str → Option Value} {base : Heap} {f : Addr} {fd : FuncData}
/-- of a web and a coloring: a value -/
def sp_wc (r : Web → List Int → PyData → Prop) : Sp := PSm fun ds d => ∃ (W : Web) (c : List Int), ds = [dW W, dC c] ∧ W.Ok ∧ Col W c ∧ r W c d
def sp_turns : Sp := sp_wc fun W c d => d = dIs (W.rnds.map (trn c))
def sp_is_laid : Sp := sp_wc fun W c d => d = .bool (W.rnds.all fun r => decide (trn c r = 0))
abbrev s_turns : Stmt := topS 27
theorem sc_turns : FnScope ["web", "coloring", "told"] ["web", "coloring"] (defScope s_turns) := ⟨rfl, rfl, rfl, by decide +kernel, rfl, by decide +kernel, by decide +kernel⟩
theorem ok_turns (F : Fun K "turns" "turns" s_turns f fd) (c_need_coloring : Dfn P w K mg base 6 "need_coloring" ["web", "value"] (sp_iscol .none)) (c_rounds_of : Dfn P w K mg base 3 "rounds_of" ["web"] sp_rounds) (c_turns_of : Dfn P w K mg base 2 "turns_of" ["coloring", "told"] sp_turns_of) : FnOk P w K mg base CX0 7 f fd ["web", "coloring"] sp_turns := by
  refine F.ok sc_turns (fun vs H Q E h => ?_) (fun cdv A outer s H vs Q E hr h => ?_)
  · obtain ⟨ds, d, ms, r, _, ⟨W, c, rfl, _⟩, _⟩ := h; exact r.len
  · obtain ⟨ds, d, ms, r, L, ⟨W, c, rfl, hW, hc, rfl⟩, k⟩ := h
    have nd := sc_turns.nd
    refine ⟨_, pss_cons (ps_expr (pe_own c_need_coloring hr (pa_cons (pv 0) (pa_cons (pv 1) pa_nil)))) (pss_one (ps_ret (pe_lc (own := [("told", 2)]) rfl nd (pi_listK K rfl (pe_own c_rounds_of hr (pa_cons (pv 0) pa_nil))) (blkOk_by (own := [("told", 2)]) (N := ["web", "coloring", "told"]) (sc := (defScope s_turns)) (by decide +kernel)) (fun _ _ _ _ _ => pg_name (i := 2) nd rfl (Or.inl rfl)) (fun _ _ _ _ _ => pts_nil) (fun _ _ _ _ _ => pe_own c_turns_of hr (pa_cons (pv 1) (pa_cons (pv 2) pa_nil)))))), ?_⟩
    obtain ⟨v1, v2, rfl, r1, r2⟩ := r.two
    refine q_drop (e_call (a_cons (e_var rfl r1) (a_cons (e_var rfl r2) a_nil)) L ⟨W, c, rfl, hW, hc, rfl⟩) fun _ H1 e1 _ => ?_
    refine s_ret (e_is (e_mapT (xs := W.rnds) (enc := dNs) (fun r => .int (trn c r)) (src_list (e_call (a_cons (e_var rfl (rp_keep e1 r1)) a_nil) (L.mono e1) ⟨W, rfl, hW, rfl⟩)) (by have := rnds_few hW.pre; omega) (L.mono e1) fun ms' q v H2 hq e2 ec L2 rv => ⟨_, fun Q q => q, rfl, ?_⟩) ?_) fun v H2 e2 p => k v H2 (e1.trans e2) p
    · obtain ⟨a, r', h1, h2, h3⟩ := hW.rnds_ok hq
      exact e_call (a_cons (e_var rfl ((rp_keep e1 r2).mono ec)) (a_cons (e_var rfl rv) a_nil)) L2 ⟨c, q, a, r', rfl, h1, fun x hx => by rw [hc.len]; exact h2 x hx, h3, rfl⟩
    · show PyData.list _ = PyData.list _
      rw [List.map_map]; rfl
abbrev s_is_laid : Stmt := topS 28
theorem sc_is_laid : FnScope ["web", "coloring", "told"] ["web", "coloring"] (defScope s_is_laid) := ⟨rfl, rfl, rfl, by decide +kernel, rfl, by decide +kernel, by decide +kernel⟩
theorem ok_is_laid (F : Fun K "is_laid" "is_laid" s_is_laid f fd) (b : Blt mg) (c_need_coloring : Dfn P w K mg base 6 "need_coloring" ["web", "value"] (sp_iscol .none)) (c_rounds_of : Dfn P w K mg base 3 "rounds_of" ["web"] sp_rounds) (c_turns_of : Dfn P w K mg base 2 "turns_of" ["coloring", "told"] sp_turns_of) : FnOk P w K mg base CX0 7 f fd ["web", "coloring"] sp_is_laid := by
  refine F.ok sc_is_laid (fun vs H Q E h => ?_) (fun cdv A outer s H vs Q E hr h => ?_)
  · obtain ⟨ds, d, ms, r, _, ⟨W, c, rfl, _⟩, _⟩ := h; exact r.len
  · obtain ⟨ds, d, ms, r, L, ⟨W, c, rfl, hW, hc, rfl⟩, k⟩ := h
    have nd := sc_is_laid.nd
    refine ⟨_, pss_cons (ps_expr (pe_own c_need_coloring hr (pa_cons (pv 0) (pa_cons (pv 1) pa_nil)))) (pss_one (ps_ret (pe_callB (cr_allK K rfl rfl) (by rfl) b.all (by decide +kernel) (pa_cons (pe_lc (own := [("told", 2)]) rfl nd (pi_listK K rfl (pe_own c_rounds_of hr (pa_cons (pv 0) pa_nil))) (blkOk_by (own := [("told", 2)]) (N := ["web", "coloring", "told"]) (sc := (defScope s_is_laid)) (by decide +kernel)) (fun _ _ _ _ _ => pg_name (i := 2) nd rfl (Or.inl rfl)) (fun _ _ _ _ _ => pts_nil) (fun _ _ _ _ _ => pe_cmpR op_eq (pe_own c_turns_of hr (pa_cons (pv 1) (pa_cons (pv 2) pa_nil))) (pe_int) (nomark _))) pa_nil)))), ?_⟩
    obtain ⟨v1, v2, rfl, r1, r2⟩ := r.two
    refine q_drop (e_call (a_cons (e_var rfl r1) (a_cons (e_var rfl r2) a_nil)) L ⟨W, c, rfl, hW, hc, rfl⟩) fun _ H1 e1 _ => ?_
    refine s_ret (e_allD (xs := W.rnds) (f := fun r => decide (trn c r = 0)) (e_mapT (xs := W.rnds) (enc := dNs) (fun r => .bool (decide (trn c r = 0))) (src_list (e_call (a_cons (e_var rfl (rp_keep e1 r1)) a_nil) (L.mono e1) ⟨W, rfl, hW, rfl⟩)) (by have := rnds_few hW.pre; omega) (L.mono e1) fun ms' q v H2 hq e2 ec L2 rv => ⟨_, fun Q q => q, rfl, ?_⟩)) fun v H2 e2 p => k v H2 (e1.trans e2) p
    obtain ⟨a, r', h1, h2, h3⟩ := hW.rnds_ok hq
    exact e_eq (e_call (a_cons (e_var rfl ((rp_keep e1 r2).mono ec)) (a_cons (e_var rfl rv) a_nil)) L2 ⟨c, q, a, r', rfl, h1, fun x hx => by rw [hc.len]; exact h2 x hx, h3, rfl⟩) e_int
/-! ### least terms -/
def sp_gcd : Sp := PSm fun ds d => ∃ a c : Nat, ds = [dN a, dN c] ∧ d = dN (Nat.gcd a c)
abbrev s_common : Stmt := topS 46
theorem sc_common : FnScope ["one", "other"] ["one", "other"] (defScope s_common) := ⟨rfl, rfl, rfl, by decide +kernel, rfl, by decide +kernel, by decide +kernel⟩
theorem ok_common (F : Fun K "common" "common" s_common f fd) (b : Blt mg) : FnOk P w K mg base CX0 1 f fd ["one", "other"] sp_gcd := by
  refine F.ok sc_common (fun vs H Q E h => ?_) (fun cdv A outer s H vs Q E hr h => ?_)
  · obtain ⟨ds, d, ms, r, _, ⟨a, c, rfl, _⟩, _⟩ := h; exact r.len
  · obtain ⟨ds, d, ms, r, L, ⟨a, c, rfl, rfl⟩, k⟩ := h
    have nd := sc_common.nd
    refine ⟨_, pss_cons (ps_while PassesOwn.never (pt_cmpR op_ne (pv 1) (pe_int) (nomark _)) (pss_one (ps_par (i := 0) (j := 1) rfl nd rfl rfl (by decide) rfl rfl (pa_cons (pv 1) (pa_cons (pe_op op_mod (pv 0) (pv 1)) pa_nil)) (by rfl)))) (pss_one (ps_ret (pe_callB call_abs (by rfl) b.abs (by decide +kernel) (pa_cons (pv 0) pa_nil)))), ?_⟩
    obtain ⟨v1, v2, rfl, r1, r2⟩ := r.two
    cases r1.int_of
    cases r2.int_of
    refine q_while (fun m σ' H' => ∃ x : Nat, σ' = [some (.int (x : Int)), some (.int (m : Int))] ∧ Nat.gcd x m = Nat.gcd a c ∧ Ex H H') c ⟨a, rfl, rfl, Ex.refl _⟩ ?_
    rintro y σ' H' ⟨x, rfl, hg, eH⟩
    refine ⟨_, t_T (e_ne (ms := ms) (e_var rfl (.int _)) e_int), fun hne H1 e1 => ?_, fun heq H1 e1 => ?_⟩
    · have hy : 0 < y := by
        rcases Nat.eq_zero_or_pos y with z | z
        · subst z; simp at hne
        · exact z
      refine ⟨_, fun _ _ h => h, ?_⟩
      refine s_par (EvP.val (ms := ms) (e_var rfl (.int _))) (fun v H2 e2 hv => EvP.val (ms := ms) (e_IC (e_var rfl (.int _)) (e_var rfl (.int _)) (by show (0 : Int) < y; omega))) fun v u H2 H3 e2 hv e3 hu => ?_
      subst hv hu
      refine ⟨x % y, Nat.mod_lt _ hy, y, ?_, ?_, ((eH.trans e1).trans e2).trans e3⟩
      · show [some (V.int (y : Int)), some (V.int ((x : Int) % (y : Int)))] = _
        rw [Int.natCast_emod]
      · rw [← hg, Nat.gcd_comm x y, Nat.gcd_rec y x, Nat.gcd_comm]
    · have hy : y = 0 := by simpa using heq
      subst hy
      refine s_ret (e_is (e_abs (ms := ms) (e_var rfl (.int _))) ?_) fun v H2 e2 p => k v H2 ((eH.trans e1).trans e2) p
      rw [if_neg (by omega), ← hg, Nat.gcd_zero_right]
abbrev s__law_common : Stmt := topS 67
theorem sc__law_common : FnScope ["_law_one", "_law_other"] ["_law_one", "_law_other"] (defScope s__law_common) := ⟨rfl, rfl, rfl, by decide +kernel, rfl, by decide +kernel, by decide +kernel⟩
theorem ok__law_common (F : Fun K "_law_common" "_law_common" s__law_common f fd) (b : Blt mg) : FnOk P w K mg base CX0 1 f fd ["_law_one", "_law_other"] sp_gcd := by
  refine F.ok sc__law_common (fun vs H Q E h => ?_) (fun cdv A outer s H vs Q E hr h => ?_)
  · obtain ⟨ds, d, ms, r, _, ⟨a, c, rfl, _⟩, _⟩ := h; exact r.len
  · obtain ⟨ds, d, ms, r, L, ⟨a, c, rfl, rfl⟩, k⟩ := h
    have nd := sc__law_common.nd
    refine ⟨_, pss_cons (ps_par (i := 0) (j := 1) rfl nd rfl rfl (by decide) rfl rfl (pa_cons (pe_callB call_abs (by rfl) b.abs (by decide +kernel) (pa_cons (pv 0) pa_nil)) (pa_cons (pe_callB call_abs (by rfl) b.abs (by decide +kernel) (pa_cons (pv 1) pa_nil)) pa_nil)) (by rfl)) (pss_cons (ps_while PassesOwn.never (pt_cmpR op_ne (pv 1) (pe_int) (nomark _)) (pss_one (ps_par (i := 0) (j := 1) rfl nd rfl rfl (by decide) rfl rfl (pa_cons (pv 1) (pa_cons (pe_op op_mod (pv 0) (pv 1)) pa_nil)) (by rfl)))) (pss_one (ps_ret (pv 0)))), ?_⟩
    obtain ⟨v1, v2, rfl, r1, r2⟩ := r.two
    cases r1.int_of
    cases r2.int_of
    refine q_par (EvP.val (ms := ms) (e_abs (e_var rfl (.int _)))) (fun v H2 e2 hv => EvP.val (ms := ms) (e_abs (e_var rfl (.int _)))) fun v u H1 H2 e1 hv e2 hu => ?_
    subst hv hu
    rw [if_neg (show ¬ (a : Int) < 0 by omega), if_neg (show ¬ (c : Int) < 0 by omega)]
    refine q_while (fun m σ' H' => ∃ x : Nat, σ' = [some (.int (x : Int)), some (.int (m : Int))] ∧ Nat.gcd x m = Nat.gcd a c ∧ Ex H H') c ⟨a, rfl, rfl, e1.trans e2⟩ ?_
    rintro y σ' H' ⟨x, rfl, hg, eH⟩
    refine ⟨_, t_T (e_ne (ms := ms) (e_var rfl (.int _)) e_int), fun hne H1 e1 => ?_, fun heq H1 e1 => ?_⟩
    · have hy : 0 < y := by
        rcases Nat.eq_zero_or_pos y with z | z
        · subst z; simp at hne
        · exact z
      refine ⟨_, fun _ _ h => h, ?_⟩
      refine s_par (EvP.val (ms := ms) (e_var rfl (.int _))) (fun v H2 e2 hv => EvP.val (ms := ms) (e_IC (e_var rfl (.int _)) (e_var rfl (.int _)) (by show (0 : Int) < y; omega))) fun v u H2 H3 e2 hv e3 hu => ?_
      subst hv hu
      refine ⟨x % y, Nat.mod_lt _ hy, y, ?_, ?_, ((eH.trans e1).trans e2).trans e3⟩
      · show [some (V.int (y : Int)), some (V.int ((x : Int) % (y : Int)))] = _
        rw [Int.natCast_emod]
      · rw [← hg, Nat.gcd_comm x y, Nat.gcd_rec y x, Nat.gcd_comm]
    · have hy : y = 0 := by simpa using heq
      subst hy
      refine s_ret (e_is (e_var (ms := ms) rfl (.int _)) ?_) fun v H2 e2 p => k v H2 ((eH.trans e1).trans e2) p
      rw [← hg, Nat.gcd_zero_right]
def sp_lowered : Sp := PSm fun ds d => ∃ a c : Nat, ds = [dN a, dN c] ∧ 0 < c ∧ c < 1000000 ∧ d = .tuple [dN (a / Nat.gcd a c), dN (c / Nat.gcd a c)]
abbrev s_lowered : Stmt := topS 47
theorem sc_lowered : FnScope ["above", "low", "shared"] ["above", "low"] (defScope s_lowered) := ⟨rfl, rfl, rfl, by decide +kernel, rfl, by decide +kernel, by decide +kernel⟩
theorem ok_lowered (F : Fun K "lowered" "lowered" s_lowered f fd) (c_common : Dfn P w K mg base 1 "common" ["one", "other"] sp_gcd) : FnOk P w K mg base CX0 2 f fd ["above", "low"] sp_lowered := by
  refine F.ok sc_lowered (fun vs H Q E h => ?_) (fun cdv A outer s H vs Q E hr h => ?_)
  · obtain ⟨ds, d, ms, r, _, ⟨a, c, rfl, _⟩, _⟩ := h; exact r.len
  · obtain ⟨ds, d, ms, r, L, ⟨a, c, rfl, hc, hc2, rfl⟩, k⟩ := h
    have nd := sc_lowered.nd
    refine ⟨_, pss_cons (ps_set (i := 2) nd rfl (Or.inl rfl) (pe_own c_common hr (pa_cons (pv 0) (pa_cons (pv 1) pa_nil)))) (pss_one (ps_ret (pe_tup (pa_cons (pe_op op_fdiv (pv 0) (pv 2)) (pa_cons (pe_op op_fdiv (pv 1) (pv 2)) pa_nil))))), ?_⟩
    obtain ⟨v1, v2, rfl, r1, r2⟩ := r.two
    refine q_asg (e_call (a_cons (e_var rfl r1) (a_cons (e_var rfl r2) a_nil)) L ⟨a, c, rfl, rfl⟩) fun v H1 e1 p => ?_
    have g1 : 0 < Nat.gcd a c := Nat.gcd_pos_of_pos_right _ hc
    have g2 : Nat.gcd a c ≤ c := Nat.gcd_le_right _ hc
    have hC : CDiv 0 ((Nat.gcd a c : Nat) : Int) := ⟨by omega, by omega⟩
    refine s_ret (e_is (e_tup (a_cons (e_IC (e_var rfl (rp_keep e1 r1)) (e_var rfl p) ⟨by omega, by omega⟩) (a_cons (e_IC (e_var rfl (rp_keep e1 r2)) (e_var rfl p) ⟨by omega, by omega⟩) a_nil)) (by simp) (L.mono e1)) ?_) fun v H2 e2 p => k v H2 (e1.trans e2) p
    simp only [dN, Int.natCast_ediv]
abbrev s__law_lowered : Stmt := topS 68
theorem sc__law_lowered : FnScope ["_law_above", "_law_low", "_law_shared"] ["_law_above", "_law_low"] (defScope s__law_lowered) := ⟨rfl, rfl, rfl, by decide +kernel, rfl, by decide +kernel, by decide +kernel⟩
theorem ok__law_lowered (F : Fun K "_law_lowered" "_law_lowered" s__law_lowered f fd) (c__law_common : Dfn P w K mg base 1 "_law_common" ["_law_one", "_law_other"] sp_gcd) : FnOk P w K mg base CX0 2 f fd ["_law_above", "_law_low"] sp_lowered := by
  refine F.ok sc__law_lowered (fun vs H Q E h => ?_) (fun cdv A outer s H vs Q E hr h => ?_)
  · obtain ⟨ds, d, ms, r, _, ⟨a, c, rfl, _⟩, _⟩ := h; exact r.len
  · obtain ⟨ds, d, ms, r, L, ⟨a, c, rfl, hc, hc2, rfl⟩, k⟩ := h
    have nd := sc__law_lowered.nd
    refine ⟨_, pss_cons (ps_set (i := 2) nd rfl (Or.inl rfl) (pe_own c__law_common hr (pa_cons (pv 0) (pa_cons (pv 1) pa_nil)))) (pss_one (ps_ret (pe_tup (pa_cons (pe_op op_fdiv (pv 0) (pv 2)) (pa_cons (pe_op op_fdiv (pv 1) (pv 2)) pa_nil))))), ?_⟩
    obtain ⟨v1, v2, rfl, r1, r2⟩ := r.two
    refine q_asg (e_call (a_cons (e_var rfl r1) (a_cons (e_var rfl r2) a_nil)) L ⟨a, c, rfl, rfl⟩) fun v H1 e1 p => ?_
    have g1 : 0 < Nat.gcd a c := Nat.gcd_pos_of_pos_right _ hc
    have g2 : Nat.gcd a c ≤ c := Nat.gcd_le_right _ hc
    refine s_ret (e_is (e_tup (a_cons (e_IC (e_var rfl (rp_keep e1 r1)) (e_var rfl p) ⟨by omega, by omega⟩) (a_cons (e_IC (e_var rfl (rp_keep e1 r2)) (e_var rfl p) ⟨by omega, by omega⟩) a_nil)) (by simp) (L.mono e1)) ?_) fun v H2 e2 p => k v H2 (e1.trans e2) p
    simp only [dN, Int.natCast_ediv]
end
end T

set_option Elab.async false
set_option linter.all false
set_option maxRecDepth 100000
set_option maxHeartbeats 4000000
namespace T
open PySem PySem.Spec PyProof.Rows L2 RZ G M GX
open Evl (Ex EvT et_or et_not et_and)
section
variable {P : Program} {w : World} {K : PySem.W.Frag} {mg : Str → Option Value} {base : Heap} {f : Addr} {fd : FuncData}
theorem dC_at {c : List Int} {f : Nat} (h : f < c.length) : atI (c.map PyData.int) (f : Int) = some (.int (atc c f)) := atI_nat (by rw [List.getElem?_map, atc_get h]; rfl)
/-- t[:f] + (x,) + t[f + 1:] -/
theorem e_put {σ : L2.St} {H : Hp} {ms : List Addr} {tc tf tx tf2 : TE} {c : List Int} {f : Nat} {x : Int} (hc : ED ms tc σ H (dC c)) (hf : ED ms tf σ H (dN f)) (hx : ED ms tx σ H (.int x)) (hf2 : ED ms tf2 σ H (.int ((f : Int) + 1))) (h : f < c.length) (hl : c.length ≤ 100) (L : Live H ms) :
    ED ms (tOp (rCatA K) (tOp (rCatA K) (tSl (rSlA K) tc tNoPart (tPart tf)) (tTup (tCons tx tNil))) (tSl (rSlA K) tc (tPart tf2) tNoPart)) σ H (dC (c.set f x)) := by
  refine e_is (e_catA (e_catA (e_slT hc eo_none (eo_some hf) L) (e_tup (a_cons hx a_nil) (by simp) L) ?_ L) (e_slT hc (eo_some hf2) eo_none L) ?_ L) ?_
  · rw [cutD_to]; simp; omega
  · rw [cutD_to, show (f : Int) + 1 = ((f + 1 : Nat) : Int) by omega, cutD_from]; simp; omega
  · rw [cutD_to, show (f : Int) + 1 = ((f + 1 : Nat) : Int) by omega, cutD_from]
    show PyData.tuple _ = PyData.tuple _
    rw [← set_cut h, List.map_append, List.map_append, List.map_take, List.map_drop]; rfl
def sp_changed : Sp := PSm fun ds d => ∃ (c : List Int) (f : Nat) (b : Int), ds = [dC c, dN f, .int b] ∧ f < c.length ∧ c.length ≤ 100 ∧ d = dC (c.set f (atc c f + b))
abbrev s__law_changed : Stmt := topS 65
theorem sc__law_changed : FnScope ["_law_laying_here", "_law_field", "_law_by"] ["_law_laying_here", "_law_field", "_law_by"] (defScope s__law_changed) := ⟨rfl, rfl, rfl, by decide +kernel, rfl, by decide +kernel, by decide +kernel⟩
theorem ok__law_changed (F : Fun K "_law_changed" "_law_changed" s__law_changed f fd) : FnOk P w K mg base CX0 1 f fd ["_law_laying_here", "_law_field", "_law_by"] sp_changed := by
  refine F.ok sc__law_changed (fun vs H Q E h => ?_) (fun cdv A outer s H vs Q E hr h => ?_)
  · obtain ⟨ds, d, ms, r, _, ⟨c, q, b, rfl, _⟩, _⟩ := h; exact r.len
  · obtain ⟨ds, d, ms, r, L, ⟨c, q, b, rfl, hq, hl, rfl⟩, k⟩ := h
    have nd := sc__law_changed.nd
    refine ⟨_, pss_one (ps_ret (pe_op (op_catAK K rfl) (pe_op (op_catAK K rfl) (pe_slice (sl_tupK K rfl) (pv 0) po_none (po_some (pv 1))) (pe_tup (pa_cons (pe_op op_add (pe_ix (ix_tupK K rfl) (pv 0) (pv 1) (fun _ _ => rfl)) (pv 2)) pa_nil))) (pe_slice (sl_tupK K rfl) (pv 0) (po_some (pe_op op_add (pv 1) (pe_int))) po_none))), ?_⟩
    obtain ⟨v1, v2, v3, rfl, r1, r2, r3⟩ := r.three
    exact s_ret (e_put (e_var rfl r1) (e_var rfl r2) (e_I0 (e_ixT (e_var rfl r1) (e_var rfl r2) (dC_at hq)) (e_var rfl r3)) (e_I0 (e_var rfl r2) e_int) hq hl L) k
def sp_lows (p : Web → List Int → Nat → Bool) : Sp := PSm fun ds d => ∃ (W : Web) (c : List Int), ds = [dW W, dC c] ∧ W.Pre ∧ c.length = W.n ∧ d = dNs ((List.range W.n).filter (p W c))
abbrev s__law_lows : Stmt := topS 63
theorem sc__law_lows : FnScope ["_law_web_here", "_law_laying_here", "_law_nears_here", "_law_field", "_law_near"] ["_law_web_here", "_law_laying_here"] (defScope s__law_lows) := ⟨rfl, rfl, rfl, by decide +kernel, rfl, by decide +kernel, by decide +kernel⟩
theorem ok__law_lows (F : Fun K "_law_lows" "_law_lows" s__law_lows f fd) (b : Blt mg) (c__law_nears : Dfn P w K mg base 1 "_law_nears" ["_law_web_here"] sp_nears) : FnOk P w K mg base CX0 2 f fd ["_law_web_here", "_law_laying_here"] (sp_lows lowB) := by
  refine F.ok sc__law_lows (fun vs H Q E h => ?_) (fun cdv A outer s H vs Q E hr h => ?_)
  · obtain ⟨ds, d, ms, r, _, ⟨W, c, rfl, _⟩, _⟩ := h; exact r.len
  · obtain ⟨ds, d, ms, r, L, ⟨W, c, rfl, hW, hl, rfl⟩, k⟩ := h
    have nd := sc__law_lows.nd
    refine ⟨_, pss_cons (ps_set (i := 2) nd rfl (Or.inr rfl) (pe_own c__law_nears hr (pa_cons (pv 0) pa_nil))) (pss_one (ps_ret (pe_lc (own := [("_law_field", 3)]) rfl nd (pi_range1 (by rfl) b.range (pa_cons (pe_ix (ix_tupK K rfl) (pv 0) (pe_int) (fun _ _ => rfl)) pa_nil)) (blkOk_by (own := [("_law_field", 3)]) (N := ["_law_web_here", "_law_laying_here", "_law_nears_here", "_law_field", "_law_near"]) (sc := (defScope s__law_lows)) (by decide +kernel)) (fun _ _ _ _ _ => pg_name (i := 3) nd rfl (Or.inr rfl)) (fun _ _ _ _ _ => pts_one (pt_cmpR (op_eqDK K rfl hr.units) (pe_lc (own := [("_law_near", 4)]) rfl nd (pi_listK K rfl (pe_ix (ix_listK K rfl) (pv 2) (pv 3) (fun _ _ => rfl))) (blkOk_by (own := [("_law_near", 4)]) (N := ["_law_web_here", "_law_laying_here", "_law_nears_here", "_law_field", "_law_near"]) (sc := (relS { kind := PySem.ScopeKind.function, names := [(PySem.Str.ofString ".0", PySem.NameKind.local), (PySem.Str.ofString "_law_field", PySem.NameKind.cell), (PySem.Str.ofString "_law_laying_here", PySem.NameKind.free), (PySem.Str.ofString "_law_nears_here", PySem.NameKind.free)], isGenerator := false, isCoroutine := false, more := [] } (defScope s__law_lows))) (by decide +kernel)) (fun _ _ _ _ _ => pg_name (i := 4) nd rfl (Or.inl rfl)) (fun _ _ _ _ _ => pts_one (pt_cmpR op_lt (pe_ix (ix_tupK K rfl) (pv 1) (pv 4) (fun _ _ => rfl)) (pe_ix (ix_tupK K rfl) (pv 1) (pv 3) (fun _ _ => rfl)) (nomark _))) (fun _ _ _ _ _ => pv 4)) (pe_lst pa_nil) (nomark _))) (fun _ _ _ _ _ => pv 3)))), ?_⟩
    obtain ⟨v1, v2, rfl, r1, r2⟩ := r.two
    have hn := hW.few
    refine q_asg (e_call (a_cons (e_var rfl r1) a_nil) L ⟨W, rfl, hW, rfl⟩) fun vn H1 e1 rn => ?_
    replace r1 := rp_keep e1 r1
    replace r2 := rp_keep e1 r2
    have L1 := L.mono e1
    refine s_ret (e_is (e_lcT (xs := List.range W.n) (enc := fun (k : Nat) => .int (0 + (k : Int))) (lowB W c) dN (src_rg1 (j := (W.n : Int)) (a_cons (e_ixT (e_var rfl r1) e_int rfl) a_nil) (by omega)) (by simp; omega) L1 fun ms' a v H2 ha e2 ec L2 rv => ⟨[some v1, some v2, some vn, some v, none], fun Q q => q, rfl, ?_, fun _ => e_is (e_var rfl rv) (by rw [Int.zero_add])⟩) (by show PyData.list _ = PyData.list _; rw [dNs_eq])) fun v H2 e2 p => k v H2 (e1.trans e2) p
    have ha' := List.mem_range.mp ha
    cases rv.int_of
    rw [Int.zero_add]
    refine t_is (t_T (e_eqDp (e_is (e_lcT (xs := W.nb a) (enc := dN) (fun u => decide (atc c u < atc c a)) dN (src_list (e_is (e_ixL (d := dNs (W.nb a)) (e_var rfl (rn.mono ec)) (e_var rfl (.int _)) (atI_nat (by rw [List.getElem?_map, nears_get ha']; rfl))) (by show PyData.list _ = PyData.list _; rw [dNs_eq]))) (by have := nb_few (W := W) (v := a); omega) L2 fun ms6 z v6 H6 hz e6 ec6 L6 rv6 => ⟨[some v1, some v2, some vn, some (.int (a : Int)), some v6], fun Q q => q, rfl, ?_, fun _ => e_var rfl rv6⟩)
      (show _ = dNs ((W.nb a).filter fun u => decide (atc c u < atc c a)) by show PyData.list _ = PyData.list _; rw [dNs_eq])) (e_lst a_nil (by simp) L2) (shaped_I _) shaped_nil)) ?_
    · have hz' := (adj_lt hW ((mem_nb hW).mp hz)).2.1
      cases rv6.int_of
      exact t_T (e_B0 (e_ixT (e_var rfl ((r2.mono ec).mono ec6)) (e_var rfl (.int _)) (dC_at (by omega))) (e_ixT (e_var rfl ((r2.mono ec).mono ec6)) (e_var rfl (.int _)) (dC_at (by omega))))
    · have := eqv_ints (nI ((W.nb a).filter fun u => decide (atc c u < atc c a))) []
      show PyData.eqv (dIs _) (dIs []) = _
      rw [this]
      unfold lowB
      rw [← filter_nil_all]
      exact decide_eq_decide.mpr (by unfold nI; exact List.map_eq_nil_iff)
abbrev s__law_highs : Stmt := topS 64
theorem sc__law_highs : FnScope ["_law_web_here", "_law_laying_here", "_law_nears_here", "_law_field", "_law_near"] ["_law_web_here", "_law_laying_here"] (defScope s__law_highs) := ⟨rfl, rfl, rfl, by decide +kernel, rfl, by decide +kernel, by decide +kernel⟩
theorem ok__law_highs (F : Fun K "_law_highs" "_law_highs" s__law_highs f fd) (b : Blt mg) (c__law_nears : Dfn P w K mg base 1 "_law_nears" ["_law_web_here"] sp_nears) : FnOk P w K mg base CX0 2 f fd ["_law_web_here", "_law_laying_here"] (sp_lows highB) := by
  refine F.ok sc__law_highs (fun vs H Q E h => ?_) (fun cdv A outer s H vs Q E hr h => ?_)
  · obtain ⟨ds, d, ms, r, _, ⟨W, c, rfl, _⟩, _⟩ := h; exact r.len
  · obtain ⟨ds, d, ms, r, L, ⟨W, c, rfl, hW, hl, rfl⟩, k⟩ := h
    have nd := sc__law_highs.nd
    refine ⟨_, pss_cons (ps_set (i := 2) nd rfl (Or.inr rfl) (pe_own c__law_nears hr (pa_cons (pv 0) pa_nil))) (pss_one (ps_ret (pe_lc (own := [("_law_field", 3)]) rfl nd (pi_range1 (by rfl) b.range (pa_cons (pe_ix (ix_tupK K rfl) (pv 0) (pe_int) (fun _ _ => rfl)) pa_nil)) (blkOk_by (own := [("_law_field", 3)]) (N := ["_law_web_here", "_law_laying_here", "_law_nears_here", "_law_field", "_law_near"]) (sc := (defScope s__law_highs)) (by decide +kernel)) (fun _ _ _ _ _ => pg_name (i := 3) nd rfl (Or.inr rfl)) (fun _ _ _ _ _ => pts_one (pt_cmpR (op_eqDK K rfl hr.units) (pe_lc (own := [("_law_near", 4)]) rfl nd (pi_listK K rfl (pe_ix (ix_listK K rfl) (pv 2) (pv 3) (fun _ _ => rfl))) (blkOk_by (own := [("_law_near", 4)]) (N := ["_law_web_here", "_law_laying_here", "_law_nears_here", "_law_field", "_law_near"]) (sc := (relS { kind := PySem.ScopeKind.function, names := [(PySem.Str.ofString ".0", PySem.NameKind.local), (PySem.Str.ofString "_law_field", PySem.NameKind.cell), (PySem.Str.ofString "_law_laying_here", PySem.NameKind.free), (PySem.Str.ofString "_law_nears_here", PySem.NameKind.free)], isGenerator := false, isCoroutine := false, more := [] } (defScope s__law_highs))) (by decide +kernel)) (fun _ _ _ _ _ => pg_name (i := 4) nd rfl (Or.inl rfl)) (fun _ _ _ _ _ => pts_one (pt_cmpR op_gt (pe_ix (ix_tupK K rfl) (pv 1) (pv 4) (fun _ _ => rfl)) (pe_ix (ix_tupK K rfl) (pv 1) (pv 3) (fun _ _ => rfl)) (nomark _))) (fun _ _ _ _ _ => pv 4)) (pe_lst pa_nil) (nomark _))) (fun _ _ _ _ _ => pv 3)))), ?_⟩
    obtain ⟨v1, v2, rfl, r1, r2⟩ := r.two
    have hn := hW.few
    refine q_asg (e_call (a_cons (e_var rfl r1) a_nil) L ⟨W, rfl, hW, rfl⟩) fun vn H1 e1 rn => ?_
    replace r1 := rp_keep e1 r1
    replace r2 := rp_keep e1 r2
    have L1 := L.mono e1
    refine s_ret (e_is (e_lcT (xs := List.range W.n) (enc := fun (k : Nat) => .int (0 + (k : Int))) (highB W c) dN (src_rg1 (j := (W.n : Int)) (a_cons (e_ixT (e_var rfl r1) e_int rfl) a_nil) (by omega)) (by simp; omega) L1 fun ms' a v H2 ha e2 ec L2 rv => ⟨[some v1, some v2, some vn, some v, none], fun Q q => q, rfl, ?_, fun _ => e_is (e_var rfl rv) (by rw [Int.zero_add])⟩) (by show PyData.list _ = PyData.list _; rw [dNs_eq])) fun v H2 e2 p => k v H2 (e1.trans e2) p
    have ha' := List.mem_range.mp ha
    cases rv.int_of
    rw [Int.zero_add]
    refine t_is (t_T (e_eqDp (e_is (e_lcT (xs := W.nb a) (enc := dN) (fun u => decide (atc c a < atc c u)) dN (src_list (e_is (e_ixL (d := dNs (W.nb a)) (e_var rfl (rn.mono ec)) (e_var rfl (.int _)) (atI_nat (by rw [List.getElem?_map, nears_get ha']; rfl))) (by show PyData.list _ = PyData.list _; rw [dNs_eq]))) (by have := nb_few (W := W) (v := a); omega) L2 fun ms6 z v6 H6 hz e6 ec6 L6 rv6 => ⟨[some v1, some v2, some vn, some (.int (a : Int)), some v6], fun Q q => q, rfl, ?_, fun _ => e_var rfl rv6⟩)
      (show _ = dNs ((W.nb a).filter fun u => decide (atc c a < atc c u)) by show PyData.list _ = PyData.list _; rw [dNs_eq])) (e_lst a_nil (by simp) L2) (shaped_I _) shaped_nil)) ?_
    · have hz' := (adj_lt hW ((mem_nb hW).mp hz)).2.1
      cases rv6.int_of
      exact t_T (e_B0 (e_ixT (e_var rfl ((r2.mono ec).mono ec6)) (e_var rfl (.int _)) (dC_at (by omega))) (e_ixT (e_var rfl ((r2.mono ec).mono ec6)) (e_var rfl (.int _)) (dC_at (by omega))))
    · have := eqv_ints (nI ((W.nb a).filter fun u => decide (atc c a < atc c u))) []
      show PyData.eqv (dIs _) (dIs []) = _
      rw [this]
      unfold highB
      rw [← filter_nil_all]
      exact decide_eq_decide.mpr (by unfold nI; exact List.map_eq_nil_iff)
end
end T

set_option Elab.async false
set_option linter.all false
set_option maxRecDepth 100000
set_option maxHeartbeats 4000000
namespace T
open PySem PySem.Spec PyProof.Rows L2 RZ G M GX
open Evl (Ex EvT et_or et_not et_and)
section
variable {P : Program} {w : World} {K : PySem.W.Frag} {mg : Str → Option Value} {base : Heap} {f : Addr} {fd : FuncData}
def ups2 (W : Web) (c : List Int) : List (List Int) := ((List.range W.n).filter (lowB W c)).map fun f => c.set f (atc c f + 2)
def dns2 (W : Web) (c : List Int) : List (List Int) := ((List.range W.n).filter (highB W c)).map fun f => c.set f (atc c f + (0 - 2))
def sp_next : Sp := PSr fun ds S => ∃ (W : Web) (c : List Int), ds = [dW W, dC c] ∧ W.Pre ∧ c.length = W.n ∧ S = fun d => ∃ L : List (List Int), d = .list (L.map dC) ∧ L.Perm (ups2 W c ++ dns2 W c)
abbrev s__law_next : Stmt := topS 66
theorem sc__law_next : FnScope ["_law_web_here", "_law_laying_here", "_law_found", "_law_field"] ["_law_web_here", "_law_laying_here"] (defScope s__law_next) := ⟨rfl, rfl, rfl, by decide +kernel, rfl, by decide +kernel, by decide +kernel⟩
theorem ok__law_next (F : Fun K "_law_next" "_law_next" s__law_next f fd) (b : Blt mg) (c__law_lows : Dfn P w K mg base 2 "_law_lows" ["_law_web_here", "_law_laying_here"] (sp_lows lowB)) (c__law_highs : Dfn P w K mg base 2 "_law_highs" ["_law_web_here", "_law_laying_here"] (sp_lows highB)) (c__law_changed : Dfn P w K mg base 1 "_law_changed" ["_law_laying_here", "_law_field", "_law_by"] sp_changed) : FnOk P w K mg base CX0 3 f fd ["_law_web_here", "_law_laying_here"] sp_next := by
  refine F.ok sc__law_next (fun vs H Q E h => ?_) (fun cdv A outer s H vs Q E hr h => ?_)
  · obtain ⟨ds, S, ms, r, _, ⟨W, c, rfl, _⟩, _⟩ := h; exact r.len
  · obtain ⟨ds, S, ms, r, L, ⟨W, c, rfl, hW, hl, rfl⟩, k⟩ := h
    have nd := sc__law_next.nd
    refine ⟨_, pss_cons (ps_setLc (i := 2) (own := [("_law_field", 3)]) rfl nd rfl rfl (sw_true rfl rfl rfl (by decide +kernel)) (pi_listK K rfl (pe_own c__law_lows hr (pa_cons (pv 0) (pa_cons (pv 1) pa_nil)))) (blkOk_by (own := [("_law_field", 3)]) (N := ["_law_web_here", "_law_laying_here", "_law_found", "_law_field"]) (sc := (defScope s__law_next)) (by decide +kernel)) (fun _ _ _ _ _ => pg_name (i := 3) nd rfl (Or.inl rfl)) (fun _ _ _ _ _ => pts_nil) (fun _ _ _ _ _ => pe_own c__law_changed hr (pa_cons (pv 1) (pa_cons (pv 3) (pa_cons (pe_int) pa_nil))))) (pss_one (ps_ret (pe_callB (cr_sortedXK K rfl) (by rfl) b.sorted (by decide +kernel) (pa_cons (pe_op op_cat (pv 2) (pe_lc (own := [("_law_field", 3)]) rfl nd (pi_listK K rfl (pe_own c__law_highs hr (pa_cons (pv 0) (pa_cons (pv 1) pa_nil)))) (blkOk_by (own := [("_law_field", 3)]) (N := ["_law_web_here", "_law_laying_here", "_law_found", "_law_field"]) (sc := (defScope s__law_next)) (by decide +kernel)) (fun _ _ _ _ _ => pg_name (i := 3) nd rfl (Or.inl rfl)) (fun _ _ _ _ _ => pts_nil) (fun _ _ _ _ _ => pe_own c__law_changed hr (pa_cons (pv 1) (pa_cons (pv 3) (pa_cons (pe_op op_sub (pe_int) (pe_int)) pa_nil)))))) pa_nil)))), ?_⟩
    obtain ⟨v1, v2, rfl, r1, r2⟩ := r.two
    have hn := hW.few
    have hp := hW.pos
    have l1 := List.length_filter_le (lowB W c) (List.range W.n)
    have l2 := List.length_filter_le (highB W c) (List.range W.n)
    rw [List.length_range] at l1 l2
    refine q_asg (e_is (d2 := .list ((ups2 W c).map dC)) (e_mapT (xs := (List.range W.n).filter (lowB W c)) (enc := dN) (fun f => dC (c.set f (atc c f + 2))) (src_list (e_is (e_call (a_cons (e_var rfl r1) (a_cons (e_var rfl r2) a_nil)) L ⟨W, c, rfl, hW, hl, rfl⟩) (by show PyData.list _ = PyData.list _; rw [dNs_eq]))) (by omega) L fun ms' a v H2 ha e2 ec L2 rv => ⟨[some v1, some v2, none, some v], fun Q q => q, rfl, ?_⟩) (by unfold ups2; rw [List.map_map]; rfl)) fun vf H1 e1 rf => ?_
    · have ha' := List.mem_range.mp (List.mem_filter.mp ha).1
      exact e_call (a_cons (e_var rfl (r2.mono ec)) (a_cons (e_var rfl rv) (a_cons e_int a_nil))) L2 ⟨c, a, 2, rfl, by omega, by omega, rfl⟩
    replace r1 := rp_keep e1 r1
    replace r2 := rp_keep e1 r2
    have L1 := L.mono e1
    refine s_ret (e_sortedX (L := ups2 W c ++ dns2 W c) (m := W.n) (e_is (e_cat (e_var rfl rf) (e_is (d2 := .list ((dns2 W c).map dC)) (e_mapT (xs := (List.range W.n).filter (highB W c)) (enc := dN) (fun f => dC (c.set f (atc c f + (0 - 2)))) (src_list (e_is (e_call (a_cons (e_var rfl r1) (a_cons (e_var rfl r2) a_nil)) L1 ⟨W, c, rfl, hW, hl, rfl⟩) (by show PyData.list _ = PyData.list _; rw [dNs_eq]))) (by omega) L1 fun ms' a v H2 ha e2 ec L2 rv => ⟨[some v1, some v2, some vf, some v], fun Q q => q, rfl, ?_⟩) (by unfold dns2; rw [List.map_map]; rfl)) (by unfold ups2 dns2; simp only [List.length_map]; omega) L1) (by rw [← List.map_append])) hp ?_ L1) fun v H2 e2 ⟨L', h1, h2, h3⟩ => k v H2 _ (e1.trans e2) ⟨L', rfl, h1⟩ h3
    · have ha' := List.mem_range.mp (List.mem_filter.mp ha).1
      exact e_call (a_cons (e_var rfl (r2.mono ec)) (a_cons (e_var rfl rv) (a_cons (e_I0 e_int e_int) a_nil))) L2 ⟨c, a, 0 - 2, rfl, by omega, by omega, rfl⟩
    · intro x hx
      rcases List.mem_append.mp hx with hx | hx
      · obtain ⟨y, _, rfl⟩ := List.mem_map.mp hx
        rw [List.length_set]; exact hl
      · obtain ⟨y, _, rfl⟩ := List.mem_map.mp hx
        rw [List.length_set]; exact hl
/-! ### recolorings -/
def sp_rec : Sp := PSm fun ds d => ∃ (W : Web) (c : List Int) (f : Nat), ds = [dW W, dC c, dN f] ∧ W.Pre ∧ c.length = W.n ∧ f < W.n ∧ d = dOpt (recO W c f)
abbrev s_recolored : Stmt := topS 31
theorem sc_recolored : FnScope ["web", "coloring", "field", "near", "color", "one"] ["web", "coloring", "field"] (defScope s_recolored) := ⟨rfl, rfl, rfl, by decide +kernel, rfl, by decide +kernel, by decide +kernel⟩
theorem ok_recolored (F : Fun K "recolored" "recolored" s_recolored f fd) (b : Blt mg) (c_nears_of : Dfn P w K mg base 1 "nears_of" ["web"] sp_nears) : FnOk P w K mg base CX0 2 f fd ["web", "coloring", "field"] sp_rec := by
  refine F.ok sc_recolored (fun vs H Q E h => ?_) (fun cdv A outer s H vs Q E hr h => ?_)
  · obtain ⟨ds, d, ms, r, _, ⟨W, c, q, rfl, _⟩, _⟩ := h; exact r.len
  · obtain ⟨ds, d, ms, r, L, ⟨W, c, q, rfl, hW, hl, hq, rfl⟩, k⟩ := h
    have nd := sc_recolored.nd
    refine ⟨_, pss_cons (ps_setDc (i := 3) (own := [("one", 5)]) rfl nd rfl rfl (swD_true rfl rfl rfl (by decide +kernel)) (pi_listK K rfl (pe_ix (ix_listK K rfl) (pe_own c_nears_of hr (pa_cons (pv 0) pa_nil)) (pv 2) (fun _ _ => rfl))) (blkOk_by (own := [("one", 5)]) (N := ["web", "coloring", "field", "near", "color", "one"]) (sc := (defScope s_recolored)) (by decide +kernel)) (fun _ _ _ _ _ => pg_name (i := 5) nd rfl (Or.inl rfl)) (fun _ _ _ _ _ => pts_nil) (fun _ _ _ _ _ => pe_ix (ix_tupK K rfl) (pv 1) (pv 5) (fun _ _ => rfl)) (fun _ _ _ _ _ => pe_bl)) (pss_cons (ps_if (pt_cmpR op_ne (pe_callB call_lenD (by rfl) b.len (by decide +kernel) (pa_cons (pv 3) pa_nil)) (pe_int) (nomark _)) (pss_one (ps_ret (pe_non))) (pss_nil)) (pss_cons (ps_set (i := 4) nd rfl (Or.inl rfl) (pe_op op_sub (pe_op op_sub (pe_int) (pe_ix (ix_tupK K rfl) (pv 1) (pv 2) (fun _ _ => rfl))) (pe_ix (ix_listK K rfl) (pe_callTy (call_list_dK rfl) (by rfl) b.list (by decide +kernel) (pa_cons (pv 3) pa_nil)) (pe_int) (fun _ _ => rfl)))) (pss_one (ps_ret (pe_op (op_catAK K rfl) (pe_op (op_catAK K rfl) (pe_slice (sl_tupK K rfl) (pv 1) po_none (po_some (pv 2))) (pe_tup (pa_cons (pv 4) pa_nil))) (pe_slice (sl_tupK K rfl) (pv 1) (po_some (pe_op op_add (pv 2) (pe_int))) po_none)))))), ?_⟩
    obtain ⟨v1, v2, v3, rfl, r1, r2, r3⟩ := r.three
    have hn := hW.few
    cases r3.int_of
    refine q_asg (n_dcB (ms := ms) (xs := W.nb q) (enc := dN) (atc c) (src_list (e_is (e_ixL (d := dNs (W.nb q)) (e_call (a_cons (e_var rfl r1) a_nil) L ⟨W, rfl, hW, rfl⟩) (e_var rfl (.int _)) (atI_nat (by rw [List.getElem?_map, nears_get hq]; rfl))) (by show PyData.list _ = PyData.list _; rw [dNs_eq]))) (by have := nb_few (W := W) (v := q); omega) L fun ms' a v H2 ha e2 ec L2 rv => ⟨[some v1, some v2, some (.int (q : Int)), none, none, some v], fun Q q => q, rfl, ?_⟩) fun vd H1 e1 ⟨D, hv, nD, hD⟩ => ?_
    · have ha' := (adj_lt hW ((mem_nb hW).mp ha)).2.1
      exact e_ixT (e_var rfl (r2.mono ec)) (e_var rfl rv) (dC_at (by omega))
    subst hv
    have L1 := L.mono e1
    replace r2 := rp_keep e1 r2
    by_cases h1 : (dk ((W.nb q).map (atc c))).length = 1
    · obtain ⟨x, hx⟩ := List.length_eq_one_iff.mp h1
      refine q_no (t_is (t_T (e_ne (ms := ms) (e_lenD (e_ref rfl) hD) e_int)) (by rw [List.length_map, h1]; rfl)) fun H2 e2 => ?_
      have hD2 := e2 _ _ hD
      refine q_asg (EvP.val (ms := ms) (e_I0 (e_I0 e_int (e_ixT (e_var rfl (rp_keep e2 r2)) (e_var rfl (.int _)) (dC_at (by omega)))) (e_ixL (d := .int x) (e_listD (e_ref rfl) hD2 (L1.mono e2)) e_int (by rw [hx]; exact atI_nat (j := 0) rfl)))) fun v H3 e3 hv => ?_
      subst hv
      have e23 := e2.trans e3
      refine s_ret (e_is (e_put (e_var rfl (rp_keep e23 r2)) (e_var rfl (.int _)) (e_var rfl (.int _)) (e_I0 (e_var rfl (.int _)) e_int) (by omega) (by omega) (L1.mono e23)) ?_) fun v H4 e4 p => k v H4 ((e1.trans e23).trans e4) p
      unfold recO
      rw [hx]; rfl
    · have hb : (!decide ((((dk ((W.nb q).map (atc c))).map tK).length : Int) = 1)) = true := by
        rw [List.length_map]
        simp; omega
      refine q_if (b := true) (t_is (t_T (e_ne (ms := ms) (e_lenD (e_ref rfl) hD) e_int)) hb) (fun _ H2 e2 => ?_) (fun h => by cases h)
      refine s_ret (e_is (d2 := dOpt (recO W c q)) e_non ?_) fun v H4 e4 p => k v H4 ((e1.trans e2).trans e4) p
      unfold recO
      split
      · next x hx => rw [hx] at h1; exact absurd rfl h1
      · rfl
def sp_near : Sp := PSr fun ds S => ∃ (W : Web) (c : List Int), ds = [dW W, dC c] ∧ W.Ok ∧ Col W c ∧ S = fun d => ∃ L : List (List Int), d = .list (L.map dC) ∧ L.Perm ((List.range W.n).filterMap (recO W c))
theorem recO_len {W : Web} {c d : List Int} {f : Nat} (h : recO W c f = some d) : d.length = c.length := by
  unfold recO at h
  split at h
  · cases h; rw [List.length_set]
  · cases h
abbrev s_near_colorings : Stmt := topS 32
theorem sc_near_colorings : FnScope ["web", "coloring", "found", "field", "told"] ["web", "coloring"] (defScope s_near_colorings) := ⟨rfl, rfl, rfl, by decide +kernel, rfl, by decide +kernel, by decide +kernel⟩
theorem ok_near_colorings (F : Fun K "near_colorings" "near_colorings" s_near_colorings f fd) (b : Blt mg) (c_need_coloring : Dfn P w K mg base 6 "need_coloring" ["web", "value"] (sp_iscol .none)) (c_recolored : Dfn P w K mg base 2 "recolored" ["web", "coloring", "field"] sp_rec) : FnOk P w K mg base CX0 7 f fd ["web", "coloring"] sp_near := by
  refine F.ok sc_near_colorings (fun vs H Q E h => ?_) (fun cdv A outer s H vs Q E hr h => ?_)
  · obtain ⟨ds, S, ms, r, _, ⟨W, c, rfl, _⟩, _⟩ := h; exact r.len
  · obtain ⟨ds, S, ms, r, L, ⟨W, c, rfl, hW, hc, rfl⟩, k⟩ := h
    have nd := sc_near_colorings.nd
    refine ⟨_, pss_cons (ps_expr (pe_own c_need_coloring hr (pa_cons (pv 0) (pa_cons (pv 1) pa_nil)))) (pss_cons (ps_setLc (i := 2) (own := [("field", 3)]) rfl nd rfl rfl (sw_true rfl rfl rfl (by decide +kernel)) (pi_range1 (by rfl) b.range (pa_cons (pe_ix (ix_tupK K rfl) (pv 0) (pe_int) (fun _ _ => rfl)) pa_nil)) (blkOk_by (own := [("field", 3)]) (N := ["web", "coloring", "found", "field", "told"]) (sc := (defScope s_near_colorings)) (by decide +kernel)) (fun _ _ _ _ _ => pg_name (i := 3) nd rfl (Or.inl rfl)) (fun _ _ _ _ _ => pts_nil) (fun _ _ _ _ _ => pe_own c_recolored hr (pa_cons (pv 0) (pa_cons (pv 1) (pa_cons (pv 3) pa_nil))))) (pss_one (ps_ret (pe_callB (cr_sortedXK K rfl) (by rfl) b.sorted (by decide +kernel) (pa_cons (pe_lc (own := [("told", 4)]) rfl nd (pi_listK K rfl (pv 2)) (blkOk_by (own := [("told", 4)]) (N := ["web", "coloring", "found", "field", "told"]) (sc := (defScope s_near_colorings)) (by decide +kernel)) (fun _ _ _ _ _ => pg_name (i := 4) nd rfl (Or.inl rfl)) (fun _ _ _ _ _ => pts_one (pt_cmpR op_notN (pv 4) pe_non (nomark _))) (fun _ _ _ _ _ => pv 4)) pa_nil))))), ?_⟩
    obtain ⟨v1, v2, rfl, r1, r2⟩ := r.two
    have hn := hW.pre.few
    refine q_drop (e_call (a_cons (e_var rfl r1) (a_cons (e_var rfl r2) a_nil)) L ⟨W, c, rfl, hW, hc, rfl⟩) fun _ H1 e1 _ => ?_
    replace r1 := rp_keep e1 r1
    replace r2 := rp_keep e1 r2
    have L1 := L.mono e1
    refine q_asg (e_is (d2 := .list (((List.range W.n).map (recO W c)).map dOpt)) (e_mapT (xs := List.range W.n) (enc := fun (k : Nat) => .int (0 + (k : Int))) (fun f => dOpt (recO W c f)) (src_rg1 (j := (W.n : Int)) (a_cons (e_ixT (e_var rfl r1) e_int rfl) a_nil) (by omega)) (by simp; omega) L1 fun ms' a v H2 ha e2 ec L2 rv => ⟨[some v1, some v2, none, some v, none], fun Q q => q, rfl, ?_⟩) (by rw [List.map_map]; rfl)) fun vf H2 e2 rf => ?_
    · have ha' := List.mem_range.mp ha
      cases rv.int_of
      rw [Int.zero_add]
      exact e_call (a_cons (e_var rfl (r1.mono ec)) (a_cons (e_var rfl (r2.mono ec)) (a_cons (e_var rfl (.int _)) a_nil))) L2 ⟨W, c, a, rfl, hW.pre, hc.len, ha', rfl⟩
    refine s_ret (e_sortedX (L := (List.range W.n).filterMap (recO W c)) (m := W.n) (e_is (e_lcT (xs := (List.range W.n).map (recO W c)) (enc := dOpt) Option.isSome dOpt (src_list (e_var rfl rf)) (by simp; omega) (L1.mono e2) fun ms' o v H3 ho e3 ec L3 rv => ⟨[some v1, some v2, some vf, none, some v], fun Q q => q, rfl, t_is (e_notN_t (e_var rfl rv)) (by cases o <;> rfl), fun _ => e_var rfl rv⟩) ?_) hW.pre.pos ?_ (L1.mono e2)) fun v H3 e3 ⟨L', h1, h2, h3⟩ => k v H3 _ ((e1.trans e2).trans e3) ⟨L', rfl, h1⟩ h3
    · show PyData.list _ = PyData.list _
      congr 1
      have key : ∀ l : List Nat, ((l.map (recO W c)).filter Option.isSome).map dOpt = (l.filterMap (recO W c)).map dC := fun l => by
        induction l with
        | nil => rfl
        | cons a l ih =>
          rw [List.map_cons, List.filterMap_cons, List.filter_cons]
          cases recO W c a with
          | none => exact ih
          | some d =>
            show dOpt (some d) :: ((l.map (recO W c)).filter Option.isSome).map dOpt = dC d :: (l.filterMap (recO W c)).map dC
            rw [ih]; rfl
      exact key _
    · intro x hx
      obtain ⟨a, _, h⟩ := List.mem_filterMap.mp hx
      rw [recO_len h, hc.len]
/-! ### bounds -/
def sp_kept : Sp := PSm fun ds d => ∃ (W : Web) (l : Nat), ds = [dNears W, dN l] ∧ W.Pre ∧ l < W.n ∧ d = dNs (W.kept l)
abbrev s_kept_at : Stmt := topS 40
theorem sc_kept_at : FnScope ["nears", "last", "field"] ["nears", "last"] (defScope s_kept_at) := ⟨rfl, rfl, rfl, by decide +kernel, rfl, by decide +kernel, by decide +kernel⟩
theorem ok_kept_at (F : Fun K "kept_at" "kept_at" s_kept_at f fd) (b : Blt mg) : FnOk P w K mg base CX0 1 f fd ["nears", "last"] sp_kept := by
  refine F.ok sc_kept_at (fun vs H Q E h => ?_) (fun cdv A outer s H vs Q E hr h => ?_)
  · obtain ⟨ds, d, ms, r, _, ⟨W, l, rfl, _⟩, _⟩ := h; exact r.len
  · obtain ⟨ds, d, ms, r, L, ⟨W, l, rfl, hW, hl, rfl⟩, k⟩ := h
    have nd := sc_kept_at.nd
    refine ⟨_, pss_one (ps_ret (pe_lc (own := [("field", 2)]) rfl nd (pi_range1 (by rfl) b.range (pa_cons (pe_op op_add (pv 1) (pe_int)) pa_nil)) (blkOk_by (own := [("field", 2)]) (N := ["nears", "last", "field"]) (sc := (defScope s_kept_at)) (by decide +kernel)) (fun _ _ _ _ _ => pg_name (i := 2) nd rfl (Or.inl rfl)) (fun _ _ _ _ _ => pts_one ((pw_and (pt_cmpR (op_neDK K rfl hr.units) (pe_ix (ix_listK K rfl) (pv 0) (pv 2) (fun _ _ => rfl)) (pe_lst pa_nil) (nomark _)) (pw_and1 (pt_cmpR op_gt (pe_ix (ix_listK K rfl) (pe_ix (ix_listK K rfl) (pv 0) (pv 2) (fun _ _ => rfl)) (pe_un un_neg (pe_int)) (fun _ _ => rfl)) (pv 1) (nomark _)))).pt)) (fun _ _ _ _ _ => pv 2))), ?_⟩
    obtain ⟨v1, v2, rfl, r1, r2⟩ := r.two
    have hn := hW.few
    cases r2.int_of
    refine s_ret (e_is (e_lcT (xs := List.range (l + 1)) (enc := fun (k : Nat) => .int (0 + (k : Int))) (fun f => W.beh f l) dN (src_rg1 (j := (l : Int) + 1) (a_cons (e_I0 (e_var rfl (.int _)) e_int) a_nil) (by omega)) (by simp; omega) L fun ms' a v H2 ha e2 ec L2 rv => ⟨[some v1, some (.int (l : Int)), some v], fun Q q => q, rfl, ?_, fun _ => e_is (e_var rfl rv) (by rw [Int.zero_add])⟩) (by show PyData.list _ = PyData.list _; rw [dNs_eq]; rfl)) k
    have ha' : a < W.n := by have := List.mem_range.mp ha; omega
    cases rv.int_of
    rw [Int.zero_add]
    exact t_beh (last := l) (e_ixL (e_var rfl (r1.mono ec)) (e_var rfl (.int _)) (atI_nat (by rw [List.getElem?_map, nears_get ha']; rfl))) (e_var rfl (.int _)) L2
end
end T

set_option Elab.async false
set_option linter.all false
set_option maxRecDepth 100000
set_option maxHeartbeats 4000000
namespace T
open PySem PySem.Spec PyProof.Rows L2 RZ G M GX
open Evl (Ex EvT et_or et_not et_and)
theorem rgc_pos {i j c : Int} (hc : c = 2 ∨ c = 3) (h1 : -100000 ≤ i) (h2 : i < j) (h3 : j ≤ 100000) : RgC i j c (((j - i - 1) / c + 1).toNat) := by
  have hs : Builtin.Range.rangeSize i j c = (j - i - 1) / c + 1 := by
    unfold Builtin.Range.rangeSize
    rw [if_pos (by omega), if_pos h2]
  refine ⟨by omega, by omega, ?_, by rw [hs]; rcases hc with rfl | rfl <;> omega⟩
  unfold Builtin.Range.small
  rw [hs]
  simp only [Builtin.Range.rangeFitsLong, Bool.and_eq_true, Bool.or_eq_true, decide_eq_true_eq, beq_iff_eq]
  rcases hc with rfl | rfl
  · simp only [show (2 : Int) > 0 by decide, if_true]
    refine ⟨⟨⟨⟨?_, ?_⟩, ?_⟩, ?_⟩, .inr ?_⟩ <;> first | omega | (rw [Bool.and_eq_true, decide_eq_true_eq, decide_eq_true_eq]; omega)
  · simp only [show (3 : Int) > 0 by decide, if_true]
    refine ⟨⟨⟨⟨?_, ?_⟩, ?_⟩, ?_⟩, .inr ?_⟩ <;> first | omega | (rw [Bool.and_eq_true, decide_eq_true_eq, decide_eq_true_eq]; omega)
section
variable {P : Program} {w : World} {K : PySem.W.Frag} {mg : Str → Option Value} {base : Heap} {f : Addr} {fd : FuncData}
noncomputable abbrev dHi (W : Web) : PyData := dC (nI ((List.range W.n).map (W.dist 0)))
noncomputable def lowL (W : Web) : List Int := (List.range W.n).map fun v => -(W.dist 0 v : Int)
noncomputable def highL (W : Web) : List Int := (List.range W.n).map fun v => (W.dist 0 v : Int)
def d00 : PyData := .tuple [dN 0, dN 0]
def sp_highest : Sp := PSm fun ds d => ∃ W : Web, (ds = [dW W, .tuple [d00]] ∨ ds = [dW W, .list [d00]]) ∧ W.Ok ∧ d = dC (highL W)
theorem high_nI {W : Web} : nI ((List.range W.n).map (W.dist 0)) = highL W := by unfold nI highL; rw [List.map_map]; rfl
abbrev s_highest_of : Stmt := topS 35
theorem sc_highest_of : FnScope ["web", "told", "found", "field", "height", "at", "many"] ["web", "told"] (defScope s_highest_of) := ⟨rfl, rfl, rfl, by decide +kernel, rfl, by decide +kernel, by decide +kernel⟩
theorem ok_highest_of (F : Fun K "highest_of" "highest_of" s_highest_of f fd) (b : Blt mg) (c_reach_of : Dfn P w K mg base 2 "reach_of" ["web", "first"] sp_dist) : FnOk P w K mg base CX0 3 f fd ["web", "told"] sp_highest := by
  refine F.ok sc_highest_of (fun vs H Q E h => ?_) (fun cdv A outer s H vs Q E hr h => ?_)
  · obtain ⟨ds, d, ms, r, _, ⟨W, h, _⟩, _⟩ := h
    rcases h with rfl | rfl <;> exact r.len
  · obtain ⟨ds, d, ms, r, L, ⟨W, hds, hW, rfl⟩, k⟩ := h
    have nd := sc_highest_of.nd
    have hn := hW.pre.few
    have hp := hW.pre.pos
    rcases hds with rfl | rfl
    · refine ⟨_, pss_cons (ps_set (i := 2) nd rfl (Or.inl rfl) (pe_op op_rep (pe_lst (pa_cons (pe_non) pa_nil)) (pe_ix (ix_tupK K rfl) (pv 0) (pe_int) (fun _ _ => rfl)))) (pss_cons (ps_for PassesOwn.never rfl (pi_tupK K rfl (pv 1)) (pg_tupK (n := 2) K rfl rfl (pgs_cons (pg_name (i := 3) nd rfl (Or.inl rfl)) (pgs_cons (pg_name (i := 4) nd rfl (Or.inl rfl)) (pgs_nil)))) (pss_one (ps_for PassesOwn.never rfl (pi_enumK K rfl (by rfl) b.enumerate (pa_cons (pe_own c_reach_of hr (pa_cons (pv 0) (pa_cons (pv 3) pa_nil))) pa_nil)) (pg_tupK (n := 2) K rfl rfl (pgs_cons (pg_name (i := 5) nd rfl (Or.inl rfl)) (pgs_cons (pg_name (i := 6) nd rfl (Or.inl rfl)) (pgs_nil)))) (pss_one (ps_asg (pe_ifExp (pt_cmpR op_isN (pe_ix (ix_listK K rfl) (pv 2) (pv 5) (fun _ _ => rfl)) pe_non (nomark _)) (pe_op op_add (pv 4) (pv 6)) (pe_callB (call_min2 rfl) (by rfl) b.min (by decide +kernel) (pa_cons (pe_ix (ix_listK K rfl) (pv 2) (pv 5) (fun _ _ => rfl)) (pa_cons (pe_op op_add (pv 4) (pv 6)) pa_nil)))) (pg_sub (pv 2) (pv 5) set_list)))))) (pss_one (ps_ret (pe_callTy (call_tupleK K rfl) (by rfl) b.tuple (by decide +kernel) (pa_cons (pv 2) pa_nil))))), ?_⟩
      obtain ⟨v1, v2, rfl, r1, r2⟩ := r.two
      refine q_asg (n_nones (e_ixT (e_var rfl r1) e_int rfl) (by omega)) fun vf H1 e1 ⟨pf, hv, nf, hf⟩ => ?_
      subst hv
      rw [show ((W.n : Int)).toNat = W.n by omega] at hf
      have cm : Ex (cut H ms) (cut H1 (pf :: ms)) := cut_more (qs := [pf]) (fun q hq => by cases List.mem_singleton.mp hq; exact nf) e1
      replace r1 := r1.mono cm
      replace r2 := r2.mono cm
      refine s_seqfor (ms := pf :: ms) (src_tup (e_var rfl r2))
        (fun B i σ' H' => ∃ (y3 y4 y5 y6 : Option V), σ' = [some v1, some v2, some (.ref pf), y3, y4, y5, y6] ∧ H' pf = some (.lst (if i = 0 then List.replicate W.n V.non else fv W.n (W.dist 0) (List.range W.n))) ∧ Ex (cut B (pf :: ms)) H' ∧ Ex H H')
        (fun B eB => ⟨none, none, none, none, rfl, eB _ _ hf, cut_le, e1.trans eB⟩) (fun B i σ' H' _ _ ⟨_, _, _, _, _, _, h, _⟩ => h) ?_ ?_
      · rintro B i d v σ' Hc H' eB hd ⟨y3, y4, y5, y6, rfl, hfc, eb, eHc⟩ ec hr
        cases i with
        | succ i => simp at hd
        | zero =>
          rw [if_pos rfl] at hfc
          have hd' : d = d00 := by simpa using hd.symm
          subst hd'
          have Lc : Live Hc (pf :: ms) := (L.mono eHc).cons hfc
          obtain ⟨x, y, rx, ry, hg⟩ := g_tup2 (ma := 3) (mb := 4) cut_le (hr _ (ex_cut_in eb) Lc)
          refine hg _ _ ?_
          cases rx.int_of
          cases ry.int_of
          have eB' : Ex (cut H1 (pf :: ms)) (cut H' (pf :: ms)) := ((ex_cut eB).trans (ex_cut_in eb)).trans (ex_cut ec)
          have r1' := r1.mono eB'
          refine s_for (ms := pf :: ms) (src_enum (a_cons (e_call (a_cons (e_var rfl r1') (a_cons (e_var rfl (.int _)) a_nil)) (Lc.mono ec) ⟨W, 0, rfl, hW.pre, hp, ⟨_, hW.dist hp⟩, rfl⟩) a_nil))
            (fun B2 j σ' H' => ∃ (y5 y6 : Option V), σ' = [some v1, some v2, some (.ref pf), some (.int ((0 : Nat) : Int)), some (.int ((0 : Nat) : Int)), y5, y6] ∧ H' pf = some (.lst (fv W.n (W.dist 0) (List.range j))) ∧ Ex (cut B2 (pf :: ms)) H' ∧ Ex H H')
            (fun B2 eB2 => ⟨y5, y6, rfl, by rw [List.range_zero, fv_nil]; exact eB2 _ _ (ec _ _ hfc), cut_le, (eHc.trans ec).trans eB2⟩) (fun B i σ' H' _ _ ⟨_, _, _, _, h, _⟩ => h) ?_ ?_
          · rintro B2 j d v σ' Hd H'' eB2 hd ⟨y5, y6, rfl, hfd, eb2, eHd⟩ ed hr2
            obtain ⟨z, hz, rfl⟩ := enumD_get hd
            have hj : j < W.n := by
              have := (List.getElem?_eq_some_iff.mp hz).1
              simpa [nI] using this
            rw [dist_get hj] at hz
            cases hz
            have Ld : Live Hd (pf :: ms) := (L.mono eHd).cons hfd
            obtain ⟨x, y, rx, ry, hg⟩ := g_tup2 (ma := 5) (mb := 6) cut_le (hr2 _ (ex_cut_in eb2) Ld)
            refine hg _ _ ?_
            cases rx.int_of
            cases ry.int_of
            have hfd' := ed _ _ hfd
            have hnj : j ∉ List.range j := by simp
            have hg0 := fv_get (n := W.n) (d := W.dist 0) (ln := List.range j) hj
            rw [if_neg hnj] at hg0
            show tAsg _ _ _ _ _
            refine s_setV (ms := []) (k := j) (v0 := .int (W.dist 0 j : Int)) hfd' (e_if (b := true) (e_isN_t ((v_ixM (ms := []) (e_ref rfl) hfd' (e_var rfl (.int _)) hg0).ed (ms := []) .non)) (fun _ => ?_) (fun h => by cases h)) (e_ref rfl) (e_var rfl (.int _)) (by rw [fv_len]; exact hj) fun H3 e3 => ?_
            · have := EvP.val (ms := []) (e_I0 (g := fun i j => i + j) (σ := [some v1, some v2, some (.ref pf), some (.int ((0 : Nat) : Int)), some (.int ((0 : Nat) : Int)), some (.int (j : Int)), some (.int (W.dist 0 j : Int))]) (H := H'') (ta := tVar 4) (tb := tVar 6) (e_var rfl (.int _)) (e_var rfl (.int _)))
              rw [show (((0 : Nat) : Int)) + (W.dist 0 j : Int) = (W.dist 0 j : Int) by omega] at this
              exact this
            · rw [fv_set hj, ← List.range_succ]
              exact ⟨_, _, rfl, upd_same, ex_cut_upd ((eb2.trans ed).trans e3) (by simp), Ex.mut ((eHd.trans ed).trans e3) nf⟩
          · rintro B2 σ' H'' eB2 ⟨y5, y6, rfl, hfd, eb2, eHd⟩
            rw [enumD_len, dNs_len, List.length_map, List.length_range] at hfd
            refine ⟨_, _, _, _, rfl, by rw [if_neg (by omega)]; exact hfd, ?_, eHd⟩
            exact fun q o z => eb2 q o (by
              obtain ⟨z1, z2⟩ := cut_some z
              rw [cut_out z1]
              exact (ec.trans eB2) _ _ (eb q o z))
      · rintro B σ' H' eB ⟨y3, y4, y5, y6, rfl, hfc, eb, eHc⟩
        rw [if_neg (by simp), fv_all (fun x hx => List.mem_range.mpr hx)] at hfc
        refine s_ret (e_tupleL (ms := ms) (e_var (d := dIs (highL W)) rfl (.lst (by rw [cut_out (L.out nf)]; exact hfc) (by rw [high_nI]; exact RpAll.ints _))) (L.mono eHc)) fun v H7 e7 p => k v H7 (eHc.trans e7) p
    · refine ⟨_, pss_cons (ps_set (i := 2) nd rfl (Or.inl rfl) (pe_op op_rep (pe_lst (pa_cons (pe_non) pa_nil)) (pe_ix (ix_tupK K rfl) (pv 0) (pe_int) (fun _ _ => rfl)))) (pss_cons (ps_for PassesOwn.never rfl (pi_listK K rfl (pv 1)) (pg_tupK (n := 2) K rfl rfl (pgs_cons (pg_name (i := 3) nd rfl (Or.inl rfl)) (pgs_cons (pg_name (i := 4) nd rfl (Or.inl rfl)) (pgs_nil)))) (pss_one (ps_for PassesOwn.never rfl (pi_enumK K rfl (by rfl) b.enumerate (pa_cons (pe_own c_reach_of hr (pa_cons (pv 0) (pa_cons (pv 3) pa_nil))) pa_nil)) (pg_tupK (n := 2) K rfl rfl (pgs_cons (pg_name (i := 5) nd rfl (Or.inl rfl)) (pgs_cons (pg_name (i := 6) nd rfl (Or.inl rfl)) (pgs_nil)))) (pss_one (ps_asg (pe_ifExp (pt_cmpR op_isN (pe_ix (ix_listK K rfl) (pv 2) (pv 5) (fun _ _ => rfl)) pe_non (nomark _)) (pe_op op_add (pv 4) (pv 6)) (pe_callB (call_min2 rfl) (by rfl) b.min (by decide +kernel) (pa_cons (pe_ix (ix_listK K rfl) (pv 2) (pv 5) (fun _ _ => rfl)) (pa_cons (pe_op op_add (pv 4) (pv 6)) pa_nil)))) (pg_sub (pv 2) (pv 5) set_list)))))) (pss_one (ps_ret (pe_callTy (call_tupleK K rfl) (by rfl) b.tuple (by decide +kernel) (pa_cons (pv 2) pa_nil))))), ?_⟩
      obtain ⟨v1, v2, rfl, r1, r2⟩ := r.two
      refine q_asg (n_nones (e_ixT (e_var rfl r1) e_int rfl) (by omega)) fun vf H1 e1 ⟨pf, hv, nf, hf⟩ => ?_
      subst hv
      rw [show ((W.n : Int)).toNat = W.n by omega] at hf
      have cm : Ex (cut H ms) (cut H1 (pf :: ms)) := cut_more (qs := [pf]) (fun q hq => by cases List.mem_singleton.mp hq; exact nf) e1
      replace r1 := r1.mono cm
      replace r2 := r2.mono cm
      refine s_seqfor (ms := pf :: ms) (src_list (e_var rfl r2))
        (fun B i σ' H' => ∃ (y3 y4 y5 y6 : Option V), σ' = [some v1, some v2, some (.ref pf), y3, y4, y5, y6] ∧ H' pf = some (.lst (if i = 0 then List.replicate W.n V.non else fv W.n (W.dist 0) (List.range W.n))) ∧ Ex (cut B (pf :: ms)) H' ∧ Ex H H')
        (fun B eB => ⟨none, none, none, none, rfl, eB _ _ hf, cut_le, e1.trans eB⟩) (fun B i σ' H' _ _ ⟨_, _, _, _, _, _, h, _⟩ => h) ?_ ?_
      · rintro B i d v σ' Hc H' eB hd ⟨y3, y4, y5, y6, rfl, hfc, eb, eHc⟩ ec hr
        cases i with
        | succ i => simp at hd
        | zero =>
          rw [if_pos rfl] at hfc
          have hd' : d = d00 := by simpa using hd.symm
          subst hd'
          have Lc : Live Hc (pf :: ms) := (L.mono eHc).cons hfc
          obtain ⟨x, y, rx, ry, hg⟩ := g_tup2 (ma := 3) (mb := 4) cut_le (hr _ (ex_cut_in eb) Lc)
          refine hg _ _ ?_
          cases rx.int_of
          cases ry.int_of
          have eB' : Ex (cut H1 (pf :: ms)) (cut H' (pf :: ms)) := ((ex_cut eB).trans (ex_cut_in eb)).trans (ex_cut ec)
          have r1' := r1.mono eB'
          refine s_for (ms := pf :: ms) (src_enum (a_cons (e_call (a_cons (e_var rfl r1') (a_cons (e_var rfl (.int _)) a_nil)) (Lc.mono ec) ⟨W, 0, rfl, hW.pre, hp, ⟨_, hW.dist hp⟩, rfl⟩) a_nil))
            (fun B2 j σ' H' => ∃ (y5 y6 : Option V), σ' = [some v1, some v2, some (.ref pf), some (.int ((0 : Nat) : Int)), some (.int ((0 : Nat) : Int)), y5, y6] ∧ H' pf = some (.lst (fv W.n (W.dist 0) (List.range j))) ∧ Ex (cut B2 (pf :: ms)) H' ∧ Ex H H')
            (fun B2 eB2 => ⟨y5, y6, rfl, by rw [List.range_zero, fv_nil]; exact eB2 _ _ (ec _ _ hfc), cut_le, (eHc.trans ec).trans eB2⟩) (fun B i σ' H' _ _ ⟨_, _, _, _, h, _⟩ => h) ?_ ?_
          · rintro B2 j d v σ' Hd H'' eB2 hd ⟨y5, y6, rfl, hfd, eb2, eHd⟩ ed hr2
            obtain ⟨z, hz, rfl⟩ := enumD_get hd
            have hj : j < W.n := by
              have := (List.getElem?_eq_some_iff.mp hz).1
              simpa [nI] using this
            rw [dist_get hj] at hz
            cases hz
            have Ld : Live Hd (pf :: ms) := (L.mono eHd).cons hfd
            obtain ⟨x, y, rx, ry, hg⟩ := g_tup2 (ma := 5) (mb := 6) cut_le (hr2 _ (ex_cut_in eb2) Ld)
            refine hg _ _ ?_
            cases rx.int_of
            cases ry.int_of
            have hfd' := ed _ _ hfd
            have hnj : j ∉ List.range j := by simp
            have hg0 := fv_get (n := W.n) (d := W.dist 0) (ln := List.range j) hj
            rw [if_neg hnj] at hg0
            show tAsg _ _ _ _ _
            refine s_setV (ms := []) (k := j) (v0 := .int (W.dist 0 j : Int)) hfd' (e_if (b := true) (e_isN_t ((v_ixM (ms := []) (e_ref rfl) hfd' (e_var rfl (.int _)) hg0).ed (ms := []) .non)) (fun _ => ?_) (fun h => by cases h)) (e_ref rfl) (e_var rfl (.int _)) (by rw [fv_len]; exact hj) fun H3 e3 => ?_
            · have := EvP.val (ms := []) (e_I0 (g := fun i j => i + j) (σ := [some v1, some v2, some (.ref pf), some (.int ((0 : Nat) : Int)), some (.int ((0 : Nat) : Int)), some (.int (j : Int)), some (.int (W.dist 0 j : Int))]) (H := H'') (ta := tVar 4) (tb := tVar 6) (e_var rfl (.int _)) (e_var rfl (.int _)))
              rw [show (((0 : Nat) : Int)) + (W.dist 0 j : Int) = (W.dist 0 j : Int) by omega] at this
              exact this
            · rw [fv_set hj, ← List.range_succ]
              exact ⟨_, _, rfl, upd_same, ex_cut_upd ((eb2.trans ed).trans e3) (by simp), Ex.mut ((eHd.trans ed).trans e3) nf⟩
          · rintro B2 σ' H'' eB2 ⟨y5, y6, rfl, hfd, eb2, eHd⟩
            rw [enumD_len, dNs_len, List.length_map, List.length_range] at hfd
            refine ⟨_, _, _, _, rfl, by rw [if_neg (by omega)]; exact hfd, ?_, eHd⟩
            exact fun q o z => eb2 q o (by
              obtain ⟨z1, z2⟩ := cut_some z
              rw [cut_out z1]
              exact (ec.trans eB2) _ _ (eb q o z))
      · rintro B σ' H' eB ⟨y3, y4, y5, y6, rfl, hfc, eb, eHc⟩
        rw [if_neg (by simp), fv_all (fun x hx => List.mem_range.mpr hx)] at hfc
        refine s_ret (e_tupleL (ms := ms) (e_var (d := dIs (highL W)) rfl (.lst (by rw [cut_out (L.out nf)]; exact hfc) (by rw [high_nI]; exact RpAll.ints _))) (L.mono eHc)) fun v H7 e7 p => k v H7 (eHc.trans e7) p
abbrev s_lowest_of : Stmt := topS 36
theorem sc_lowest_of : FnScope ["web", "told", "height", "field"] ["web", "told"] (defScope s_lowest_of) := ⟨rfl, rfl, rfl, by decide +kernel, rfl, by decide +kernel, by decide +kernel⟩
def sp_lowest : Sp := PSm fun ds d => ∃ W : Web, ds = [dW W, .tuple [d00]] ∧ W.Ok ∧ d = dC (lowL W)
theorem ok_lowest_of (F : Fun K "lowest_of" "lowest_of" s_lowest_of f fd) (b : Blt mg) (c_highest_of : Dfn P w K mg base 3 "highest_of" ["web", "told"] sp_highest) : FnOk P w K mg base CX0 4 f fd ["web", "told"] sp_lowest := by
  refine F.ok sc_lowest_of (fun vs H Q E h => ?_) (fun cdv A outer s H vs Q E hr h => ?_)
  · obtain ⟨ds, d, ms, r, _, ⟨W, rfl, _⟩, _⟩ := h; exact r.len
  · obtain ⟨ds, d, ms, r, L, ⟨W, rfl, hW, rfl⟩, k⟩ := h
    have nd := sc_lowest_of.nd
    refine ⟨_, pss_one (ps_ret (pe_callTy (call_tupleK K rfl) (by rfl) b.tuple (by decide +kernel) (pa_cons (pe_lc (own := [("height", 2)]) rfl nd (pi_tupK K rfl (pe_own c_highest_of hr (pa_cons (pv 0) (pa_cons (pe_lc (own := [("field", 3), ("height", 2)]) rfl nd (pi_tupK K rfl (pv 1)) (blkOk_by (own := [("field", 3), ("height", 2)]) (N := ["web", "told", "height", "field"]) (sc := (defScope s_lowest_of)) (by decide +kernel)) (fun _ _ _ _ _ => pg_tupK (n := 2) K rfl rfl (pgs_cons (pg_name (i := 3) nd rfl (Or.inl rfl)) (pgs_cons (pg_name (i := 2) nd rfl (Or.inl rfl)) (pgs_nil)))) (fun _ _ _ _ _ => pts_nil) (fun _ _ _ _ _ => pe_tup (pa_cons (pv 3) (pa_cons (pe_un un_neg (pv 2)) pa_nil)))) pa_nil)))) (blkOk_by (own := [("height", 2)]) (N := ["web", "told", "height", "field"]) (sc := (defScope s_lowest_of)) (by decide +kernel)) (fun _ _ _ _ _ => pg_name (i := 2) nd rfl (Or.inl rfl)) (fun _ _ _ _ _ => pts_nil) (fun _ _ _ _ _ => pe_un un_neg (pv 2))) pa_nil))), ?_⟩
    obtain ⟨v1, v2, rfl, r1, r2⟩ := r.two
    have hn := hW.pre.few
    refine s_ret (e_is (e_tupleL (e_mapT (xs := List.range W.n) (enc := fun v => .int (W.dist 0 v : Int)) (fun v => .int (-(W.dist 0 v : Int))) (src_tup (e_is (e_call (d := dC (highL W)) (a_cons (e_var rfl r1) (a_cons (e_map (fun d => d) (src_tup (e_var rfl r2)) (by simp) L fun ms' d v H2 hd e2 ec L2 rv => ?_) a_nil)) L ⟨W, .inr rfl, hW, rfl⟩) ?_)) (by simp; omega) L fun ms' a v H2 ha e2 ec L2 rv => ⟨[some v1, some v2, some v, none], fun Q q => q, rfl, e_neg (e_var rfl rv)⟩) L) ?_) k
    · cases List.mem_singleton.mp hd
      obtain ⟨x, y, rx, ry, hg⟩ := g_tup2 (ma := 3) (mb := 2) cut_le rv
      exact ⟨[some v1, some v2, some y, some x], fun Q q => hg _ Q q, rfl, e_tup (a_cons (e_var rfl rx) (a_cons (e_neg (e_var rfl ry)) a_nil)) (by simp) L2⟩
    · show PyData.tuple _ = PyData.tuple _
      unfold highL
      rw [List.map_map]; rfl
    · show PyData.tuple _ = PyData.tuple _
      unfold lowL
      rw [List.map_map]; rfl
def dSome : Option (List Int) → PyData
  | some l => dIs l
  | none => .none
def sp_choices : Sp := fun vs H Q _ => ∃ (W : Web) (f : Nat) (lo hi : List Int) (hv : Nat → Int) (kvs : List (L2.Key × V)) (ph : Addr) (vn vl vh : V) (ms : List Addr), vs = [vn, .int (f : Int), .ref ph, vl, vh] ∧ Rp (cut H ms) vn (dNears W) ∧ Rp (cut H ms) vl (dC lo) ∧ Rp (cut H ms) vh (dC hi) ∧ Live H ms ∧ W.Pre ∧ f < W.n ∧ lo.length = W.n ∧ hi.length = W.n ∧
  (-100 ≤ atc lo f ∧ atc lo f ≤ atc hi f ∧ atc hi f ≤ 100) ∧ H ph = some (.dK kvs) ∧ (∀ u ∈ W.ahd f, valV kvs (Sum.inl (u : Int)) = some (.int (hv u))) ∧ ∀ v H', Ex H H' → Rp (cut H' ms) v (dIs (cand W lo hi f hv)) → Q v H'
theorem dSome_none {o : Option (List Int)} : isNoneD (dSome o) = o.isNone := by cases o <;> rfl
abbrev s_choices_at : Stmt := topS 41
theorem sc_choices_at : FnScope ["nears", "field", "here", "low", "high", "some", "near", "told", "height"] ["nears", "field", "here", "low", "high"] (defScope s_choices_at) := ⟨rfl, rfl, rfl, by decide +kernel, rfl, by decide +kernel, by decide +kernel⟩
theorem ok_choices_at (F : Fun K "choices_at" "choices_at" s_choices_at f fd) (b : Blt mg) : FnOk P w K mg base CX0 1 f fd ["nears", "field", "here", "low", "high"] sp_choices := by
  refine F.ok sc_choices_at (fun vs H Q E h => ?_) (fun cdv A outer s H vs Q E hr h => ?_)
  · obtain ⟨W, q, lo, hi, hv, kvs, ph, vn, vl, vh, ms, rfl, _⟩ := h; rfl
  · obtain ⟨W, q, lo, hi, hv, kvs, ph, vn, vl, vh, ms, rfl, rn, rl, rh, L, hW, hq, hlo, hhi, hb, hph, hkv, k⟩ := h
    have nd := sc_choices_at.nd
    refine ⟨_, pss_cons (ps_set (i := 5) nd rfl (Or.inl rfl) (pe_non)) (pss_cons (ps_for PassesOwn.never rfl (pi_listK K rfl (pe_ix (ix_listK K rfl) (pv 0) (pv 1) (fun _ _ => rfl))) (pg_name (i := 6) nd rfl (Or.inl rfl)) (pss_one (ps_if (pt_cmpR op_lt (pv 6) (pv 1) (nomark _)) (pss_cons (ps_set (i := 7) nd rfl (Or.inr rfl) (pe_lst (pa_cons (pe_op op_sub (pe_dget (hu_of hr) (pv 2) (pv 6) (fun _ _ => rfl)) (pe_int)) (pa_cons (pe_op op_add (pe_dget (hu_of hr) (pv 2) (pv 6) (fun _ _ => rfl)) (pe_int)) pa_nil)))) (pss_one (ps_set (i := 5) nd rfl (Or.inl rfl) (pe_ifExp (pt_cmpR op_isN (pv 5) pe_non (nomark _)) (pv 7) (pe_lc (own := [("height", 8)]) rfl nd (pi_listK K rfl (pv 5)) (blkOk_by (own := [("height", 8)]) (N := ["nears", "field", "here", "low", "high", "some", "near", "told", "height"]) (sc := (defScope s_choices_at)) (by decide +kernel)) (fun _ _ _ _ _ => pg_name (i := 8) nd rfl (Or.inl rfl)) (fun _ _ _ _ _ => pts_one (pt_cmpR (op_inK K rfl) (pv 8) (pv 7) rfl)) (fun _ _ _ _ _ => pv 8)))))) (pss_nil)))) (pss_cons (ps_if (pt_cmpR op_isN (pv 5) pe_non (nomark _)) (pss_one (ps_set (i := 5) nd rfl (Or.inl rfl) (pe_listRg3 rfl (by rfl) b.list (by rfl) b.range (pe_ix (ix_tupK K rfl) (pv 3) (pv 1) (fun _ _ => rfl)) (pe_op op_add (pe_ix (ix_tupK K rfl) (pv 4) (pv 1) (fun _ _ => rfl)) (pe_int)) (pe_int)))) (pss_nil)) (pss_one (ps_ret (pe_lc (own := [("height", 8)]) rfl nd (pi_listK K rfl (pv 5)) (blkOk_by (own := [("height", 8)]) (N := ["nears", "field", "here", "low", "high", "some", "near", "told", "height"]) (sc := (defScope s_choices_at)) (by decide +kernel)) (fun _ _ _ _ _ => pg_name (i := 8) nd rfl (Or.inl rfl)) (fun _ _ _ _ _ => pts_one (pt_chain op_le op_le (pe_ix (ix_tupK K rfl) (pv 3) (pv 1) (fun _ _ => rfl)) (pv 8) (pe_ix (ix_tupK K rfl) (pv 4) (pv 1) (fun _ _ => rfl)))) (fun _ _ _ _ _ => pv 8)))))), ?_⟩
    have hn := hW.few
    refine q_asg (e_non (ms := ms)) fun vs H1 e1 rs => ?_
    refine s_seqfor (ms := ms) (ds := (W.nb q).map dN) (src_list (e_is (e_ixL (d := dNs (W.nb q)) (e_var rfl (rp_keep e1 rn)) (e_var rfl (.int _)) (atI_nat (by rw [List.getElem?_map, nears_get hq]; rfl))) (by show PyData.list _ = PyData.list _; rw [dNs_eq])))
      (fun B j σ' H' => ∃ (vs : V) (y6 y7 : Option V), σ' = [some vn, some (.int (q : Int)), some (.ref ph), some vl, some vh, some vs, y6, y7, none] ∧ Rp (cut H' ms) vs (dSome ((((W.nb q).take j).filter fun u => decide (u < q)).foldl (cst hv) none)) ∧ Ex B H')
      (fun B eB => ⟨vs, none, none, rfl, rp_keep eB rs, Ex.refl _⟩) (fun B i σ' H' _ _ ⟨_, _, _, _, _, h⟩ => cut_le.trans h) ?_ ?_
    · rintro B i d v σ' Hc H' eB hd ⟨vs, y6, y7, rfl, rvs, eb⟩ ec hr
      rw [List.getElem?_map] at hd
      obtain ⟨u, hu, rfl⟩ := Option.map_eq_some_iff.mp hd
      have e0 := ((e1.trans eB).trans eb).trans ec
      have L' := L.mono e0
      cases (hr ms (ex_cut eb) (L.mono ((e1.trans eB).trans eb))).int_of
      have tk : (W.nb q).take (i + 1) = (W.nb q).take i ++ [u] := by rw [List.take_add_one, hu]; rfl
      have hum : u ∈ W.nb q := List.mem_of_getElem? hu
      show tIfS _ _ _ _ _ _
      refine s_if (b := decide (u < q)) (t_is (t_T (e_B0 (ms := ms) (e_var rfl (.int _)) (e_var rfl (.int _)))) (decide_eq_decide.mpr (by omega))) (fun hlt H2 e2 => ?_) (fun hge H2 e2 => ?_)
      · have hua : u ∈ W.ahd q := List.mem_filter.mpr ⟨hum, hlt⟩
        have hph2 := (e0.trans e2) _ _ hph
        have hval := hkv u hua
        refine q_asg (e_is (d2 := dIs [hv u - 1, hv u + 1]) (e_lst (ms := ms) (a_cons (e_I0 (e_dgetK (e_ref rfl) hph2 (e_var rfl (.int _)) hval (.int _)) e_int) (a_cons (e_I0 (e_dgetK (e_ref rfl) hph2 (e_var rfl (.int _)) hval (.int _)) e_int) a_nil)) (by simp) (L'.mono e2)) rfl) fun vt H3 e3 rt => ?_
        have e23 := e2.trans e3
        have rvs3 := rp_keep (ec.trans e23) rvs
        generalize ho : (((W.nb q).take i).filter fun u => decide (u < q)).foldl (cst hv) none = o at rvs3
        refine G.s_asg (P := fun v H5 => Rp (cut H5 ms) v (dSome (cst hv o u))) (e_if (b := o.isNone) (t_is (e_isN_t (e_var rfl rvs3)) dSome_none) (fun hn => ?_) (fun hs => ?_)) fun v4 H4 e4 p => ⟨v4, _, _, rfl, ?_, ((eb.trans ec).trans e23).trans e4⟩
        · refine e_is (e_var rfl rt) ?_
          cases o with
          | none => rfl
          | some l => cases hn
        · cases o with
          | none => cases hs
          | some l =>
            have hlen := cst_len _ none l (fun _ h => by cases h) ho
            refine e_is (e_lcT (xs := l) (enc := PyData.int) (fun x => decide (x ∈ [hv u - 1, hv u + 1])) PyData.int (src_list (e_var rfl rvs3)) (by omega) (L'.mono e23) fun ms' x v H5 hx e5 ec5 L5 rv => ⟨[some vn, some (.int (q : Int)), some (.ref ph), some vl, some vh, some vs, some (.int (u : Int)), some vt, some v], fun Q q => q, rfl, ?_, fun _ => e_var rfl rv⟩) rfl
            cases rv.int_of
            exact t_T (e_inI (e_var rfl (.int _)) (e_var rfl (rt.mono ec5)))
        · rw [tk, List.filter_append, List.filter_cons, if_pos hlt, List.filter_nil, List.foldl_append, ho]
          exact p
      · refine ⟨vs, _, _, rfl, ?_, (eb.trans ec).trans e2⟩
        rw [tk, List.filter_append, List.filter_cons, if_neg (by rw [hge]; decide), List.filter_nil, List.append_nil]
        exact rp_keep (ec.trans e2) rvs
    · rintro B σ' H' eB ⟨vs, y6, y7, rfl, rvs, eb⟩
      rw [List.length_map, List.take_length] at rvs
      have e0 := (e1.trans eB).trans eb
      have L' := L.mono e0
      have fin : ∀ (l : List Int) (H2 : Hp) (vs : V), Ex H H2 → l.length ≤ 1000 → Rp (cut H2 ms) vs (dIs l) → cand W lo hi q hv = (l.filter fun x => decide (atc lo q ≤ x) && decide (x ≤ atc hi q)) →
          ED ms (tLc (iList K (tVar 5)) (gName 8) (tTest (tChain (rI0 fun i j => .bl (decide (i ≤ j))) (rI0 fun i j => .bl (decide (i ≤ j))) (tOp (rIxT K) (tVar 3) (tVar 1)) (tVar 8) (tOp (rIxT K) (tVar 4) (tVar 1)))) (tVar 8) [8]) [some vn, some (.int (q : Int)), some (.ref ph), some vl, some vh, some vs, y6, y7, none] H2 (dIs (cand W lo hi q hv)) := fun l H2 vs e2 hl rvs hcand => by
        rw [hcand]
        refine e_lcT (xs := l) (enc := PyData.int) (fun x => decide (atc lo q ≤ x) && decide (x ≤ atc hi q)) PyData.int (src_list (e_var rfl rvs)) (by omega) (L.mono e2) fun ms' x v H5 hx e5 ec5 L5 rv => ⟨[some vn, some (.int (q : Int)), some (.ref ph), some vl, some vh, some vs, y6, y7, some v], fun Q q => q, rfl, ?_, fun _ => e_var rfl rv⟩
        cases rv.int_of
        exact t_T (e_chain (e_ixT (e_var rfl ((rp_keep e2 rl).mono ec5)) (e_var rfl (.int _)) (dC_at (by omega))) (e_var rfl (.int _)) (e_ixT (e_var rfl ((rp_keep e2 rh).mono ec5)) (e_var rfl (.int _)) (dC_at (by omega))))
      have hcd : cand W lo hi q hv = ((((W.ahd q).foldl (cst hv) none).getD (rg2 (atc lo q) (atc hi q))).filter fun x => decide (atc lo q ≤ x) && decide (x ≤ atc hi q)) := rfl
      have hah : (W.nb q).filter (fun u => decide (u < q)) = W.ahd q := rfl
      rw [hah] at rvs
      generalize ho : (W.ahd q).foldl (cst hv) none = o at rvs hcd
      refine q_if (b := o.isNone) (t_is (e_isN_t (ms := ms) (e_var rfl rvs)) dSome_none) (fun hn H2 e2 => ?_) (fun hs H2 e2 => ?_)
      · cases o with
        | some l => cases hn
        | none =>
          have e02 := e0.trans e2
          refine G.s_asg (e_listRg3 (ms := ms) (e_ixT (e_var rfl (rp_keep e02 rl)) (e_var rfl (.int _)) (dC_at (by omega))) (e_I0 (e_ixT (e_var rfl (rp_keep e02 rh)) (e_var rfl (.int _)) (dC_at (by omega))) e_int) e_int (rgc_pos (.inl rfl) (by omega) (by omega) (by omega)) (by omega) (L.mono e02)) fun v3 H3 e3 p => ?_
          have p' : Rp (cut H3 ms) v3 (dIs (rg2 (atc lo q) (atc hi q))) := by
            have e : (((atc hi q + 1) - atc lo q - 1) / 2 + 1).toNat = (atc hi q - atc lo q).toNat / 2 + 1 := by omega
            rw [e] at p
            show Rp _ _ (PyData.list _)
            unfold rg2
            rw [List.map_map]
            exact p
          exact s_ret (fin (rg2 (atc lo q) (atc hi q)) H3 v3 (e02.trans e3) (by unfold rg2; simp; omega) p' hcd) fun v H4 e4 p => k v H4 ((e02.trans e3).trans e4) p
      · cases o with
        | none => cases hs
        | some l => 
          exact s_ret (fin l H2 vs (e0.trans e2) (by have := cst_len _ none l (fun _ h => by cases h) ho; omega) (rp_keep e2 rvs) hcd) fun v H4 e4 p => k v H4 ((e0.trans e2).trans e4) p
end
end T

set_option Elab.async false
set_option linter.all false
set_option maxRecDepth 100000
set_option maxHeartbeats 4000000
namespace T
open PySem PySem.Spec PyProof.Rows L2 RZ G M GX
open Evl (Ex EvT et_or et_not et_and)
section
variable {P : Program} {w : World} {K : PySem.W.Frag} {mg : Str → Option Value} {base : Heap} {f : Addr} {fd : FuncData}
/-- the heights of all fields -/
def hl (W : Web) (hv : Nat → Int) : List Int := (List.range W.n).map hv
def fD (hv : Nat → Int) (ln : List Nat) : List (L2.Key × V) := ln.map fun (x : Nat) => ((Sum.inl (x : Int) : L2.Key), V.int (hv x))
def sp_spread : Sp := fun vs H Q _ => ∃ (W : Web) (hv : Nat → Int) (pd : Addr) (kvs : List (List L2.Key × V)) (vw : V) (ms : List Addr), vs = [vw, .int (hv 0), .ref pd] ∧ Rp (cut H ms) vw (dW W) ∧ Live H ms ∧ W.Ok ∧ H pd = some (.dT kvs) ∧
  (∀ u w : Nat, W.adj u w = true → valV kvs (kT [(u : Int), (w : Int)]) = some (.int (hv w - hv u))) ∧ ∀ v H', Ex H H' → Rp (cut H' ms) v (dC (hl W hv)) → Q v H'
abbrev s_spread : Stmt := topS 29
theorem sc_spread : FnScope ["web", "height", "steps", "nears", "found", "line", "at", "here", "near", "field"] ["web", "height", "steps"] (defScope s_spread) := ⟨rfl, rfl, rfl, by decide +kernel, rfl, by decide +kernel, by decide +kernel⟩
theorem ok_spread (F : Fun K "spread" "spread" s_spread f fd) (b : Blt mg) (c_nears_of : Dfn P w K mg base 1 "nears_of" ["web"] sp_nears) : FnOk P w K mg base CX0 2 f fd ["web", "height", "steps"] sp_spread := by
  refine F.ok sc_spread (fun vs H Q E h => ?_) (fun cdv A outer s H vs Q E hr h => ?_)
  · obtain ⟨W, hv, pd, kvs, vw, ms, rfl, _⟩ := h; rfl
  · obtain ⟨W, hv, pd, kvs, vw, ms, rfl, r1, L, hW, hpd, hkv, k⟩ := h
    have nd := sc_spread.nd
    refine ⟨_, pss_cons (ps_asg (pe_tup (pa_cons (pe_own c_nears_of hr (pa_cons (pv 0) pa_nil)) (pa_cons (pe_disp (pps_cons (pe_int) (pv 1) pps_nil) (by rfl) (by rfl) (fun z => by cases z) (by decide)) (pa_cons (pe_lst (pa_cons (pe_int) pa_nil)) pa_nil)))) (pg_tupK (n := 3) K rfl rfl (pgs_cons (pg_name (i := 3) nd rfl (Or.inl rfl)) (pgs_cons (pg_name (i := 4) nd rfl (Or.inr rfl)) (pgs_cons (pg_name (i := 5) nd rfl (Or.inl rfl)) (pgs_nil)))))) (pss_cons (ps_set (i := 6) nd rfl (Or.inl rfl) (pe_int)) (pss_cons (ps_while PassesOwn.never (pt_cmpR op_lt (pv 6) (pe_callB (call_lenK K rfl) (by rfl) b.len (by decide +kernel) (pa_cons (pv 5) pa_nil)) (nomark _)) (pss_cons (ps_set (i := 7) nd rfl (Or.inl rfl) (pe_ix (ix_listK K rfl) (pv 5) (pv 6) (fun _ _ => rfl))) (pss_cons (ps_for PassesOwn.never rfl (pi_listK K rfl (pe_ix (ix_listK K rfl) (pv 3) (pv 7) (fun _ _ => rfl))) (pg_name (i := 8) nd rfl (Or.inl rfl)) (pss_one (ps_if (pt_cmp (pc_dnotin (hu_of hr) (pv 8) (pv 4))) (pss_cons (ps_dput (hu_of hr) (pv 4) (pv 8) (pe_op op_add (pe_dget (hu_of hr) (pv 4) (pv 7) (fun _ _ => rfl)) (pe_dget (hu_of hr) (pv 2) (pe_tup (pa_cons (pv 7) (pa_cons (pv 8) pa_nil))) (fun _ _ => rfl))) rfl) (pss_one (ps_expr (pe_bm PySem.F.plainAttrs_list PySem.F.slot_list_append PySem.F.type_list_append mt_append (pv 5) (pa_cons (pv 8) pa_nil))))) (pss_nil)))) (pss_one (ps_aug (i := 6) nd rfl (Or.inl rfl) (pe_int) ip_add))))) (pss_one (ps_ret (pe_callTy (call_tupleK K rfl) (by rfl) b.tuple (by decide +kernel) (pa_cons (pe_lc (own := [("field", 9)]) rfl nd (pi_range1 (by rfl) b.range (pa_cons (pe_ix (ix_tupK K rfl) (pv 0) (pe_int) (fun _ _ => rfl)) pa_nil)) (blkOk_by (own := [("field", 9)]) (N := ["web", "height", "steps", "nears", "found", "line", "at", "here", "near", "field"]) (sc := (defScope s_spread)) (by decide +kernel)) (fun _ _ _ _ _ => pg_name (i := 9) nd rfl (Or.inl rfl)) (fun _ _ _ _ _ => pts_nil) (fun _ _ _ _ _ => pe_dget (hu_of hr) (pv 4) (pv 9) (fun _ _ => rfl))) pa_nil)))))), ?_⟩
    have hn := hW.pre.few
    have hp := hW.pre.pos
    have D := hW.dist hp
    refine e_call (a_cons (e_var rfl r1) a_nil) L ⟨W, rfl, hW.pre, rfl⟩ H (Ex.refl _) _ fun vn H1 e1 rn => ?_
    refine n_dispK (ms := ms) (e_int) (EvP.val (ms := ms) (e_var rfl (.int _))) H1 (Ex.refl _) _ fun vf H2 e2 ⟨pf, hvf, nf, hf⟩ => ?_
    subst hvf
    refine n_one v_int H2 (Ex.refl _) _ fun vl H3 e3 ⟨pl, hvl, nl, hl0⟩ => ?_
    subst hvl
    refine ⟨by show 3 ≤ sizeLine; exact G.sz (by omega), fun pt npt => ?_⟩
    refine ⟨pt, _, rfl, SqT.of upd_same, rfl, _, _, rfl, _, _, rfl, _, _, rfl, rfl, ?_⟩
    have e4 := Ex.new npt (o := .tup [vn, .ref pf, .ref pl])
    replace hl0 := e4 _ _ hl0
    have hfl : pf ≠ pl := ne_of_none hf nl
    have hf4 := e4 _ _ (e3 _ _ hf)
    generalize upd H3 pt (.tup [vn, .ref pf, .ref pl]) = H4 at *
    have e24 := (e2.trans e3).trans e4
    have rn4 : Rp (cut H4 (pf :: pl :: ms)) vn (dNears W) := rn.mono (cut_more (qs := [pf, pl]) (fun q hq => by
      rcases List.mem_cons.mp hq with rfl | hq
      · exact nf
      · cases List.mem_singleton.mp hq; exact Evl.fresh_back e2 nl) e24)
    have nfH : H pf = none := Evl.fresh_back e1 nf
    have nlH : H pl = none := Evl.fresh_back (e1.trans e2) nl
    have eH4 : Ex H H4 := e1.trans e24
    refine q_val (v_int (i := 0)) fun H5 e5 => ?_
    show tSeq _ _ _ [some vw, some (.int (hv 0)), some (.ref pd), some vn, some (.ref pf), some (.ref pl), some (.int 0), none, none, none] H5
    refine q_while (fun m σ' H' => ∃ (ln : List Nat) (a : Nat) (y7 y8 : Option V), m = W.n - a ∧ σ' = [some vw, some (.int (hv 0)), some (.ref pd), some vn, some (.ref pf), some (.ref pl), some (.int (a : Int)), y7, y8, none] ∧ Bfs W 0 (W.dist 0) ln a ∧
      H' pf = some (.dK (fD hv ln)) ∧ H' pl = some (.lst ((nI ln).map V.int)) ∧ Rp (cut H' (pf :: pl :: ms)) vn (dNears W) ∧ Ex H H') W.n ⟨[0], 0, none, none, rfl, rfl, Bfs.start D hW.pre hp, e5 _ _ hf4, e5 _ _ hl0, rp_keep e5 rn4, eH4.trans e5⟩ ?_
    rintro m σ' H' ⟨ln, a, y7, y8, rfl, rfl, B, hf, hl, rn, eH⟩
    refine ⟨_, t_T (e_B0 (e_var (ms := []) rfl (.int _)) (e_lenM (e_ref rfl) hl)), fun hlt H6 e6 => ?_, fun hge H6 e6 => ?_⟩
    · rw [List.length_map, nI_len] at hlt
      have hlt : (a : Int) < (ln.length : Int) := of_decide_eq_true hlt
      have ha : a < ln.length := by omega
      have hy : ln[a]? = some ln[a] := List.getElem?_eq_getElem ha
      generalize ln[a] = y at hy
      have hyn : y < W.n := B.lt y (List.mem_of_getElem? hy)
      have hlen : ln.length ≤ W.n := B.few
      refine ⟨_, fun _ _ h => h, ?_⟩
      have hl6 := e6 _ _ hl
      have hat : ((nI ln).map V.int)[a]? = some (.int (y : Int)) := by rw [List.getElem?_map, nI_get, hy]; rfl
      refine q_val (v_ixM (ms := []) (e_ref rfl) hl6 (e_var rfl (.int _)) hat) fun H7 e7 => ?_
      have e67 := e6.trans e7
      refine s_seqfor (ms := pf :: pl :: ms) (ds := (nI (W.nb y)).map PyData.int) (src_list (e_ixL (e_var rfl (rp_keep e67 rn)) (e_var rfl (.int _)) (atI_nat (by rw [List.getElem?_map, nears_get hyn]; rfl))))
        (fun H1 j σ' H' => ∃ (ln' : List Nat) (y8 : Option V), σ' = [some vw, some (.int (hv 0)), some (.ref pd), some vn, some (.ref pf), some (.ref pl), some (.int (a : Int)), some (.int (y : Int)), y8, none] ∧ BfsIn W 0 (W.dist 0) ln' a y j ∧
          H' pf = some (.dK (fD hv ln')) ∧ H' pl = some (.lst ((nI ln').map V.int)) ∧ Ex (cut H1 (pf :: pl :: ms)) H' ∧ Ex H H') ?_ (fun H1 j σ' H' _ _ ⟨_, _, _, _, _, _, h, _⟩ => h) ?_ ?_
      · exact fun H1 e1 => ⟨ln, y8, rfl, B.open hy, e1 _ _ (e67 _ _ hf), e1 _ _ (e7 _ _ hl6), cut_le, (eH.trans e67).trans e1⟩
      · rintro H1 j d v σ' Hc H' eH1 hd ⟨ln', y8, rfl, BI, hf', hl', eb, eHc⟩ ec hr
        rw [List.getElem?_map, nI_get] at hd
        obtain ⟨z, hz, rfl⟩ := Option.map_eq_some_iff.mp hd
        obtain ⟨u, hu, rfl⟩ := Option.map_eq_some_iff.mp hz
        have Lc : Live Hc (pf :: pl :: ms) := Live.app (qs := [pf, pl]) (fun q hq => by
          rcases List.mem_cons.mp hq with rfl | hq
          · exact ⟨_, hf'⟩
          · cases List.mem_singleton.mp hq; exact ⟨_, hl'⟩) (L.mono eHc)
        cases (hr _ (ex_cut_in eb) Lc).int_of
        have hadj := (mem_nb hW.pre).mp (List.mem_of_getElem? hu)
        have hf'' := ec _ _ hf'
        have hl'' := ec _ _ hl'
        have hpd' := (eHc.trans ec) _ _ hpd
        show tIfS _ _ _ _ _ _
        refine s_if (t_notInK (ms := []) (e_ref rfl) hf'' (e_var rfl (.int _))) (fun hnot H8 e8 => ?_) (fun hin H8 e8 => ?_)
        · have hm : u ∉ ln' := fun z => by
            unfold fD at hnot
            rw [valV_map_int, if_pos z] at hnot; cases hnot
          obtain ⟨hdu, BN⟩ := BI.new D hW.pre hu hm
          have hym : y ∈ ln' := List.mem_of_getElem? BI.y_at
          have hf8 := e8 _ _ hf''
          have hl8 := e8 _ _ hl''
          have hpd8 := e8 _ _ hpd'
          refine q_dputK (ms := []) (v0 := .int (hv u)) hf8 (EvP.val (ms := []) (e_is (e_I0 (e_dgetK (e_ref rfl) hf8 (e_var rfl (.int _)) (by unfold fD; rw [valV_map_int, if_pos hym]) (.int _)) (e_dgetT (ks := [(y : Int), (u : Int)]) (e_ref rfl) hpd8 (e_tup (a_cons (e_var rfl (.int _)) (a_cons (e_var rfl (.int _)) a_nil)) (by simp) Live.nil) (hkv y u hadj) (.int _))) (by congr 1; omega))) (e_ref rfl) (e_var rfl (.int _)) (by unfold fD; rw [List.length_map]; have := BI.few; omega) fun H9 e9 => ?_
          have hput : putK (fD hv ln') (Sum.inl (u : Int)) (.int (hv u)) = fD hv (ln' ++ [u]) := by
            unfold fD
            rw [putK_new _ (by rw [valV_map_int, if_neg hm]), List.map_append]; rfl
          rw [hput]
          have hl9 : (upd H9 pf (.dK (fD hv (ln' ++ [u])))) pl = some (.lst ((nI ln').map V.int)) := by rw [upd_ne hfl.symm]; exact e9 _ _ hl8
          refine s_app (ms := pf :: pl :: ms) (e_ref rfl) hl9 (by simp) (e_var rfl (.int _)) (by rw [List.length_map, nI_len]; have := BI.few; omega) fun v9 H10 e10 r10 => ?_
          cases r10.int_of
          refine ⟨ln' ++ [u], _, rfl, BN, ?_, ?_, ?_, ?_⟩
          · rw [upd_ne hfl]; exact e10 _ _ upd_same
          · rw [upd_same, nI_app, List.map_append]; rfl
          · exact ex_cut_upd ((ex_cut_upd (((eb.trans ec).trans e8).trans e9) (by simp)).trans e10) (by simp)
          · exact Ex.mut ((Ex.mut (((eHc.trans ec).trans e8).trans e9) nfH).trans e10) nlH
        · have hm : u ∈ ln' := Decidable.byContradiction fun z => by
            unfold fD at hin
            rw [valV_map_int, if_neg z] at hin; cases hin
          exact ⟨ln', _, rfl, BI.skip hu hm, e8 _ _ hf'', e8 _ _ hl'', (eb.trans ec).trans e8, (eHc.trans ec).trans e8⟩
      · rintro H1 σ' H' eH1 ⟨ln', y8, rfl, BI, hf', hl', eb, eHc⟩
        rw [List.length_map, nI_len] at BI
        refine G.s_aug rfl v_int fun H8 e8 => ?_
        have BC := BI.close D hW.pre
        refine ⟨W.n - (a + 1), by have := BI.few; have := BC.le; omega, ln', a + 1, _, y8, rfl, rfl, BC, e8 _ _ hf', e8 _ _ hl', ?_, eHc.trans e8⟩
        exact (rn.mono (ex_cut (e67.trans eH1))).mono ((ex_cut_in eb).trans (ex_cut e8))
    · rw [List.length_map, nI_len] at hge
      have hge := of_decide_eq_false hge
      have ea : a = ln.length := by have := B.le; omega
      subst ea
      have all := B.all D hW.pre
      have hf6 := e6 _ _ hf
      have eH6 := eH.trans e6
      have r16 := rp_keep eH6 r1
      refine s_ret (e_is (e_tupleL (e_mapT (ms := ms) (xs := List.range W.n) (enc := fun (k : Nat) => .int (0 + (k : Int))) (fun x => .int (hv x)) (src_rg1 (j := (W.n : Int)) (a_cons (e_ixT (e_var rfl r16) e_int rfl) a_nil) (by omega)) (by simp; omega) (L.mono eH6) fun ms' x v H7 hx e7 ec7 L7 rv => ⟨[some vw, some (.int (hv 0)), some (.ref pd), some vn, some (.ref pf), some (.ref pl), some (.int (ln.length : Int)), y7, y8, some v], fun Q q => q, rfl, ?_⟩) (L.mono eH6)) (by show PyData.tuple _ = PyData.tuple _; unfold T.hl; rw [List.map_map]; rfl)) fun v H7 e7 p => k v H7 (eH6.trans e7) p
      have hx' := List.mem_range.mp hx
      cases rv.int_of
      rw [Int.zero_add]
      exact e_dgetK (e_ref rfl) (e7 _ _ hf6) (e_var rfl (.int _)) (by unfold fD; rw [valV_map_int, if_pos (all x hx')]) (.int _)
def sp_laying : Sp := PSm fun ds d => ∃ (W : Web) (c : List Int) (hv : Nat → Int), ds = [dW W, dC c, .int (hv 0)] ∧ W.Ok ∧ Col W c ∧ Lift W c hv ∧ (-1000 ≤ hv 0 ∧ hv 0 ≤ 1000) ∧ d = dC (hl W hv)
theorem kT_inj {a b : List Int} (h : kT a = kT b) : a = b := (List.map_inj_right (fun _ _ z => Sum.inl.inj z)).mp h
abbrev s_laying_of : Stmt := topS 30
theorem sc_laying_of : FnScope ["web", "coloring", "height", "steps", "one", "other", "told"] ["web", "coloring", "height"] (defScope s_laying_of) := ⟨rfl, rfl, rfl, by decide +kernel, rfl, by decide +kernel, by decide +kernel⟩
theorem ok_laying_of (F : Fun K "laying_of" "laying_of" s_laying_of f fd) (b : Blt mg) (g : Glb mg) (c_need_coloring : Dfn P w K mg base 6 "need_coloring" ["web", "value"] (sp_iscol .none)) (c_is_in : Dfn P w K mg base 2 "is_in" ["value", "least", "most"] sp_is_in) (c_rounds_of : Dfn P w K mg base 3 "rounds_of" ["web"] sp_rounds) (c_turns_of : Dfn P w K mg base 2 "turns_of" ["coloring", "told"] sp_turns_of)
    (c_step : Dfn P w K mg base 1 "step" ["one", "other"] sp_step) (c_spread : Dfn P w K mg base 2 "spread" ["web", "height", "steps"] sp_spread) : FnOk P w K mg base CX0 7 f fd ["web", "coloring", "height"] sp_laying := by
  refine F.ok sc_laying_of (fun vs H Q E h => ?_) (fun cdv A outer s H vs Q E hr h => ?_)
  · obtain ⟨ds, d, ms, r, _, ⟨W, c, hv, rfl, _⟩, _⟩ := h; exact r.len
  · obtain ⟨ds, d, ms, r, L, ⟨W, c, hv, rfl, hW, hc, hL, hb, rfl⟩, k⟩ := h
    have nd := sc_laying_of.nd
    refine ⟨_, pss_cons (ps_expr (pe_own c_need_coloring hr (pa_cons (pv 0) (pa_cons (pv 1) pa_nil)))) (pss_cons (ps_if ((pw_or (pt_not (pt_val (pe_own c_is_in hr (pa_cons (pv 2) (pa_cons (pe_op op_sub (pe_ix (ix_tupK K rfl) (pv 0) (pe_int) (fun _ _ => rfl)) (pe_gi g.MOST_HEIGHT)) (pa_cons (pe_op op_sub (pe_gi g.MOST_HEIGHT) (pe_ix (ix_tupK K rfl) (pv 0) (pe_int) (fun _ _ => rfl))) pa_nil)))))) (pw_or1 (pt_cmpR op_ne (pe_op op_mod (pv 2) (pe_gi g.COLORS)) (pe_ix (ix_tupK K rfl) (pv 1) (pe_int) (fun _ _ => rfl)) (nomark _)))).pt) (pss_never) (pss_nil)) (pss_cons (ps_if (pt_not (pt_val (pe_callB (cr_allK K rfl rfl) (by rfl) b.all (by decide +kernel) (pa_cons (pe_lc (own := [("told", 6)]) rfl nd (pi_listK K rfl (pe_own c_rounds_of hr (pa_cons (pv 0) pa_nil))) (blkOk_by (own := [("told", 6)]) (N := ["web", "coloring", "height", "steps", "one", "other", "told"]) (sc := (defScope s_laying_of)) (by decide +kernel)) (fun _ _ _ _ _ => pg_name (i := 6) nd rfl (Or.inl rfl)) (fun _ _ _ _ _ => pts_nil) (fun _ _ _ _ _ => pe_cmpR op_eq (pe_own c_turns_of hr (pa_cons (pv 1) (pa_cons (pv 6) pa_nil))) (pe_int) (nomark _))) pa_nil)))) (pss_never) (pss_nil)) (pss_cons (ps_set (i := 3) nd rfl (Or.inl rfl) (pe_dnewT)) (pss_cons (ps_for PassesOwn.never rfl (pi_tupK K rfl (pe_ix (ix_tupK K rfl) (pv 0) (pe_int) (fun _ _ => rfl))) (pg_tupK (n := 2) K rfl rfl (pgs_cons (pg_name (i := 4) nd rfl (Or.inl rfl)) (pgs_cons (pg_name (i := 5) nd rfl (Or.inl rfl)) (pgs_nil)))) (pss_cons (ps_dput (hu_of hr) (pv 3) (pe_tup (pa_cons (pv 4) (pa_cons (pv 5) pa_nil))) (pe_own c_step hr (pa_cons (pe_ix (ix_tupK K rfl) (pv 1) (pv 4) (fun _ _ => rfl)) (pa_cons (pe_ix (ix_tupK K rfl) (pv 1) (pv 5) (fun _ _ => rfl)) pa_nil))) rfl) (pss_one (ps_dput (hu_of hr) (pv 3) (pe_tup (pa_cons (pv 5) (pa_cons (pv 4) pa_nil))) (pe_un un_neg (pe_dget (hu_of hr) (pv 3) (pe_tup (pa_cons (pv 4) (pa_cons (pv 5) pa_nil))) (fun _ _ => rfl))) rfl)))) (pss_one (ps_ret (pe_own c_spread hr (pa_cons (pv 0) (pa_cons (pv 2) (pa_cons (pv 3) pa_nil)))))))))), ?_⟩
    obtain ⟨v1, v2, v3, rfl, r1, r2, r3⟩ := r.three
    have hn := hW.pre.few
    have hp := hW.pre.pos
    have hE := hedges_few hW.pre
    cases r3.int_of
    refine q_drop (e_call (a_cons (e_var rfl r1) (a_cons (e_var rfl r2) a_nil)) L ⟨W, c, rfl, hW, hc, rfl⟩) fun _ H1 e1 _ => ?_
    replace r1 := rp_keep e1 r1
    replace r2 := rp_keep e1 r2
    have L1 := L.mono e1
    have h0 := hL.mod 0 (by omega)
    refine q_no (t_is (et_or (et_not (t_B (e_call (ms := ms) (a_cons (e_var rfl (.int _)) (a_cons (e_I0 (e_ixT (e_var rfl r1) e_int rfl) e_int) (a_cons (e_I0 e_int (e_ixT (e_var rfl r1) e_int rfl)) a_nil))) L1 ⟨hv 0, (W.n : Int) - 1000000, 1000000 - (W.n : Int), rfl, rfl⟩))) fun _ => t_T (e_ne (e_IC (e_var rfl (.int _)) e_int (by decide)) (e_ixT (e_var rfl r2) e_int (dC_at (f := 0) (by rw [hc.len]; omega))))) (by
        rw [h0]
        have a1 : (W.n : Int) - 1000000 ≤ hv 0 := by omega
        have a2 : hv 0 ≤ 1000000 - (W.n : Int) := by omega
        simp [a1, a2])) fun H2 e2 => ?_
    replace r1 := rp_keep e2 r1
    replace r2 := rp_keep e2 r2
    have Lb := L1.mono e2
    refine q_no (t_is (et_not (t_B (e_allD (xs := W.rnds) (f := fun r => decide (trn c r = 0)) (e_mapT (xs := W.rnds) (enc := dNs) (fun r => .bool (decide (trn c r = 0))) (src_list (e_call (a_cons (e_var rfl r1) a_nil) Lb ⟨W, rfl, hW, rfl⟩)) (by have := rnds_few hW.pre; omega) Lb fun ms' q v H2 hq e2 ec L2 rv => ⟨[some v1, some v2, some (.int (hv 0)), none, none, none, some v], fun Q q => q, rfl, ?_⟩)))) ?_) fun H3 e3 => ?_
    · obtain ⟨a, r', h1, h2, h3⟩ := hW.rnds_ok hq
      exact e_eq (e_call (a_cons (e_var rfl (r2.mono ec)) (a_cons (e_var rfl rv) a_nil)) L2 ⟨c, q, a, r', rfl, h1, fun x hx => by rw [hc.len]; exact h2 x hx, h3, rfl⟩) e_int
    · have := hW.trn_laid ⟨hv, hL⟩
      have e : (W.rnds.all fun r => decide (trn c r = 0)) = true := List.all_eq_true.mpr fun r hr => decide_eq_true (this r hr)
      rw [e]; rfl
    replace r1 := rp_keep e3 r1
    replace r2 := rp_keep e3 r2
    have L3 := Lb.mono e3
    refine q_asg n_newT fun vd H4 e4 ⟨pd, hvd, nd4, hd4⟩ => ?_
    subst hvd
    have cm : Ex (cut H3 ms) (cut H4 (pd :: ms)) := cut_more (qs := [pd]) (fun q hq => by cases List.mem_singleton.mp hq; exact nd4) e4
    have e14 := ((e1.trans e2).trans e3).trans e4
    have npdH : H pd = none := Evl.fresh_back ((e1.trans e2).trans e3) nd4
    have hstp : ∀ u w : Nat, W.adj u w = true → stp (atc c u) (atc c w) = hv w - hv u := fun u w a => stp_lift hW.pre hL u w a
    refine s_seqfor (ms := pd :: ms) (src_tup (e_ixT (e_var rfl (r1.mono cm)) e_int rfl))
      (fun B i σ' H' => ∃ (y4 y5 : Option V) (kvs : List (List L2.Key × V)), σ' = [some v1, some v2, some (.int (hv 0)), some (.ref pd), y4, y5, none] ∧ H' pd = some (.dT kvs) ∧ kvs.length ≤ 2 * i ∧
        (∀ u w : Nat, ((u, w) ∈ W.E.take i ∨ (w, u) ∈ W.E.take i) → valV kvs (kT [(u : Int), (w : Int)]) = some (.int (stp (atc c u) (atc c w)))) ∧ Ex (cut B (pd :: ms)) H' ∧ Ex H H') (fun B eB => ⟨none, none, [], rfl, eB _ _ hd4, by simp, fun u w h => by simp at h, cut_le, e14.trans eB⟩) (fun B i σ' H' _ _ ⟨_, _, _, _, _, _, _, h, _⟩ => h) ?_ ?_
    · rintro B i d v σ' Hc H' eB hd ⟨y4, y5, kvs, rfl, hdc, hlen, hval, eb, eHc⟩ ec hr
      rw [List.getElem?_map] at hd
      obtain ⟨p, hpi, rfl⟩ := Option.map_eq_some_iff.mp hd
      have hpE := List.mem_of_getElem? hpi
      have hb := hW.pre.bnd p hpE
      have hi : i < W.E.length := (List.getElem?_eq_some_iff.mp hpi).1
      have Lc : Live Hc (pd :: ms) := (L.mono eHc).cons hdc
      obtain ⟨x, y, rx, ry, hg⟩ := g_tup2 (ma := 4) (mb := 5) cut_le (hr _ (ex_cut_in eb) Lc)
      refine hg _ _ ?_
      cases rx.int_of
      cases ry.int_of
      have r2' := ((r2.mono cm).mono (ex_cut eB)).mono ((ex_cut_in eb).trans (ex_cut ec))
      have hd' := ec _ _ hdc
      have L' := Lc.mono ec
      have tk : W.E.take (i + 1) = W.E.take i ++ [p] := by rw [List.take_add_one, hpi]; rfl
      have c1 := hc.at (v := p.1) (by omega)
      have c2 := hc.at (v := p.2) hb.2
      have hne := hc.ne p.1 p.2 (decide_eq_true (.inl hpE))
      have hs := (stp_mod c1 c2 hne).2.1
      show tSeq _ _ _ [some v1, some v2, some (.int (hv 0)), some (.ref pd), some (.int (p.1 : Int)), some (.int (p.2 : Int)), none] H'
      refine q_dputT (ms := pd :: ms) (ks := [(p.1 : Int), (p.2 : Int)]) hd' (EvP.val (e_call (a_cons (e_ixT (e_var rfl r2') (e_var rfl (.int _)) (dC_at (by rw [hc.len]; omega))) (a_cons (e_ixT (e_var rfl r2') (e_var rfl (.int _)) (dC_at (by rw [hc.len]; omega))) a_nil)) L' ⟨_, _, rfl, rfl⟩)) (e_ref rfl) (e_tup (a_cons (e_var rfl (.int _)) (a_cons (e_var rfl (.int _)) a_nil)) (by simp) L') (by omega) fun H5 e5 => ?_
      refine s_dputT (ms := []) (ks := [(p.2 : Int), (p.1 : Int)]) (v0 := .int (- stp (atc c p.1) (atc c p.2))) upd_same (EvP.val (ms := []) (e_neg (e_dgetT (ks := [(p.1 : Int), (p.2 : Int)]) (e_ref rfl) upd_same (e_tup (a_cons (e_var rfl (.int _)) (a_cons (e_var rfl (.int _)) a_nil)) (by simp) Live.nil) (by rw [valV_put, if_pos rfl]) (.int _)))) (e_ref rfl) (e_tup (a_cons (e_var rfl (.int _)) (a_cons (e_var rfl (.int _)) a_nil)) (by simp) Live.nil) (by have := length_putK kvs (kT [(p.1 : Int), (p.2 : Int)]) (.int (stp (atc c p.1) (atc c p.2))); omega) fun H6 e6 => ?_
      refine ⟨_, _, _, rfl, upd_same, ?_, ?_, ?_, ?_⟩
      · have a1 := length_putK kvs (kT [(p.1 : Int), (p.2 : Int)]) (.int (stp (atc c p.1) (atc c p.2)))
        have a2 := length_putK (putK kvs (kT [(p.1 : Int), (p.2 : Int)]) (.int (stp (atc c p.1) (atc c p.2)))) (kT [(p.2 : Int), (p.1 : Int)]) (.int (- stp (atc c p.1) (atc c p.2)))
        omega
      · intro u w huw
        rw [valV_put, valV_put]
        by_cases z1 : kT [(u : Int), (w : Int)] = kT [(p.2 : Int), (p.1 : Int)]
        · rw [if_pos z1]
          have z := kT_inj z1
          simp at z
          have q1 : u = p.2 := by omega
          have q2 : w = p.1 := by omega
          subst q1 q2
          rw [hs]
        · rw [if_neg z1]
          by_cases z2 : kT [(u : Int), (w : Int)] = kT [(p.1 : Int), (p.2 : Int)]
          · rw [if_pos z2]
            have z := kT_inj z2
            simp at z
            have q1 : u = p.1 := by omega
            have q2 : w = p.2 := by omega
            subst q1 q2; rfl
          · rw [if_neg z2]
            refine hval u w ?_
            rw [tk] at huw
            rcases huw with h | h
            · rcases List.mem_append.mp h with h | h
              · exact .inl h
              · have := List.mem_singleton.mp h
                exact absurd (by rw [← this]) z2
            · rcases List.mem_append.mp h with h | h
              · exact .inr h
              · have := List.mem_singleton.mp h
                exact absurd (by rw [← this]) z1
      · exact ex_cut_upd ((ex_cut_upd ((eb.trans ec).trans e5) (by simp)).trans e6) (by simp)
      · exact Ex.mut ((Ex.mut ((eHc.trans ec).trans e5) npdH).trans e6) npdH
    · rintro B σ' H' eB ⟨y4, y5, kvs, rfl, hdc, hlen, hval, eb, eHc⟩
      rw [List.length_map, List.take_length] at hval
      have r1' : Rp (cut H' ms) v1 (dW W) := (((r1.mono cm).mono (ex_cut eB)).mono (ex_cut_in eb)).mono (cut_sub fun m hm => List.mem_cons_of_mem _ hm)
      refine s_retC (c_cons (e_var (ms := ms) rfl r1') fun w1 H5 e5 p1 => c_cons (e_ref (v := .int (hv 0)) rfl) fun w2 H6 e6 p2 => c_cons (e_ref (v := .ref pd) rfl) fun w3 H7 e7 p3 => c_nil ?_)
      subst p2 p3
      have e57 := (e5.trans e6).trans e7
      exact ⟨W, hv, pd, kvs, w1, ms, rfl, rp_keep (e6.trans e7) p1, L.mono (eHc.trans e57), hW, e57 _ _ hdc, fun u w a => by
        rw [hval u w (of_decide_eq_true a), hstp u w a], fun v H8 e8 p => k v H8 ((eHc.trans e57).trans e8) p⟩
end
end T

set_option linter.all false
/-! M6: the distance that the program reckons. -/
namespace M
open PySem G
def ab (i : Int) : Int := if i < 0 then -i else i
def cdF (W : Web) (g h : Nat → Int) (k : Nat) : Int := (((List.range W.n).map fun v => ab ((g v + 120) - (h v + (k : Int) * 3))).sum) / 2
def cdK (g h : Nat → Int) (k : Nat) : Bool := decide (((h 0 + (k : Int) * 3) - (g 0 + 120)) % 2 = 0)
def cst2 (F : Nat → Int) (o : Option Int) (k : Nat) : Option Int :=
  some (match o with
    | none => F k
    | some b => min b (F k))
def cdB (W : Web) (g h : Nat → Int) (m : Nat) : Option Int := ((List.range m).filter (cdK g h)).foldl (cst2 (cdF W g h)) none
def dOI : Option Int → PyData
  | some i => .int i
  | none => .none
theorem Lift.add {W : Web} {c : List Int} {h : Nat → Int} (L : Lift W c h) (k : Int) : Lift W c fun v => h v + k * 3 := ⟨fun u v a => by have := L.lay u v a; omega, fun v hv => by have := L.mod v hv; omega⟩
end M

set_option Elab.async false
set_option linter.all false
set_option maxRecDepth 100000
set_option maxHeartbeats 4000000
namespace T
open PySem PySem.Spec PyProof.Rows L2 RZ G M GX
open Evl (Ex EvT et_or et_not et_and)
section
variable {P : Program} {w : World} {K : PySem.W.Frag} {mg : Str → Option Value} {base : Heap} {f : Addr} {fd : FuncData}
def sp_cdist : Sp := PSm fun ds d => ∃ (W : Web) (c c' : List Int) (gv hv : Nat → Int), ds = [dW W, dC c, dC c'] ∧ W.Ok ∧ Col W c ∧ Col W c' ∧ Lift W c gv ∧ Lift W c' hv ∧ gv 0 = atc c 0 ∧ hv 0 = atc c' 0 ∧ d = dOI (cdB W gv hv 81)
theorem hl_ints {W : Web} {hv : Nat → Int} : dC (hl W hv) = .tuple ((List.range W.n).map fun v => .int (hv v)) := by
  show PyData.tuple _ = PyData.tuple _
  unfold hl
  rw [List.map_map]; rfl
theorem hl_len {W : Web} {hv : Nat → Int} : (hl W hv).length = W.n := by unfold hl; simp
theorem hl_at {W : Web} {hv : Nat → Int} {v : Nat} (h : v < W.n) : atc (hl W hv) v = hv v := by
  unfold atc hl
  rw [List.getD_eq_getElem?_getD, List.getElem?_map, List.getElem?_range h]; rfl
theorem dOI_none {o : Option Int} : isNoneD (dOI o) = o.isNone := by cases o <;> rfl
abbrev s_color_distance : Stmt := topS 33
theorem sc_color_distance : FnScope ["web", "one", "other", "told", "first", "best", "height", "there", "many", "line", "left", "right"] ["web", "one", "other"] (defScope s_color_distance) := ⟨rfl, rfl, rfl, by decide +kernel, rfl, by decide +kernel, by decide +kernel⟩
theorem ok_color_distance (F : Fun K "color_distance" "color_distance" s_color_distance f fd) (b : Blt mg) (g : Glb mg) (c_need_coloring : Dfn P w K mg base 6 "need_coloring" ["web", "value"] (sp_iscol .none)) (c_rounds_of : Dfn P w K mg base 3 "rounds_of" ["web"] sp_rounds) (c_turns_of : Dfn P w K mg base 2 "turns_of" ["coloring", "told"] sp_turns_of)
    (c_laying_of : Dfn P w K mg base 7 "laying_of" ["web", "coloring", "height"] sp_laying) : FnOk P w K mg base CX0 8 f fd ["web", "one", "other"] sp_cdist := by
  refine F.ok sc_color_distance (fun vs H Q E h => ?_) (fun cdv A outer s H vs Q E hr h => ?_)
  · obtain ⟨ds, d, ms, r, _, ⟨W, c, c', gv, hv, rfl, _⟩, _⟩ := h; exact r.len
  · obtain ⟨ds, d, ms, r, L, ⟨W, c, c', gv, hv, rfl, hW, hc, hc', hL, hL', hg0, hh0, rfl⟩, k⟩ := h
    have nd := sc_color_distance.nd
    refine ⟨_, pss_cons (ps_expr (pe_own c_need_coloring hr (pa_cons (pv 0) (pa_cons (pv 1) pa_nil)))) (pss_cons (ps_expr (pe_own c_need_coloring hr (pa_cons (pv 0) (pa_cons (pv 2) pa_nil)))) (pss_cons (ps_for PassesOwn.never rfl (pi_tupK K rfl (pe_tup (pa_cons (pv 1) (pa_cons (pv 2) pa_nil)))) (pg_name (i := 3) nd rfl (Or.inr rfl)) (pss_one (ps_if (pt_not (pt_val (pe_callB (cr_allK K rfl rfl) (by rfl) b.all (by decide +kernel) (pa_cons (pe_lc (own := [("line", 9)]) rfl nd (pi_listK K rfl (pe_own c_rounds_of hr (pa_cons (pv 0) pa_nil))) (blkOk_by (own := [("line", 9)]) (N := ["web", "one", "other", "told", "first", "best", "height", "there", "many", "line", "left", "right"]) (sc := (defScope s_color_distance)) (by decide +kernel)) (fun _ _ _ _ _ => pg_name (i := 9) nd rfl (Or.inl rfl)) (fun _ _ _ _ _ => pts_nil) (fun _ _ _ _ _ => pe_cmpR op_eq (pe_own c_turns_of hr (pa_cons (pv 3) (pa_cons (pv 9) pa_nil))) (pe_int) (nomark _))) pa_nil)))) (pss_never) (pss_nil)))) (pss_cons (ps_par (i := 4) (j := 5) rfl nd rfl rfl (by decide) rfl rfl (pa_cons (pe_own c_laying_of hr (pa_cons (pv 0) (pa_cons (pv 1) (pa_cons (pe_op op_add (pe_ix (ix_tupK K rfl) (pv 1) (pe_int) (fun _ _ => rfl)) (pe_int)) pa_nil)))) (pa_cons (pe_non) pa_nil)) (by rfl)) (pss_cons (ps_for PassesOwn.never rfl (pi_range3 (by rfl) b.range (pa_cons (pe_ix (ix_tupK K rfl) (pv 2) (pe_int) (fun _ _ => rfl)) (pa_cons (pe_op op_add (pe_ix (ix_tupK K rfl) (pv 2) (pe_int) (fun _ _ => rfl)) (pe_int)) (pa_cons (pe_gi g.COLORS) pa_nil)))) (pg_name (i := 6) nd rfl (Or.inl rfl)) (pss_one (ps_if (pt_cmpR op_eq (pe_op op_mod (pe_op op_sub (pv 6) (pe_ix (ix_tupK K rfl) (pv 4) (pe_int) (fun _ _ => rfl))) (pe_int)) (pe_int) (nomark _)) (pss_cons (ps_set (i := 7) nd rfl (Or.inl rfl) (pe_own c_laying_of hr (pa_cons (pv 0) (pa_cons (pv 2) (pa_cons (pv 6) pa_nil))))) (pss_cons (ps_set (i := 8) nd rfl (Or.inl rfl) (pe_op op_fdiv (pe_callB (cr_sumK K rfl rfl) (by rfl) b.sum (by decide +kernel) (pa_cons (pe_lc (own := [("left", 10), ("right", 11)]) rfl nd (pi_zipK K rfl (by rfl) b.zip (pa_cons (pv 4) (pa_cons (pv 7) pa_nil))) (blkOk_by (own := [("left", 10), ("right", 11)]) (N := ["web", "one", "other", "told", "first", "best", "height", "there", "many", "line", "left", "right"]) (sc := (defScope s_color_distance)) (by decide +kernel)) (fun _ _ _ _ _ => pg_tupK (n := 2) K rfl rfl (pgs_cons (pg_name (i := 10) nd rfl (Or.inl rfl)) (pgs_cons (pg_name (i := 11) nd rfl (Or.inl rfl)) (pgs_nil)))) (fun _ _ _ _ _ => pts_nil) (fun _ _ _ _ _ => pe_callB call_abs (by rfl) b.abs (by decide +kernel) (pa_cons (pe_op op_sub (pv 10) (pv 11)) pa_nil))) pa_nil)) (pe_int))) (pss_one (ps_set (i := 5) nd rfl (Or.inl rfl) (pe_ifExp (pt_cmpR op_isN (pv 5) pe_non (nomark _)) (pv 8) (pe_callB (call_min2 rfl) (by rfl) b.min (by decide +kernel) (pa_cons (pv 5) (pa_cons (pv 8) pa_nil)))))))) (pss_nil)))) (pss_one (ps_ret (pv 5))))))), ?_⟩
    obtain ⟨v1, v2, v3, rfl, r1, r2, r3⟩ := r.three
    have hn := hW.pre.few
    have hp := hW.pre.pos
    have c0 := hc.at hp
    have c0' := hc'.at hp
    refine q_drop (e_call (a_cons (e_var rfl r1) (a_cons (e_var rfl r2) a_nil)) L ⟨W, c, rfl, hW, hc, rfl⟩) fun _ H1 e1 _ => ?_
    refine q_drop (e_call (a_cons (e_var rfl (rp_keep e1 r1)) (a_cons (e_var rfl (rp_keep e1 r3)) a_nil)) (L.mono e1) ⟨W, c', rfl, hW, hc', rfl⟩) fun _ H2 e2 _ => ?_
    have e12 := e1.trans e2
    replace r1 := rp_keep e12 r1
    replace r2 := rp_keep e12 r2
    replace r3 := rp_keep e12 r3
    have L2' := L.mono e12
    refine s_seqfor (ms := ms) (ds := [dC c, dC c']) (src_tup (e_tup (a_cons (e_var rfl r2) (a_cons (e_var rfl r3) a_nil)) (by simp) L2'))
      (fun B i σ' H' => ∃ y3 : Option V, σ' = [some v1, some v2, some v3, y3, none, none, none, none, none, none, none, none] ∧ Ex B H') (fun B eB => ⟨none, rfl, Ex.refl _⟩) (fun B i σ' H' _ _ ⟨_, _, h⟩ => cut_le.trans h) ?_ ?_
    · rintro B i d v σ' Hc H' eB hd ⟨y3, rfl, eb⟩ ec hr
      have e0 := (eB.trans eb).trans ec
      have L' := L2'.mono e0
      have rv := hr ms (ex_cut eb) (L2'.mono (eB.trans eb))
      obtain ⟨q, hq, hqc, hql⟩ : ∃ q : List Int, d = dC q ∧ Col W q ∧ Laid W q := by
        cases i with
        | zero => exact ⟨c, by simpa using hd.symm, hc, gv, hL⟩
        | succ i =>
          cases i with
          | zero => exact ⟨c', by simpa using hd.symm, hc', hv, hL'⟩
          | succ i => simp at hd
      subst hq
      show tIfS _ _ _ _ _ _
      refine s_if (b := false) (t_is (et_not (t_B (e_allD (ms := ms) (xs := W.rnds) (f := fun r => decide (trn q r = 0)) (e_mapT (xs := W.rnds) (enc := dNs) (fun r => .bool (decide (trn q r = 0))) (src_list (e_call (a_cons (e_var rfl (rp_keep e0 r1)) a_nil) L' ⟨W, rfl, hW, rfl⟩)) (by have := rnds_few hW.pre; omega) L' fun ms' l v6 H6 hl e6 ec6 L6 rv6 => ⟨[some v1, some v2, some v3, some v, none, none, none, none, none, some v6, none, none], fun Q q => q, rfl, ?_⟩)))) ?_) (fun h => by cases h) fun _ H3 e3 => ⟨_, rfl, (eb.trans ec).trans e3⟩
      · obtain ⟨a, r', h1, h2, h3⟩ := hW.rnds_ok hl
        exact e_eq (e_call (a_cons (e_var rfl (rv.mono ec6)) (a_cons (e_var rfl rv6) a_nil)) L6 ⟨q, l, a, r', rfl, h1, fun x hx => by rw [hqc.len]; exact h2 x hx, h3, rfl⟩) e_int
      · have := hW.trn_laid hql
        have e : (W.rnds.all fun r => decide (trn q r = 0)) = true := List.all_eq_true.mpr fun r hr => decide_eq_true (this r hr)
        rw [e]; rfl
    · rintro B σ' H' eB ⟨y3, rfl, eb⟩
      have e0 := eB.trans eb
      replace r1 := rp_keep e0 r1
      replace r2 := rp_keep e0 r2
      replace r3 := rp_keep e0 r3
      have L3 := L2'.mono e0
      have eH' := e12.trans e0
      refine q_par (e_call (ms := ms) (a_cons (e_var rfl r1) (a_cons (e_var rfl r2) (a_cons (e_is (d2 := .int ((fun v => gv v + 40 * 3) 0)) (e_I0 (e_ixT (e_var rfl r2) e_int (dC_at (f := 0) (by rw [hc.len]; omega))) e_int) (by show PyData.int (atc c 0 + 120) = PyData.int (gv 0 + 40 * 3); rw [hg0]; rfl)) a_nil))) L3 ⟨W, c, fun v => gv v + 40 * 3, rfl, hW, hc, hL.add 40, by show -1000 ≤ gv 0 + 40 * 3 ∧ gv 0 + 40 * 3 ≤ 1000; omega, rfl⟩) (fun v H3 e3 p => e_non (ms := ms)) fun vf vb H3 H4 e3 rf e4 rb => ?_
      have e34 := e3.trans e4
      replace rf := rp_keep e4 rf
      replace r1 := rp_keep e34 r1
      replace r2 := rp_keep e34 r2
      replace r3 := rp_keep e34 r3
      have L4 := L3.mono e34
      have eH4 := eH'.trans e34
      have rg : RgC (atc c' 0) (atc c' 0 + 243) 3 81 := by
        have := rgc_pos (i := atc c' 0) (j := atc c' 0 + 243) (c := 3) (.inr rfl) (by omega) (by omega) (by omega)
        rw [show ((atc c' 0 + 243 - atc c' 0 - 1) / 3 + 1).toNat = 81 by omega] at this
        exact this
      show tSeq _ _ _ [some v1, some v2, some v3, y3, some vf, some vb, none, none, none, none, none, none] H4
      refine s_seqfor (ms := ms) (src_rg3 (a_cons (e_ixT (e_var rfl r3) e_int (dC_at (f := 0) (by rw [hc'.len]; omega))) (a_cons (e_I0 (e_ixT (e_var rfl r3) e_int (dC_at (f := 0) (by rw [hc'.len]; omega))) e_int) (a_cons e_int a_nil))) rg)
        (fun B i σ' H' => ∃ (vb : V) (y6 y7 y8 : Option V), σ' = [some v1, some v2, some v3, y3, some vf, some vb, y6, y7, y8, none, none, none] ∧ Rp (cut H' ms) vb (dOI (cdB W gv hv i)) ∧ Ex B H')
        (fun B eB => ⟨vb, none, none, none, rfl, rp_keep eB rb, Ex.refl _⟩) (fun B i σ' H' _ _ ⟨_, _, _, _, _, _, h⟩ => cut_le.trans h) ?_ ?_
      · rintro B i d v σ' Hc H' eB hd ⟨vb, y6, y7, y8, rfl, rvb, eb⟩ ec hr
        obtain ⟨hi, rfl⟩ := rgC_get hd
        have e5 := (eB.trans eb).trans ec
        have L5 := L4.mono e5
        cases (hr ms (ex_cut eb) (L4.mono (eB.trans eb))).int_of
        have hB : cdB W gv hv (i + 1) = if cdK gv hv i = true then cst2 (cdF W gv hv) (cdB W gv hv i) i else cdB W gv hv i := by
          unfold cdB
          rw [List.range_succ, List.filter_append, List.foldl_append, List.filter_cons]
          split <;> rfl
        show tIfS _ _ _ _ _ _
        refine s_if (b := cdK gv hv i) (t_is (t_T (e_eq (ms := ms) (e_IC (e_I0 (e_var rfl (.int _)) (e_ixT (e_var rfl (rp_keep e5 rf)) e_int (dC_at (f := 0) (by rw [hl_len]; omega)))) e_int (by decide)) e_int)) ?_) (fun hk H6 e6 => ?_) (fun hk H6 e6 => ?_)
        · unfold cdK
          rw [hl_at hp, hh0]; rfl
        · have e56 := e5.trans e6
          have L6 := L5.mono e6
          refine q_asg (e_call (ms := ms) (a_cons (e_var rfl (rp_keep e56 r1)) (a_cons (e_var rfl (rp_keep e56 r3)) (a_cons (e_is (d2 := .int ((fun v => hv v + (i : Int) * 3) 0)) (e_var rfl (.int _)) (by show PyData.int (atc c' 0 + (i : Int) * 3) = PyData.int (hv 0 + (i : Int) * 3); rw [hh0])) a_nil))) L6 ⟨W, c', fun v => hv v + (i : Int) * 3, rfl, hW, hc', hL'.add i, by show -1000 ≤ hv 0 + (i : Int) * 3 ∧ hv 0 + (i : Int) * 3 ≤ 1000; omega, rfl⟩) fun vt H7 e7 rt => ?_
          have e57 := e56.trans e7
          have L7 := L6.mono e7
          refine q_asg (EvP.val (ms := ms) (e_IC (e_sum (ns := (List.range W.n).map fun v => ab ((gv v + 120) - (hv v + (i : Int) * 3))) (e_is (e_mapT (xs := List.range W.n) (enc := fun v => .tuple [.int (gv v + 40 * 3), .int (hv v + (i : Int) * 3)]) (fun v => .int (ab ((gv v + 120) - (hv v + (i : Int) * 3)))) ?_ (by simp; omega) L7 fun ms' a v8 H8 ha e8 ec8 L8 rv8 => ?_) (by rw [List.map_map]; rfl))) e_int ⟨by decide, by decide⟩)) fun vm H8 e8 hm => ?_
          · have ez : zipD ((hl W fun v => gv v + 40 * 3).map PyData.int) ((hl W fun v => hv v + (i : Int) * 3).map PyData.int) = (List.range W.n).map fun v => PyData.tuple [.int (gv v + 40 * 3), .int (hv v + (i : Int) * 3)] := by
              unfold zipD hl
              rw [List.map_map, List.map_map, List.zip_map', List.map_map]; rfl
            rw [← ez]
            exact src_zipAT (a_cons (e_var rfl (rp_keep e57 rf)) (a_cons (e_var rfl rt) a_nil))
          · obtain ⟨x, y, rx, ry, hg⟩ := g_tup2 (ma := 10) (mb := 11) cut_le rv8
            cases rx.int_of
            cases ry.int_of
            exact ⟨_, fun Q q => hg _ Q q, rfl, e_abs (e_I0 (e_var rfl (.int _)) (e_var rfl (.int _)))⟩
          subst hm
          have e58 := e57.trans e8
          have rvb8 := rp_keep (((ec.trans e6).trans e7).trans e8) rvb
          generalize ho : cdB W gv hv i = o at rvb8 hB
          refine G.s_asg (P := fun v H9 => Rp (cut H9 ms) v (dOI (cst2 (cdF W gv hv) o i))) (e_if (b := o.isNone) (t_is (e_isN_t (e_var rfl rvb8)) dOI_none) (fun hn => ?_) (fun hs => ?_)) fun v9 H9 e9 p => ⟨v9, _, _, _, rfl, ?_, ((((eb.trans ec).trans e6).trans e7).trans e8).trans e9⟩
          · cases o with
            | some l => cases hn
            | none => exact e_var (d := dOI (some (cdF W gv hv i))) rfl (.int _)
          · cases o with
            | none => cases hs
            | some l => exact e_min2 (e_var (d := .int l) rfl rvb8) (e_var rfl (.int _))
          · rw [hB, if_pos hk]; exact p
        · refine ⟨vb, _, _, _, rfl, ?_, (eb.trans ec).trans e6⟩
          rw [hB, if_neg (by rw [hk]; decide)]
          exact rp_keep (ec.trans e6) rvb
      · rintro B σ' H' eB ⟨vb, y6, y7, y8, rfl, rvb, eb⟩
        rw [rgC_len] at rvb
        exact s_ret (e_var rfl rvb) fun v H7 e7 p => k v H7 (eH4.trans ((eB.trans eb).trans e7)) p
end
end T

set_option linter.all false
/-! M7: counting by tables. -/
namespace M
open PySem L2 G GX
/-! ### tables from tuples to counts -/
abbrev kE (p : List Int × Int) : List L2.Key × V := (kT p.1, V.int p.2)
def addI : List (List Int × Int) → List Int → Int → List (List Int × Int)
  | [], key, m => [(key, m)]
  | p :: r, key, m => if p.1 = key then (p.1, p.2 + m) :: r else p :: addI r key m
def getI : List (List Int × Int) → List Int → Int
  | [], _ => 0
  | p :: r, key => if p.1 = key then p.2 else getI r key
def wsum (φ : List Int → Int) (D : List (List Int × Int)) : Int := (D.map fun p => p.2 * φ p.1).sum
theorem kT_in {a b : List Int} : kT a = kT b ↔ a = b := ⟨fun h => (List.map_inj_right (fun _ _ z => Sum.inl.inj z)).mp h, fun h => by rw [h]⟩
theorem val_kE {key : List Int} : ∀ D : List (List Int × Int), (valV (D.map kE) (kT key)).getD (.int 0) = .int (getI D key)
  | [] => rfl
  | p :: r => by
    rw [List.map_cons, getI]
    by_cases e : p.1 = key
    · rw [valV_pos (p := kE p) (kT_in.mpr e), if_pos e]; rfl
    · rw [valV_neg (p := kE p) (fun z => e (kT_in.mp z)), if_neg e]; exact val_kE r
theorem addI_new {key : List Int} {m : Int} : ∀ {D : List (List Int × Int)}, key ∉ D.map (·.1) → addI D key m = D ++ [(key, m)] ∧ getI D key = 0 ∧ valV (D.map kE) (kT key) = none
  | [], _ => ⟨rfl, rfl, rfl⟩
  | p :: r, h => by
    rw [List.map_cons, List.mem_cons, not_or] at h
    have ih := addI_new (m := m) h.2
    rw [addI, if_neg (fun z => h.1 z.symm), ih.1, getI, if_neg (fun z => h.1 z.symm), List.map_cons, valV_neg (p := kE p) (fun z => h.1 (kT_in.mp z).symm)]
    exact ⟨rfl, ih.2⟩
theorem addI_old {key : List Int} {m y : Int} : ∀ {D : List (List Int × Int)}, (D.map (·.1)).Nodup → key ∈ D.map (·.1) → y = getI D key + m →
    (D.map kE).map (fun kv => if kv.1 = kT key then (kv.1, V.int y) else kv) = (addI D key m).map kE ∧ ((D.map kE).any fun kv => decide (kv.1 = kT key)) = true ∧ (addI D key m).map (·.1) = D.map (·.1)
  | [], _, h, _ => by cases h
  | p :: r, hn, h, hy => by
    rw [List.map_cons] at hn h
    obtain ⟨n1, n2⟩ := List.nodup_cons.mp hn
    by_cases e : p.1 = key
    · subst e
      rw [getI, if_pos rfl] at hy
      rw [addI, if_pos rfl]
      refine ⟨?_, by simp, rfl⟩
      rw [List.map_cons, List.map_cons, List.map_cons, if_pos rfl, hy]
      congr 1
      rw [List.map_map]
      refine List.map_congr_left fun q hq => ?_
      show (if kT q.1 = kT p.1 then _ else _) = _
      rw [if_neg (fun z => n1 (by rw [← kT_in.mp z]; exact List.mem_map_of_mem hq))]
    · rcases List.mem_cons.mp h with h | h
      · exact absurd h.symm e
      · rw [getI, if_neg e] at hy
        obtain ⟨a1, a2, a3⟩ := addI_old n2 h hy
        rw [addI, if_neg e]
        refine ⟨?_, ?_, ?_⟩
        · rw [List.map_cons, List.map_cons, List.map_cons, if_neg (fun z => e (kT_in.mp z)), a1]
        · rw [List.map_cons, List.any_cons, a2, Bool.or_true]
        · rw [List.map_cons, List.map_cons, a3]
theorem put_kE {key : List Int} {m : Int} {D : List (List Int × Int)} (hn : (D.map (·.1)).Nodup) : putK (D.map kE) (kT key) (.int (getI D key + m)) = (addI D key m).map kE := by
  by_cases h : key ∈ D.map (·.1)
  · obtain ⟨a1, a2, _⟩ := addI_old (m := m) hn h rfl
    unfold putK
    rw [if_pos a2, a1]
  · obtain ⟨a1, a2, a3⟩ := addI_new (m := m) h
    rw [putK_new _ a3, a1, a2, List.map_append, Int.zero_add]; rfl
theorem addI_keys {key : List Int} {m : Int} {D : List (List Int × Int)} (hn : (D.map (·.1)).Nodup) : ((addI D key m).map (·.1)).Nodup ∧ ∀ k ∈ (addI D key m).map (·.1), k ∈ D.map (·.1) ∨ k = key := by
  by_cases h : key ∈ D.map (·.1)
  · obtain ⟨_, _, a3⟩ := addI_old (m := m) hn h rfl
    rw [a3]
    exact ⟨hn, fun k hk => .inl hk⟩
  · obtain ⟨a1, _, _⟩ := addI_new (m := m) h
    rw [a1, List.map_append]
    refine ⟨List.nodup_append.mpr ⟨hn, by simp, fun x hx z hz => ?_⟩, fun k hk => ?_⟩
    · have : z = key := by simpa using hz
      rw [this]; exact fun q => h (q ▸ hx)
    · rcases List.mem_append.mp hk with hk | hk
      · exact .inl hk
      · exact .inr (by simpa using hk)
theorem wsum_addI {φ : List Int → Int} {key : List Int} {m : Int} : ∀ {D : List (List Int × Int)}, wsum φ (addI D key m) = wsum φ D + m * φ key
  | [] => by unfold addI wsum; simp
  | p :: r => by
    rw [addI]
    by_cases e : p.1 = key
    · subst e
      rw [if_pos rfl]
      unfold wsum
      rw [List.map_cons, List.map_cons, List.sum_cons, List.sum_cons]
      show (p.2 + m) * φ p.1 + _ = _
      rw [Int.add_mul]; omega
    · rw [if_neg e]
      have ih := wsum_addI (φ := φ) (key := key) (m := m) (D := r)
      unfold wsum at ih ⊢
      rw [List.map_cons, List.map_cons, List.sum_cons, List.sum_cons, ih]; omega
/-! ### what is counted -/
/-- the fields kept ahead of field k -/
def Web.kp (W : Web) : Nat → List Nat
  | 0 => []
  | k + 1 => W.kept k
def Web.proj (W : Web) (k : Nat) (c : List Int) : List Int := (W.kp k).map (atc c)
/-- lists begun, field by field; cf: what may stand at field k -/
def parts (cf : Nat → (Nat → Int) → List Int) : Nat → List (List Int)
  | 0 => [[]]
  | k + 1 => (parts cf k).flatMap fun c => (cf k (atc c)).map fun x => c ++ [x]
/-- cf looks at the neighbors ahead alone -/
def Local (W : Web) (cf : Nat → (Nat → Int) → List Int) : Prop := ∀ k f g, (∀ u ∈ W.ahd k, f u = g u) → cf k f = cf k g
theorem parts_len {cf : Nat → (Nat → Int) → List Int} : ∀ {k : Nat} {c : List Int}, c ∈ parts cf k → c.length = k
  | 0, c, h => by rw [List.mem_singleton.mp h]; rfl
  | k + 1, c, h => by
    obtain ⟨d, hd, hc⟩ := List.mem_flatMap.mp h
    obtain ⟨x, _, rfl⟩ := List.mem_map.mp hc
    rw [List.length_append, parts_len hd]; rfl
theorem parts_few {cf : Nat → (Nat → Int) → List Int} {b : Nat} (h : ∀ k f, (cf k f).length ≤ b) : ∀ k, (parts cf k).length ≤ b ^ k
  | 0 => Nat.le_refl _
  | k + 1 => by
    have ih := parts_few h k
    have key : ∀ l : List (List Int), (l.flatMap fun c => (cf k (atc c)).map fun x => c ++ [x]).length ≤ l.length * b := fun l => by
      induction l with
      | nil => simp
      | cons a l ih =>
        rw [List.flatMap_cons, List.length_append, List.length_map, List.length_cons, Nat.succ_mul]
        have := h k (atc a)
        omega
    refine Nat.le_trans (key _) ?_
    rw [Nat.pow_succ]
    exact Nat.mul_le_mul_right _ ih
theorem atc_app {c : List Int} {x : Int} {v : Nat} : atc (c ++ [x]) v = if v = c.length then x else atc c v := by
  unfold atc
  rw [List.getD_eq_getElem?_getD, List.getD_eq_getElem?_getD]
  by_cases h : v < c.length
  · rw [List.getElem?_append_left h, if_neg (by omega)]
  · rw [List.getElem?_append_right (by omega)]
    by_cases e : v = c.length
    · subst e; simp
    · rw [if_neg e, List.getElem?_eq_none (by simp; omega), List.getElem?_eq_none (by omega)]
theorem ahd_kp {W : Web} {k u : Nat} (hW : W.Pre) (h : u ∈ W.ahd k) : u ∈ W.kp k := by
  obtain ⟨h1, h2⟩ := List.mem_filter.mp h
  have h2 := of_decide_eq_true h2
  cases k with
  | zero => omega
  | succ k =>
    refine List.mem_filter.mpr ⟨List.mem_range.mpr h2, ?_⟩
    unfold Web.beh
    refine List.any_eq_true.mpr ⟨k + 1, ?_, by simp⟩
    exact (mem_nb hW).mpr (by rw [adj_sym]; exact (mem_nb hW).mp h1)
theorem kp_next {W : Web} {k v : Nat} (h : v ∈ W.kp (k + 1)) : v = k ∨ v ∈ W.kp k := by
  obtain ⟨h1, h2⟩ := List.mem_filter.mp h
  have h1 := List.mem_range.mp h1
  by_cases e : v = k
  · exact .inl e
  · right
    cases k with
    | zero => omega
    | succ k =>
      refine List.mem_filter.mpr ⟨List.mem_range.mpr (by omega), ?_⟩
      unfold Web.beh at h2 ⊢
      obtain ⟨z, hz, hz2⟩ := List.any_eq_true.mp h2
      have := of_decide_eq_true hz2
      exact List.any_eq_true.mpr ⟨z, hz, by simp; omega⟩
/-- the next key -/
def Web.nk (W : Web) (k : Nat) (hv : Nat → Int) (x : Int) : List Int := (W.kp (k + 1)).map fun v => if v = k then x else hv v
theorem nk_proj {W : Web} {k : Nat} {c : List Int} {hv : Nat → Int} {x : Int} (hl : c.length = k) (h : ∀ u ∈ W.kp k, hv u = atc c u) : W.nk k hv x = W.proj (k + 1) (c ++ [x]) := by
  unfold Web.nk Web.proj
  refine List.map_congr_left fun v hv' => ?_
  rw [atc_app, hl]
  by_cases e : v = k
  · rw [if_pos e, if_pos e]
  · rw [if_neg e, if_neg e]
    rcases kp_next hv' with z | z
    · exact absurd z e
    · exact h v z
/-- D counts, by keys, what S says -/
structure Tab (W : Web) (cf : Nat → (Nat → Int) → List Int) (k : Nat) (D : List (List Int × Int)) (S : (List Int → Int) → Int) : Prop where
  sum : ∀ φ, wsum φ D = S φ
  nd : (D.map (·.1)).Nodup
  key : ∀ q ∈ D.map (·.1), ∃ c ∈ parts cf k, q = W.proj k c
def tot (W : Web) (cf : Nat → (Nat → Int) → List Int) (k : Nat) (φ : List Int → Int) : Int := ((parts cf k).map fun c => φ (W.proj k c)).sum
section
variable {W : Web} {cf : Nat → (Nat → Int) → List Int} {k : Nat} {D : List (List Int × Int)} {S : (List Int → Int) → Int}
theorem Tab.few (t : Tab W cf k D S) : D.length ≤ (parts cf k).length := by
  have h := t.nd.length_le_of_subset (l₂ := (parts cf k).map (W.proj k)) fun q hq => by
    obtain ⟨c, h1, rfl⟩ := t.key q hq
    exact List.mem_map_of_mem h1
  rw [List.length_map, List.length_map] at h
  exact h
theorem Tab.zero : Tab W cf 0 [([], 1)] (tot W cf 0) := ⟨fun φ => by unfold wsum tot parts Web.proj Web.kp; simp, by simp, fun q hq => ⟨[], by simp [parts], by simpa [Web.proj, Web.kp] using hq⟩⟩
theorem Tab.none : Tab W cf k [] fun _ => 0 := ⟨fun φ => rfl, by simp, fun q hq => by cases hq⟩
theorem Tab.add (t : Tab W cf k D S) {c : List Int} {m : Int} (hc : c ∈ parts cf k) : Tab W cf k (addI D (W.proj k c) m) fun φ => S φ + m * φ (W.proj k c) :=
  ⟨fun φ => by rw [wsum_addI, t.sum], (addI_keys t.nd).1, fun q hq => by
    rcases (addI_keys t.nd).2 q hq with h | h
    · exact t.key q h
    · exact ⟨c, hc, h⟩⟩
theorem Tab.cast {S' : (List Int → Int) → Int} (t : Tab W cf k D S) (h : ∀ φ, S φ = S' φ) : Tab W cf k D S' := ⟨fun φ => (t.sum φ).trans (h φ), t.nd, t.key⟩
/-- a key's heights by field -/
def hvk (W : Web) (k : Nat) (key : List Int) (u : Nat) : Int := ((((W.kp k).zip key).find? fun p => decide (p.1 = u)).map (·.2)).getD 0
theorem zip_find {f : Nat → Int} : ∀ {l : List Nat} {u : Nat}, u ∈ l → (((l.zip (l.map f)).find? fun p => decide (p.1 = u)).map (·.2)).getD 0 = f u
  | [], u, h => by cases h
  | a :: l, u, h => by
    rw [List.map_cons, List.zip_cons_cons, List.find?_cons]
    by_cases e : a = u
    · subst e; simp
    · rw [show decide ((a, f a).1 = u) = false from decide_eq_false e]
      exact zip_find ((List.mem_cons.mp h).resolve_left fun z => e z.symm)
theorem hvk_proj {c : List Int} {u : Nat} (h : u ∈ W.kp k) : hvk W k (W.proj k c) u = atc c u := by unfold hvk Web.proj; exact zip_find h
theorem sum_flatMap {α : Type} {f : α → List (List Int)} {g : List Int → Int} : ∀ l : List α, ((l.flatMap f).map g).sum = (l.map fun a => ((f a).map g).sum).sum
  | [] => rfl
  | a :: l => by rw [List.flatMap_cons, List.map_append, List.sum_append, List.map_cons, List.sum_cons, sum_flatMap l]
/-- what the next table counts -/
def nxt (W : Web) (cf : Nat → (Nat → Int) → List Int) (k : Nat) (p : List Int × Int) (φ : List Int → Int) : Int := ((cf k (hvk W k p.1)).map fun x => p.2 * φ (W.nk k (hvk W k p.1) x)).sum
theorem mul_sum (m : Int) {α : Type} (f : α → Int) : ∀ l : List α, (l.map fun x => m * f x).sum = m * (l.map f).sum
  | [] => by simp
  | a :: l => by rw [List.map_cons, List.map_cons, List.sum_cons, List.sum_cons, mul_sum m f l, Int.mul_add]
theorem nxt_tot (hW : W.Pre) (hl : Local W cf) (t : Tab W cf k D (tot W cf k)) (φ : List Int → Int) : (D.map fun p => nxt W cf k p φ).sum = tot W cf (k + 1) φ := by
  have e1 : (D.map fun p => nxt W cf k p φ) = D.map fun p => p.2 * ((cf k (hvk W k p.1)).map fun x => φ (W.nk k (hvk W k p.1) x)).sum := List.map_congr_left fun p _ => mul_sum p.2 _ _
  rw [e1]
  have e2 := t.sum fun key => ((cf k (hvk W k key)).map fun x => φ (W.nk k (hvk W k key) x)).sum
  unfold wsum at e2
  rw [e2]
  unfold tot
  show _ = (((parts cf k).flatMap fun c => (cf k (atc c)).map fun x => c ++ [x]).map fun c => φ (W.proj (k + 1) c)).sum
  rw [sum_flatMap]
  congr 1
  refine List.map_congr_left fun c hc => ?_
  rw [List.map_map]
  show ((cf k (hvk W k (W.proj k c))).map fun x => φ (W.nk k (hvk W k (W.proj k c)) x)).sum = _
  have e3 : cf k (hvk W k (W.proj k c)) = cf k (atc c) := hl k _ _ fun u hu => hvk_proj (ahd_kp hW hu)
  rw [e3]
  congr 1
  refine List.map_congr_left fun x _ => ?_
  rw [nk_proj (parts_len hc) fun u hu => hvk_proj hu]; rfl
end
/-! ### the two counts -/
def candC (W : Web) (k : Nat) (hv : Nat → Int) : List Int := ((List.range 3).map fun (x : Nat) => (x : Int)).filter fun x => !(W.ahd k).any fun u => decide (hv u = x)
theorem candC_local {W : Web} : Local W (candC W) := fun k f g h => by
  unfold candC
  refine List.filter_congr fun x _ => ?_
  congr 1
  rw [Bool.eq_iff_iff, List.any_eq_true, List.any_eq_true]
  constructor
  · rintro ⟨u, hu, e⟩; exact ⟨u, hu, by rw [← h u hu]; exact e⟩
  · rintro ⟨u, hu, e⟩; exact ⟨u, hu, by rw [h u hu]; exact e⟩
theorem candC_few {W : Web} (k : Nat) (f : Nat → Int) : (candC W k f).length ≤ 6 := by
  unfold candC
  refine Nat.le_trans (List.length_filter_le _ _) ?_
  simp
theorem cst_congr {f g : Nat → Int} : ∀ (l : List Nat) (o : Option (List Int)), (∀ u ∈ l, f u = g u) → l.foldl (cst f) o = l.foldl (cst g) o
  | [], _, _ => rfl
  | a :: l, o, h => by
    rw [List.foldl_cons, List.foldl_cons]
    have e : cst f o a = cst g o a := by unfold cst; rw [h a List.mem_cons_self]
    rw [e]
    exact cst_congr l _ fun u hu => h u (List.mem_cons_of_mem _ hu)
theorem cand_local {W : Web} {lo hi : List Int} : Local W (cand W lo hi) := fun k f g h => by
  unfold cand
  rw [cst_congr _ _ h]
theorem cand_few {W : Web} {lo hi : List Int} (h : ∀ k, (atc hi k - atc lo k).toNat ≤ 11) (k : Nat) (f : Nat → Int) : (cand W lo hi k f).length ≤ 6 := by
  unfold cand
  refine Nat.le_trans (List.length_filter_le _ _) ?_
  cases q : (W.ahd k).foldl (cst f) none with
  | none =>
    show (rg2 _ _).length ≤ 6
    unfold rg2
    have := h k
    simp; omega
  | some l =>
    have := cst_len _ none l (fun _ h => by cases h) q
    show l.length ≤ 6
    omega
end M
namespace M
open PySem L2 G GX
theorem nk_congr {W : Web} {k : Nat} {f g : Nat → Int} {x : Int} (h : ∀ u ∈ W.kp k, f u = g u) : W.nk k f x = W.nk k g x := by
  unfold Web.nk
  refine List.map_congr_left fun v hv => ?_
  by_cases e : v = k
  · rw [if_pos e, if_pos e]
  · rw [if_neg e, if_neg e]
    rcases kp_next hv with z | z
    · exact absurd z e
    · exact h v z
theorem nxt_rep {W : Web} {cf : Nat → (Nat → Int) → List Int} {k : Nat} (hW : W.Pre) (hl : Local W cf) {p : List Int × Int} {c : List Int} (h : p.1 = W.proj k c) (φ : List Int → Int) : nxt W cf k p φ = ((cf k (atc c)).map fun x => p.2 * φ (W.nk k (atc c) x)).sum := by
  unfold nxt
  rw [h, hl k _ (atc c) fun u hu => hvk_proj (ahd_kp hW hu)]
  congr 1
  refine List.map_congr_left fun x _ => ?_
  rw [nk_congr fun u hu => hvk_proj hu]
theorem kp_len {W : Web} {k : Nat} : (W.kp k).length ≤ k := by
  cases k with
  | zero => exact Nat.le_refl _
  | succ k => exact kept_len
end M

set_option Elab.async false
set_option linter.all false
set_option maxRecDepth 100000
set_option maxHeartbeats 4000000
/-! GI: walks over d.items() with tuple keys; dict(zip(..)); sums. -/
namespace G
open PySem PySem.Spec PyProof.Rows L2 Evl RZ GX M
section
variable {K : PySem.W.Frag} {σ : L2.St} {H H' : Hp} {ms : List Addr} {ta tb te tl th : TE} {t u : TT} {P : V → Hp → Prop} {v : V} {d d1 d2 : PyData} {i j : Int} {b : Bool} {ds es : List PyData} {D : Ends} {tu : TS}
def YItm (kvs : List (List L2.Key × V)) : Nat → Hp → V → Hp → Prop := fun i H x H' => ∃ (T q : Addr) (k : List L2.Key) (v : V), kvs[i]? = some (k, v) ∧ H q = some (.tup (k.map kV)) ∧ x = .ref T ∧ H T = none ∧ H' = upd H T (.tup [.ref q, v])
theorem walk_itemsT {d : Addr} {o : Obj} {kvs : List (List L2.Key × V)} : Walk (ItiT d o kvs) kvs.length (fun H => H d = some (.frz o (.dT kvs))) (YItm kvs) :=
  ⟨fun i _ hi q => ⟨q, hi⟩, fun _ q => ⟨q, Nat.le_refl _⟩, fun _ _ _ _ _ _ y => y⟩
/-- for k, v in d.items(): the turns see d locked -/
theorem q_items {tz : TS} {g : TG} {kd : Nat} {pd : Addr} {kvs : List (List L2.Key × V)} (hk : σ[kd]? = some (some (.ref pd))) (hp : H pd = some (.dT kvs)) (Pv : Obj → Nat → L2.St → Hp → Prop)
    (h0 : ∀ od, Pv od 0 σ (upd H pd (.frz od (.dT kvs)))) (hf : ∀ od i σ' H', i ≤ kvs.length → Pv od i σ' H' → H' pd = some (.frz od (.dT kvs)))
    (hs : ∀ od i k v T q σ' Hc, kvs[i]? = some (k, v) → Pv od i σ' Hc → Hc q = some (.tup (k.map kV)) → Hc T = none → ∀ D2 : Ends, (∀ σ H, Pv od (i + 1) σ H → D2.nx σ H) → g (.ref T) σ' (upd Hc T (.tup [.ref q, v])) fun σ2 H2 => tu D2 σ2 H2)
    (hd : ∀ od σ' H', Pv od kvs.length σ' H' → tz D σ' (upd H' pd (.dT kvs))) : tSeq (tLock (tFor (iItemsT (tVar kd)) g tu)) tz D σ H := by
  refine ⟨pd, .dT kvs, hp, trivial, fun od => ?_⟩
  refine ⟨.ref pd, hk, pd, od, kvs, rfl, upd_same, ?_⟩
  refine for_it walk_itemsT (Pv od) (h0 od) (fun i σ' H' hi p => hf od i σ' H' hi p) (fun i x σ' Hc H' hi p y => ?_) fun σ' H' p => ⟨hf od _ σ' H' (Nat.le_refl _) p, hd od σ' H' p⟩
  obtain ⟨T, q, k, v, h1, h2, rfl, h3, rfl⟩ := y
  exact hs od i k v T q σ' Hc h1 p h2 h3 _ fun σ H h => h
theorem val_merge {f : Nat → Int} {u : Nat} : ∀ (l : List Nat) (acc : List (L2.Key × V)), valV (mergeK acc (l.map fun (x : Nat) => ((Sum.inl (x : Int) : L2.Key), V.int (f x)))) (Sum.inl (u : Int)) = if u ∈ l then some (.int (f u)) else valV acc (Sum.inl (u : Int))
  | [], acc => rfl
  | a :: l, acc => by
    rw [List.map_cons]
    show valV (mergeK (putK acc (Sum.inl (a : Int)) (V.int (f a))) (l.map fun (x : Nat) => ((Sum.inl (x : Int) : L2.Key), V.int (f x)))) (Sum.inl (u : Int)) = _
    rw [val_merge l, valV_put]
    by_cases h : u ∈ l
    · rw [if_pos h, if_pos (List.mem_cons_of_mem _ h)]
    · rw [if_neg h]
      by_cases e : u = a
      · subst e; rw [if_pos rfl, if_pos List.mem_cons_self]
      · rw [if_neg (fun z => e (by have := Sum.inl.inj z; omega)), if_neg (fun z => (List.mem_cons.mp z).elim e h)]
theorem n_dictZip {l : List Nat} {f : Nat → Int} (ha : ED ms ta σ H (dNs l)) (hb : ED ms tb σ H (.tuple ((l.map f).map PyData.int))) : EvP (tDictZip K ta tb) σ H fun v H2 => ∃ p kvs, v = .ref p ∧ H p = none ∧ H2 p = some (.dK kvs) ∧ kvs.length ≤ l.length ∧ ∀ u ∈ l, valV kvs (Sum.inl (u : Int)) = some (.int (f u)) := fun H1 e Q q => by
  refine ha H1 e _ fun x H2 e2 rx => hb H2 (e.trans e2) _ fun y H3 e3 ry => ?_
  obtain ⟨a, xs, rfl, ha, ra⟩ := (rp_keep e3 rx).lst_of
  obtain ⟨c, ys, rfl, hc, rc⟩ := ry.tup_of
  rw [ra.ints_of] at ha
  rw [rc.ints_of] at hc
  refine ⟨a, c, nI l, (l.map f).map V.int, rfl, SqL.of (cut_some ha).2, SqT.of (cut_some hc).2, by simp [nI], fun p hp => q _ _ ((e2.trans e3).trans (Ex.new hp)) ⟨p, _, rfl, Evl.fresh_back ((e.trans e2).trans e3) hp, upd_same, ?_, ?_⟩⟩
  · refine Nat.le_trans (length_mergeK _ []) ?_
    simp [nI]
  · intro u hu
    have ez : ((nI l).zip ((l.map f).map V.int)).map (fun q => ((Sum.inl q.1 : L2.Key), q.2)) = l.map fun (x : Nat) => ((Sum.inl (x : Int) : L2.Key), V.int (f x)) := by
      unfold nI
      rw [List.map_map, List.zip_map', List.map_map]; rfl
    rw [ez, val_merge, if_pos hu]
theorem e_sumV {p : Addr} {kvs : List (List L2.Key × V)} {ns : List Int} (ha : EvP ta σ H fun w _ => w = .ref p) (hp : H p = some (.dT kvs)) (hn : kvs.map (·.2) = ns.map V.int) : ED ms (tSumV ta) σ H (.int ns.sum) := fun H1 e Q q =>
  ha H1 e _ fun x H2 e2 rx => by
    subst rx
    exact ⟨p, kvs, ns, rfl, e2 p _ (e p _ hp), hn, q _ H2 e2 (.int _)⟩
end
end G

set_option Elab.async false
set_option linter.all false
set_option maxRecDepth 100000
set_option maxHeartbeats 4000000
namespace T
open PySem PySem.Spec PyProof.Rows L2 RZ G M GX
open Evl (Ex EvT et_or et_not et_and)
section
variable {P : Program} {w : World} {K : PySem.W.Frag} {mg : Str → Option Value} {base : Heap} {f : Addr} {fd : FuncData}
/-- three statements: here[field] = x; key = ..; later[key] = later.get(key, 0) + many -/
theorem turn3 {tz : Ends} {σ : L2.St} {H : Hp} {W : Web} {cf : Nat → (Nat → Int) → List Int} {k : Nat} {hv : Nat → Int} {c : List Int} {x m : Int} {D' : List (List Int × Int)} {S : (List Int → Int) → Int} {ph pl : Addr} {kvs : List (L2.Key × V)} {vk : V}
    {sh sf sx sk so sy sl sm : Nat} (h1 : σ[sh]? = some (some (.ref ph))) (h2 : σ[sf]? = some (some (.int (k : Int)))) (h3 : σ[sx]? = some (some (.int x))) (h4 : σ[sk]? = some (some vk)) (h5 : σ[sl]? = some (some (.ref pl))) (h6 : σ[sm]? = some (some (.int m)))
    (n1 : so ≠ sh) (n2 : sy ≠ sl) (n3 : sy ≠ sm) (hy : sy < σ.length) (ho : so < σ.length) (ho2 : σ[so]? = some none)
    (hW : W.Pre) (hk : k < W.n) (hc : c ∈ parts cf k) (hcx : x ∈ cf k (atc c)) (hhv : ∀ u ∈ W.kp k, hv u = atc c u) (hf : ∀ k f, (cf k f).length ≤ 6)
    (hph : H ph = some (.dK kvs)) (hlen : kvs.length < 1000) (hval : ∀ u ∈ W.kp k, valV kvs (Sum.inl (u : Int)) = some (.int (hv u))) (hpl : H pl = some (.dT (D'.map kE))) (hne : ph ≠ pl) (t : Tab W cf (k + 1) D' S) (rk : Rp H vk (dNs (W.kept k)))
    (hnx : ∀ H4 (kvs' : List (L2.Key × V)) v, kvs'.length ≤ kvs.length + 1 → (∀ u ∈ W.kp k, valV kvs' (Sum.inl (u : Int)) = some (.int (hv u))) → H4 ph = some (.dK kvs') → Tab W cf (k + 1) (addI D' (W.nk k hv x) m) (fun φ => S φ + m * φ (W.nk k hv x)) → H4 pl = some (.dT ((addI D' (W.nk k hv x) m).map kE)) → Ex (cut H [ph, pl]) H4 → tz.nx (σ.set sy (some v)) H4) :
    tSeq (sDPut (tVar sh) (tVar sf) (tVar sx)) (tSeq (tAsg (tCB (fun xs H Q => ∃ p ys, xs = [.ref p] ∧ ((SqL K H p ys ∧ ∀ l, H l = none → Q (.ref l) (upd H l (.tup ys))) ∨ (SqT K H p ys ∧ Q (.ref p) H))) (tCons (tLc (iList K (tVar sk)) (gName so) tYes (tDGet (tVar sh) (tVar so)) [so]) tNil)) (gName sy))
      (sDPut (tVar sl) (tVar sy) (tOp (rI0 fun i j => .int (i + j)) (tDGet2 (tVar sl) (tVar sy) (tC (.int 0))) (tVar sm)))) tz σ H := by
  have hn := hW.few
  refine q_dputK (ms := []) (v0 := .int x) hph (e_ref h3) (e_ref h1) (e_var h2 (.int _)) (by omega) fun H1 e1 => ?_
  have hv1 : ∀ v ∈ W.kept k, valV (putK kvs (Sum.inl (k : Int)) (.int x)) (Sum.inl (v : Int)) = some (.int (if v = k then x else hv v)) := fun v hv' => by
    rw [valV_put]
    by_cases e : v = k
    · subst e; rw [if_pos rfl, if_pos rfl]
    · rw [if_neg (fun z => e (by have := Sum.inl.inj z; omega)), if_neg e]
      rcases kp_next (k := k) (v := v) hv' with z | z
      · exact absurd z e
      · exact hval v z
  have hkl := kept_len (W := W) (last := k)
  have hph1 : (upd H1 ph (.dK (putK kvs (Sum.inl (k : Int)) (.int x)))) ph = some (.dK (putK kvs (Sum.inl (k : Int)) (.int x))) := upd_same
  have hpl1 : (upd H1 ph (.dK (putK kvs (Sum.inl (k : Int)) (.int x)))) pl = some (.dT (D'.map kE)) := by rw [upd_ne hne.symm]; exact e1 _ _ hpl
  have rk1 : Rp (upd H1 ph (.dK (putK kvs (Sum.inl (k : Int)) (.int x)))) vk (dNs (W.kept k)) := by
    obtain ⟨a, xs, rfl, ha, ra⟩ := rk.lst_of
    refine .lst (by rw [upd_ne (ne_of (e1 _ _ ha) (e1 _ _ hph) (fun z => nomatch z))]; exact e1 _ _ ha) ?_
    rw [ra.ints_of]; exact RpAll.ints _
  have eq1 : Ex (cut H [ph, pl]) (upd H1 ph (.dK (putK kvs (Sum.inl (k : Int)) (.int x)))) := ex_cut_upd (cut_le.trans e1) (by simp)
  generalize upd H1 ph (.dK (putK kvs (Sum.inl (k : Int)) (.int x))) = H2 at *
  refine q_asg (e_is (d2 := .tuple ((W.nk k hv x).map PyData.int)) (e_tupleL (ms := []) (e_mapT (xs := W.kept k) (enc := dN) (fun v => .int (if v = k then x else hv v)) (src_list (e_is (e_var h4 rk1) (by show PyData.list _ = PyData.list _; rw [dNs_eq]))) (by omega) Live.nil fun ms' v v8 H8 hv8 e8 ec8 L8 rv8 => ⟨(wipe σ [so]).set so (some v8), fun Q q => q, ?_, ?_⟩) Live.nil) ?_) fun vy H3 e3 ry => ?_
  · simp only [wipe, List.foldl_cons, List.foldl_nil]
    rw [List.set_set, List.set_set]
  · cases rv8.int_of
    have g1 : ((wipe σ [so]).set so (some (V.int (v : Int))))[so]? = some (some (V.int (v : Int))) := by
      rw [List.getElem?_set_self (by simp only [wipe, List.foldl_cons, List.foldl_nil]; rw [List.length_set]; exact ho)]
    have g2 : ((wipe σ [so]).set so (some (V.int (v : Int))))[sh]? = some (some (.ref ph)) := by
      rw [List.getElem?_set_ne n1]
      simp only [wipe, List.foldl_cons, List.foldl_nil]
      rw [List.getElem?_set_ne n1]; exact h1
    exact e_dgetK (e_ref g2) (e8 _ _ hph1) (e_var g1 (.int _)) (hv1 v hv8) (.int _)
  · show PyData.tuple _ = PyData.tuple _
    unfold Web.nk
    rw [List.map_map]; rfl
  have nkp := nk_proj (x := x) (parts_len hc) hhv
  have hcx' : c ++ [x] ∈ parts cf (k + 1) := List.mem_flatMap.mpr ⟨c, hc, List.mem_map.mpr ⟨x, hcx, rfl⟩⟩
  have t' := t.add (m := m) hcx'
  rw [← nkp] at t'
  have hfew : D'.length < 100000 := by
    have a1 := t.few
    have a2 := parts_few hf (k + 1)
    have a3 : 6 ^ (k + 1) ≤ 6 ^ 6 := Nat.pow_le_pow_right (by decide) (by omega)
    have a4 : (6 : Nat) ^ 6 = 46656 := by decide
    omega
  have hpl3 := e3 _ _ hpl1
  have s1 : (σ.set sy (some vy))[sl]? = some (some (.ref pl)) := by rw [List.getElem?_set_ne n2]; exact h5
  have s2 : (σ.set sy (some vy))[sm]? = some (some (.int m)) := by rw [List.getElem?_set_ne n3]; exact h6
  have s3 : (σ.set sy (some vy))[sy]? = some (some vy) := List.getElem?_set_self hy
  have dg := v_dget2T (ms := []) (ks := W.nk k hv x) (i := 0) (e_ref s1) hpl3 (e_var s3 ry) v_int
  rw [val_kE] at dg
  refine s_dputT (ms := []) (ks := W.nk k hv x) hpl3 (EvP.val (ms := []) (e_I0 (dg.ed (.int _)) (e_var s2 (.int _)))) (e_ref s1) (e_var s3 ry) (by rw [List.length_map]; exact hfew) fun H4 e4 => ?_
  rw [put_kE t.nd]
  refine hnx _ (putK kvs (Sum.inl (k : Int)) (.int x)) vy (length_putK _ _ _) (fun u hu => ?_) (by rw [upd_ne hne]; exact e4 _ _ (e3 _ _ hph1)) t' upd_same (ex_cut_upd ((eq1.trans e3).trans e4) (by simp))
  have huk : u ≠ k := by
    intro z; subst z
    cases u with
    | zero => cases hu
    | succ u =>
      have := List.mem_range.mp (List.mem_filter.mp hu).1
      omega
  rw [valV_put, if_neg (fun z => huk (by have := Sum.inl.inj z; omega))]
  exact hval u hu
def sp_num (n : Web → Nat) : Sp := sp_web fun W d => d = dN (n W)
/-- all colorings, field by field -/
def every (W : Web) : List (List Int) := parts (candC W) W.n
theorem pow6 {k : Nat} (h : k ≤ 6) : 6 ^ k ≤ 46656 := Nat.le_trans (Nat.pow_le_pow_right (by decide) h) (by decide)
theorem len_tot {W : Web} {cf : Nat → (Nat → Int) → List Int} {k : Nat} {D : List (List Int × Int)} (t : Tab W cf k D (tot W cf k)) : (D.map (·.2)).sum = ((parts cf k).length : Int) := by
  have h := t.sum fun _ => 1
  have e1 : wsum (fun _ => 1) D = (D.map (·.2)).sum := by
    unfold wsum
    congr 1
    exact List.map_congr_left fun p _ => Int.mul_one _
  have e2 : ∀ l : List (List Int), (l.map fun _ => (1 : Int)).sum = (l.length : Int) := fun l => by
    induction l with
    | nil => rfl
    | cons a l ih => rw [List.map_cons, List.sum_cons, ih, List.length_cons]; omega
  rw [← e1, h]
  exact e2 _
abbrev s_count_colorings : Stmt := topS 51
theorem sc_count_colorings : FnScope ["web", "nears", "now", "ahead", "field", "keep", "later", "told", "many", "here", "color", "key", "one", "near"] ["web"] (defScope s_count_colorings) := ⟨rfl, rfl, rfl, by decide +kernel, rfl, by decide +kernel, by decide +kernel⟩
theorem ok_count_colorings (F : Fun K "count_colorings" "count_colorings" s_count_colorings f fd) (b : Blt mg) (g : Glb mg) (c_need_web : Dfn P w K mg base 5 "need_web" ["value"] sp_none) (c_breadth_of : Dfn P w K mg base 2 "breadth_of" ["web"] sp_breadth) (c_nears_of : Dfn P w K mg base 1 "nears_of" ["web"] sp_nears) : FnOk P w K mg base CX0 6 f fd ["web"] (sp_num fun W => (every W).length) := by
  refine F.ok sc_count_colorings (fun vs H Q E h => ?_) (fun cdv A outer s H vs Q E hr h => ?_)
  · obtain ⟨ds, d, ms, r, _, ⟨W, rfl, _⟩, _⟩ := h; exact r.len
  · obtain ⟨ds, d, ms, r, L, ⟨W, rfl, hW, rfl⟩, k⟩ := h
    have nd := sc_count_colorings.nd
    refine ⟨_, pss_cons (ps_expr (pe_own c_need_web hr (pa_cons (pv 0) pa_nil))) (pss_cons (ps_if (pt_cmpR op_gt (pe_own c_breadth_of hr (pa_cons (pv 0) pa_nil)) (pe_gi g.MOST_BREADTH_tells) (nomark _)) (pss_never) (pss_nil)) (pss_cons (ps_asg (pe_tup (pa_cons (pe_own c_nears_of hr (pa_cons (pv 0) pa_nil)) (pa_cons (pe_dispT (hu_of hr) (pe_tup pa_nil) (pe_int)) (pa_cons (pe_lst pa_nil) pa_nil)))) (pg_tupK (n := 3) K rfl rfl (pgs_cons (pg_name (i := 1) nd rfl (Or.inr rfl)) (pgs_cons (pg_name (i := 2) nd rfl (Or.inl rfl)) (pgs_cons (pg_name (i := 3) nd rfl (Or.inl rfl)) (pgs_nil)))))) (pss_cons (ps_for PassesOwn.never rfl (pi_range1 (by rfl) b.range (pa_cons (pe_ix (ix_tupK K rfl) (pv 0) (pe_int) (fun _ _ => rfl)) pa_nil)) (pg_name (i := 4) nd rfl (Or.inr rfl)) (pss_cons (ps_setLc (i := 5) (own := [("one", 12)]) rfl nd rfl rfl (sw_true rfl rfl rfl (by decide +kernel)) (pi_range1 (by rfl) b.range (pa_cons (pe_op op_add (pv 4) (pe_int)) pa_nil)) (blkOk_by (own := [("one", 12)]) (N := ["web", "nears", "now", "ahead", "field", "keep", "later", "told", "many", "here", "color", "key", "one", "near"]) (sc := (defScope s_count_colorings)) (by decide +kernel)) (fun _ _ _ _ _ => pg_name (i := 12) nd rfl (Or.inl rfl)) (fun _ _ _ _ _ => pts_one ((pw_and (pt_cmpR (op_neDK K rfl hr.units) (pe_ix (ix_listK K rfl) (pv 1) (pv 12) (fun _ _ => rfl)) (pe_lst pa_nil) (nomark _)) (pw_and1 (pt_cmpR op_gt (pe_ix (ix_listK K rfl) (pe_ix (ix_listK K rfl) (pv 1) (pv 12) (fun _ _ => rfl)) (pe_un un_neg (pe_int)) (fun _ _ => rfl)) (pv 4) (nomark _)))).pt)) (fun _ _ _ _ _ => pv 12)) (pss_cons (ps_set (i := 6) nd rfl (Or.inl rfl) (pe_dnewT)) (pss_cons (ps_lock (ps_for PassesOwn.never rfl (pi_itemsT (pv 2)) (pg_tupK (n := 2) K rfl rfl (pgs_cons (pg_name (i := 7) nd rfl (Or.inl rfl)) (pgs_cons (pg_name (i := 8) nd rfl (Or.inl rfl)) (pgs_nil)))) (pss_cons (ps_set (i := 9) nd rfl (Or.inr rfl) (pe_dictZip rfl (by rfl) b.dict (by rfl) b.zip (pv 3) (pv 7))) (pss_one (ps_for PassesOwn.never rfl (pi_range1 (by rfl) b.range (pa_cons (pe_int) pa_nil)) (pg_name (i := 10) nd rfl (Or.inr rfl)) (pss_one (ps_if (pt_not (pt_val (pe_callB (cr_anyK K rfl rfl) (by rfl) b.any (by decide +kernel) (pa_cons (pe_lc (own := [("near", 13)]) rfl nd (pi_listK K rfl (pe_ix (ix_listK K rfl) (pv 1) (pv 4) (fun _ _ => rfl))) (blkOk_by (own := [("near", 13)]) (N := ["web", "nears", "now", "ahead", "field", "keep", "later", "told", "many", "here", "color", "key", "one", "near"]) (sc := (defScope s_count_colorings)) (by decide +kernel)) (fun _ _ _ _ _ => pg_name (i := 13) nd rfl (Or.inl rfl)) (fun _ _ _ _ _ => pts_one (pt_cmpR op_lt (pv 13) (pv 4) (nomark _))) (fun _ _ _ _ _ => pe_cmpR op_eq (pe_dget (hu_of hr) (pv 9) (pv 13) (fun _ _ => rfl)) (pv 10) (nomark _))) pa_nil)))) (pss_cons (ps_dput (hu_of hr) (pv 9) (pv 4) (pv 10) rfl) (pss_cons (ps_set (i := 11) nd rfl (Or.inl rfl) (pe_callTy (call_tupleK K rfl) (by rfl) b.tuple (by decide +kernel) (pa_cons (pe_lc (own := [("one", 12)]) rfl nd (pi_listK K rfl (pv 5)) (blkOk_by (own := [("one", 12)]) (N := ["web", "nears", "now", "ahead", "field", "keep", "later", "told", "many", "here", "color", "key", "one", "near"]) (sc := (defScope s_count_colorings)) (by decide +kernel)) (fun _ _ _ _ _ => pg_name (i := 12) nd rfl (Or.inl rfl)) (fun _ _ _ _ _ => pts_nil) (fun _ _ _ _ _ => pe_dget (hu_of hr) (pv 9) (pv 12) (fun _ _ => rfl))) pa_nil))) (pss_one (ps_dput (hu_of hr) (pv 6) (pv 11) (pe_op op_add (pe_dget2 (hu_of hr) (pv 6) (pv 11) (pe_int) ⟨rfl, rfl, rfl, rfl⟩) (pv 8)) rfl)))) (pss_nil)))))))) (pss_one (ps_par (i := 2) (j := 3) rfl nd rfl rfl (by decide) rfl rfl (pa_cons (pv 6) (pa_cons (pv 5) pa_nil)) (by rfl))))))) (pss_one (ps_ret (pe_sumV (pv 2) b.sum)))))), ?_⟩
    obtain ⟨v1, rfl, r1⟩ := r.one
    have hn := hW.pre.few
    have hp := hW.pre.pos
    refine q_drop (e_call (a_cons (e_var rfl r1) a_nil) L ⟨W, rfl, hW, rfl⟩) fun _ H1 e1 _ => ?_
    replace r1 := rp_keep e1 r1
    have L1 := L.mono e1
    have hb : ¬ (8 : Int) < (W.brd : Int) := by have := brd_le (W := W); omega
    refine q_no (t_is (t_T (e_B0 (e_call (ms := ms) (a_cons (e_var rfl r1) a_nil) L1 ⟨W, rfl, hW, rfl⟩) e_int)) (decide_eq_false hb)) fun H2 e2 => ?_
    replace r1 := rp_keep e2 r1
    have L2' := L1.mono e2
    refine e_call (ms := ms) (a_cons (e_var rfl r1) a_nil) L2' ⟨W, rfl, hW.pre, rfl⟩ H2 (Ex.refl _) _ fun vn H3 e3 rn => ?_
    refine n_dispT (ms := []) (ks := []) (e_tup a_nil (by simp) Live.nil) (v_int (i := 1)) H3 (Ex.refl _) _ fun v2 H4 e4 ⟨pn, hv2, nn, hn4⟩ => ?_
    subst hv2
    refine e_lst (ms := pn :: ms) a_nil (by simp) (((L2'.mono e3).mono e4).cons hn4) H4 (Ex.refl _) _ fun va H5 e5 ra => ?_
    refine ⟨by show 3 ≤ sizeLine; exact G.sz (by omega), fun pt npt => ?_⟩
    refine ⟨pt, _, rfl, SqT.of upd_same, rfl, _, _, rfl, _, _, rfl, _, _, rfl, rfl, ?_⟩
    have e6 := Ex.new npt (o := .tup [vn, .ref pn, va])
    have hn6 := e6 _ _ (e5 _ _ hn4)
    replace ra := rp_keep e6 ra
    generalize upd H5 pt (.tup [vn, .ref pn, va]) = H6 at *
    have e36 := (e4.trans e5).trans e6
    have rn6 : Rp (cut H6 (pn :: ms)) vn (dNears W) := rn.mono (cut_more (qs := [pn]) (fun q hq => by cases List.mem_singleton.mp hq; exact nn) e36)
    have e26 := e3.trans e36
    have eH6 : Ex H H6 := (e1.trans e2).trans e26
    have r16 := rp_keep e26 r1
    show tSeq _ _ _ [some v1, some vn, some (.ref pn), some va, none, none, none, none, none, none, none, none, none, none] H6
    refine s_seqfor (ms := ms) (src_rg1 (j := (W.n : Int)) (a_cons (e_ixT (e_var rfl r16) e_int rfl) a_nil) (by omega))
      (fun B k σ' H' => ∃ (pn : Addr) (va : V) (D : List (List Int × Int)) (y4 y5 y6 y7 y8 y9 y10 y11 : Option V), σ' = [some v1, some vn, some (.ref pn), some va, y4, y5, y6, y7, y8, y9, y10, y11, none, none] ∧ H pn = none ∧ H' pn = some (.dT (D.map kE)) ∧ Tab W (candC W) k D (tot W (candC W) k) ∧
        Rp (cut H' (pn :: ms)) vn (dNears W) ∧ Rp (cut H' (pn :: ms)) va (dNs (W.kp k)) ∧ Ex B H')
      (fun B eB => ⟨pn, va, [([], 1)], none, none, none, none, none, none, none, none, rfl, Evl.fresh_back ((e1.trans e2).trans e3) nn, eB _ _ hn6, Tab.zero, rp_keep eB rn6, rp_keep eB ra, Ex.refl _⟩) (fun B i σ' H' _ _ ⟨_, _, _, _, _, _, _, _, _, _, _, _, _, _, _, _, _, h⟩ => cut_le.trans h) ?_ ?_
    · rintro B k d v σ' Hc H' eB hd ⟨pn, va, D, y4, y5, y6, y7, y8, y9, y10, y11, rfl, npn, hnc, tD, rnc, rac, eb⟩ ec hr
      obtain ⟨hk, rfl⟩ := rgD_get hd
      have hk : k < W.n := by omega
      have eBH := (eH6.trans eB).trans eb
      have eH' := eBH.trans ec
      cases (hr ms (ex_cut eb) (L.mono eBH)).int_of
      rw [Int.zero_add]
      have hn' := ec _ _ hnc
      replace rnc := rp_keep ec rnc
      replace rac := rp_keep ec rac
      have L' : Live H' (pn :: ms) := (L.mono eH').cons hn'
      show tSeq _ _ _ [some v1, some vn, some (.ref pn), some va, some (.int (k : Int)), y5, y6, y7, y8, y9, y10, y11, none, none] H'
      -- keep
      refine q_asg (e_is (d2 := dNs (W.kept k)) (e_lcT (xs := List.range (k + 1)) (enc := fun (k : Nat) => .int (0 + (k : Int))) (fun f => W.beh f k) dN (src_rg1 (j := (k : Int) + 1) (a_cons (e_I0 (e_var rfl (.int _)) e_int) a_nil) (by omega)) (by simp; omega) L' fun ms' a v H7 ha e7 ec7 L7 rv => ⟨[some v1, some vn, some (.ref pn), some va, some (.int (k : Int)), y5, y6, y7, y8, y9, y10, y11, some v, none], fun Q q => q, rfl, ?_, fun _ => e_is (e_var rfl rv) (by rw [Int.zero_add])⟩) (by show PyData.list _ = PyData.list _; rw [dNs_eq]; rfl)) fun vk H7 e7 rk => ?_
      · have ha' : a < W.n := by have := List.mem_range.mp ha; omega
        cases rv.int_of
        rw [Int.zero_add]
        exact t_beh (last := k) (e_ixL (e_var rfl (rnc.mono ec7)) (e_var rfl (.int _)) (atI_nat (by rw [List.getElem?_map, nears_get ha']; rfl))) (e_var rfl (.int _)) L7
      -- later
      refine q_asg n_newT fun vl H8 e8 ⟨pl, hvl, npl, hl8⟩ => ?_
      subst hvl
      have e78 := e7.trans e8
      have hn8 := e78 _ _ hn'
      have hnl : pn ≠ pl := ne_of_none (e7 _ _ hn') npl
      have cm : Ex (cut H7 (pn :: ms)) (cut H8 (pl :: pn :: ms)) := cut_more (qs := [pl]) (fun q hq => by cases List.mem_singleton.mp hq; exact npl) e8
      have rn8 := (rp_keep e7 rnc).mono cm
      have ra8 := (rp_keep e7 rac).mono cm
      have rk8 := rk.mono cm
      have eH8 := eH'.trans e78
      have nplH : H pl = none := Evl.fresh_back (eH'.trans e7) npl
      show tSeq _ _ _ [some v1, some vn, some (.ref pn), some va, some (.int (k : Int)), some vk, some (.ref pl), y7, y8, y9, y10, y11, none, none] H8
      refine q_items (kd := 2) rfl hn8 (fun od j σ' Hc => ∃ (D' : List (List Int × Int)) (y7 y8 y9 y10 y11 : Option V), σ' = [some v1, some vn, some (.ref pn), some va, some (.int (k : Int)), some vk, some (.ref pl), y7, y8, y9, y10, y11, none, none] ∧ Hc pn = some (.frz od (.dT (D.map kE))) ∧
        Hc pl = some (.dT (D'.map kE)) ∧ Tab W (candC W) (k + 1) D' (fun φ => ((D.take j).map fun p => nxt W (candC W) k p φ).sum) ∧ Ex (cut H8 [pl, pn]) Hc) ?_ (fun od i σ' H' _ ⟨_, _, _, _, _, _, _, h, _⟩ => h) ?_ ?_
      · intro od
        exact ⟨[], y7, y8, y9, y10, y11, rfl, upd_same, by rw [upd_ne hnl.symm]; exact hl8, Tab.none.cast fun φ => by simp, ex_cut_upd cut_le (by simp)⟩
      · rintro od j ks v0 T q σ' Hd hj ⟨D', y7, y8, y9, y10, y11, rfl, hnd, hld, tD', ed⟩ hq nT D2 hD2
        rw [List.getElem?_map] at hj
        obtain ⟨p, hpj, hpe⟩ := Option.map_eq_some_iff.mp hj
        cases hpe
        have hpD : p ∈ D := List.mem_of_getElem? hpj
        obtain ⟨c, hc, hpc⟩ := tD.key p.1 (List.mem_map_of_mem hpD)
        have eT := Ex.new nT (o := .tup [.ref q, .int p.2])
        refine ⟨T, _, rfl, SqT.of upd_same, rfl, _, _, rfl, _, _, rfl, rfl, ?_⟩
        have hndT := eT _ _ hnd
        have hldT := eT _ _ hld
        have hqT := eT _ _ hq
        replace ed := ed.trans eT
        generalize upd Hd T (.tup [.ref q, .int p.2]) = He at *
        have sub8 : Ex (cut H8 (pl :: pn :: ms)) He := fun a o z => ed a o (cut_sub (fun m hm => by
          rcases List.mem_cons.mp hm with rfl | hm
          · simp
          · cases List.mem_singleton.mp hm; simp) a o z)
        have rne := (rn8.mono sub8)
        have rae := (ra8.mono sub8)
        have rke := (rk8.mono sub8)
        have rte : Rp He (.ref q) (.tuple (p.1.map PyData.int)) := .tup (by rw [hqT, kI_vs]) (RpAll.ints _)
        rw [hpc] at rte
        show tSeq _ _ _ [some v1, some vn, some (.ref pn), some va, some (.int (k : Int)), some vk, some (.ref pl), some (.ref q), some (.int p.2), y9, y10, y11, none, none] He
        refine q_asg (n_dictZip (ms := []) (l := W.kp k) (f := atc c) (e_var rfl rae) (e_var rfl rte)) fun vh Hf ef ⟨ph, kvs0, hvh, nph, hph, hl0, hv0⟩ => ?_
        subst hvh
        have hplh : ph ≠ pl := (ne_of_none hldT nph).symm
        have hpnh : ph ≠ pn := (ne_of_none hndT nph).symm
        have hkpl := kp_len (W := W) (k := k)
        have up : ∀ {Hx : Hp}, Ex (cut Hf [ph, pl]) Hx → Ex (cut H8 (pl :: pn :: ms)) Hx := fun e a o z => by
          have z1 := sub8 a o z
          have za : a ≠ ph := ne_of_none z1 nph
          have zb : a ≠ pl := fun q => (cut_some z).1 (by rw [q]; exact List.mem_cons_self)
          exact e a o (by rw [cut_out (by simp [za, zb])]; exact ef _ _ z1)
        show tFor _ _ _ _ [some v1, some vn, some (.ref pn), some va, some (.int (k : Int)), some vk, some (.ref pl), some (.ref q), some (.int p.2), some (.ref ph), y10, y11, none, none] Hf
        refine s_for (ms := [ph, pl]) (src_rg1 (ms := [ph, pl]) (j := 3) (a_cons e_int a_nil) (by omega))
          (fun B2 i σ' Hg => ∃ (D'' : List (List Int × Int)) (kvs : List (L2.Key × V)) (y10 y11 : Option V), σ' = [some v1, some vn, some (.ref pn), some va, some (.int (k : Int)), some vk, some (.ref pl), some (.ref q), some (.int p.2), some (.ref ph), y10, y11, none, none] ∧
            Hg ph = some (.dK kvs) ∧ kvs.length ≤ 10 + i ∧ (∀ u ∈ W.kp k, valV kvs (Sum.inl (u : Int)) = some (.int (atc c u))) ∧ Hg pl = some (.dT (D''.map kE)) ∧
            Tab W (candC W) (k + 1) D'' (fun φ => ((D.take j).map fun p => nxt W (candC W) k p φ).sum + ((((List.range i).map fun (x : Nat) => (x : Int)).filter fun x => !(W.ahd k).any fun u => decide (atc c u = x)).map fun x => p.2 * φ (W.nk k (atc c) x)).sum) ∧ Ex (cut B2 [ph, pl]) Hg)
          (fun B2 eB2 => ⟨D', kvs0, y10, y11, rfl, eB2 _ _ hph, by omega, hv0, eB2 _ _ (ef _ _ hldT), tD'.cast fun φ => by simp, cut_le⟩) (fun B2 i σ' H' _ _ ⟨_, _, _, _, _, _, _, _, _, _, h⟩ => h) ?_ ?_
        · rintro B2 i d v σ' Hg Hg' eB2 hd2 ⟨D'', kvs, y10, y11, rfl, hphg, hlen, hval, hplg, tD'', eg⟩ eg' hr2
          obtain ⟨hi, rfl⟩ := rgD_get hd2
          have Lg : Live Hg [ph, pl] := fun m hm => by
            rcases List.mem_cons.mp hm with rfl | hm
            · exact ⟨_, hphg⟩
            · cases List.mem_singleton.mp hm; exact ⟨_, hplg⟩
          cases (hr2 [ph, pl] (ex_cut_in eg) Lg).int_of
          rw [Int.zero_add]
          have hph' := eg' _ _ hphg
          have hpl' := eg' _ _ hplg
          have sf : Ex (cut Hf [ph, pl]) Hg' := ((ex_cut eB2).trans eg).trans eg'
          have rng := rn8.mono (up sf)
          have rkg := rk8.mono (up sf)
          have tk3 : (List.range (i + 1)).map (fun (x : Nat) => (x : Int)) = (List.range i).map (fun (x : Nat) => (x : Int)) ++ [(i : Int)] := by rw [List.range_succ, List.map_append]; rfl
          show tIfS _ _ _ _ [some v1, some vn, some (.ref pn), some va, some (.int (k : Int)), some vk, some (.ref pl), some (.ref q), some (.int p.2), some (.ref ph), some (.int (i : Int)), y11, none, none] Hg'
          refine s_if (b := !(W.ahd k).any fun u => decide (atc c u = (i : Int))) (et_not (t_B (e_anyD (ms := []) (xs := W.ahd k) (f := fun u => decide (atc c u = (i : Int))) (e_lcT (xs := W.nb k) (enc := dN) (fun u => decide (u < k)) (fun u => .bool (decide (atc c u = (i : Int)))) (src_list (e_is (e_ixL (d := dNs (W.nb k)) (e_var rfl rng) (e_var rfl (.int _)) (atI_nat (by rw [List.getElem?_map, nears_get hk]; rfl))) (by show PyData.list _ = PyData.list _; rw [dNs_eq]))) (by have := nb_few (W := W) (v := k); omega) Live.nil fun ms' u v8 H9 hu e9 ec9 L9 rv9 => ⟨[some v1, some vn, some (.ref pn), some va, some (.int (k : Int)), some vk, some (.ref pl), some (.ref q), some (.int p.2), some (.ref ph), some (.int (i : Int)), y11, none, some v8], fun Q q => q, rfl, ?_, fun hlt => ?_⟩)))) (fun hok Hh eh => ?_) (fun hno Hh eh => ?_)
          · cases rv9.int_of
            exact t_is (t_T (e_B0 (ms := []) (e_var rfl (.int _)) (e_var rfl (.int _)))) (decide_eq_decide.mpr (by omega))
          · cases rv9.int_of
            have hua : u ∈ W.ahd k := List.mem_filter.mpr ⟨hu, hlt⟩
            exact e_eq (e_dgetK (e_ref rfl) (e9 _ _ hph') (e_var rfl (.int _)) (hval u (ahd_kp hW.pre hua)) (.int _)) (e_var rfl (.int _))
          · have hic : (i : Int) ∈ candC W k (atc c) := List.mem_filter.mpr ⟨List.mem_map.mpr ⟨i, List.mem_range.mpr (by omega), rfl⟩, hok⟩
            refine turn3 (W := W) (cf := candC W) (c := c) (k := k) (x := (i : Int)) (m := p.2) (hv := atc c) (sh := 9) (sf := 4) (sx := 10) (sk := 5) (so := 12) (sy := 11) (sl := 6) (sm := 8) rfl rfl rfl rfl rfl rfl (by decide) (by decide) (by decide) (by simp) (by simp) rfl hW.pre hk hc hic (fun _ _ => rfl) candC_few (eh _ _ hph') (by omega) hval (eh _ _ hpl') hplh tD'' (rkg.mono eh) fun H4 kvs' v hl' hv' hph4 t4 hpl4 e4 => ?_
            refine ⟨_, kvs', _, _, rfl, hph4, by omega, hv', hpl4, t4.cast fun φ => ?_, ?_⟩
            · rw [tk3, List.filter_append, List.filter_cons, if_pos hok, List.filter_nil, List.map_append, List.sum_append]
              simp only [List.map_cons, List.map_nil, List.sum_cons, List.sum_nil]
              omega
            · exact (ex_cut_in ((eg.trans eg').trans eh)).trans e4
          · refine ⟨D'', kvs, _, _, rfl, eh _ _ hph', by omega, hval, eh _ _ hpl', tD''.cast fun φ => ?_, (eg.trans eg').trans eh⟩
            rw [tk3, List.filter_append, List.filter_cons, if_neg (by rw [hno]; decide), List.filter_nil, List.append_nil]
        · rintro B2 σ' Hg eB2 ⟨D'', kvs, y10, y11, rfl, hphg, hlen, hval, hplg, tD'', eg⟩
          rw [rgD_len] at tD''
          have sf : Ex (cut Hf [ph, pl]) Hg := (ex_cut eB2).trans eg
          have hpnf := ef _ _ hndT
          refine hD2 _ _ ⟨D'', _, _, _, _, _, rfl, sf _ _ (by rw [cut_out (by simp [hpnh.symm, hnl])]; exact hpnf), hplg, tD''.cast fun φ => ?_, fun a o z => ?_⟩
          · rw [List.take_add_one, hpj, List.map_append, List.sum_append]
            have := nxt_rep (cf := candC W) hW.pre candC_local hpc φ
            show _ = _ + (nxt W (candC W) k p φ + 0)
            rw [this]
            show _ = _ + (((((List.range 3).map fun (x : Nat) => (x : Int)).filter fun x => !(W.ahd k).any fun u => decide (atc c u = x)).map fun x => p.2 * φ (W.nk k (atc c) x)).sum + 0)
            rw [Int.add_zero]; rfl
          · have z1 := ed a o z
            have za : a ≠ ph := ne_of_none z1 nph
            have zb : a ≠ pl := fun q => (cut_some z).1 (by rw [q]; exact List.mem_cons_self)
            exact sf a o (by rw [cut_out (by simp [za, zb])]; exact ef _ _ z1)
      · rintro od σ' Hd ⟨D', y7, y8, y9, y10, y11, rfl, hnd, hld, tD', ed⟩
        rw [List.length_map, List.take_length] at tD'
        have tN : Tab W (candC W) (k + 1) D' (tot W (candC W) (k + 1)) := tD'.cast fun φ => nxt_tot hW.pre candC_local tD φ
        have e9 : Ex (cut H8 (pl :: pn :: ms)) (cut (upd Hd pn (.dT (D.map kE))) (pl :: ms)) := fun a o z => by
          obtain ⟨z1, z2⟩ := cut_some z
          have za : a ≠ pl := fun q => z1 (by rw [q]; exact List.mem_cons_self)
          have zb : a ≠ pn := fun q => z1 (by rw [q]; exact List.mem_cons_of_mem _ List.mem_cons_self)
          have zc : a ∉ ms := fun q => z1 (List.mem_cons_of_mem _ (List.mem_cons_of_mem _ q))
          rw [cut_out (by simp [za, zc]), upd_ne zb]
          exact ed a o (by rw [cut_out (by simp [za, zb])]; exact z2)
        have hl9 : (upd Hd pn (.dT (D.map kE))) pl = some (.dT (D'.map kE)) := by rw [upd_ne hnl.symm]; exact hld
        have eB9 : Ex B (upd Hd pn (.dT (D.map kE))) := fun a o z => by
          have z8 := e78 _ _ ((eb.trans ec) a o z)
          by_cases qn : a = pn
          · subst qn
            rw [upd_same, ← z8, hn8]
          · have za : a ≠ pl := ne_of_none (e7 _ _ ((eb.trans ec) a o z)) npl
            rw [upd_ne qn]
            exact ed a o (by rw [cut_out (by simp [za, qn])]; exact z8)
        refine s_par (e_ref (v := .ref pl) rfl) (fun v H10 e10 hv => e_var (ms := pl :: ms) (d := dNs (W.kept k)) (v := vk) rfl ((rk8.mono e9).mono (ex_cut e10))) fun v u H10 H11 e10 hv e11 ru => ?_
        subst hv
        have ee := e10.trans e11
        exact ⟨pl, u, D', _, _, _, _, _, _, _, _, rfl, nplH, ee _ _ hl9, tN, rp_keep ee (rn8.mono e9), ru, eB9.trans ee⟩
    · rintro B σ' H' eB ⟨pn, va, D, y4, y5, y6, y7, y8, y9, y10, y11, rfl, npn, hnc, tD, rnc, rac, eb⟩
      rw [rgD_len, show ((W.n : Int)).toNat = W.n by omega] at tD
      have eH' := (eH6.trans eB).trans eb
      refine s_ret (e_is (e_sumV (ms := ms) (ns := D.map (·.2)) (e_ref rfl) hnc (by rw [List.map_map, List.map_map]; rfl)) (by rw [len_tot tD]; rfl)) fun v H7 e7 p => k v H7 (eH'.trans e7) p
end
end T

set_option Elab.async false
set_option linter.all false
set_option maxRecDepth 100000
set_option maxHeartbeats 4000000
namespace T
open PySem PySem.Spec PyProof.Rows L2 RZ G M GX
open Evl (Ex EvT et_or et_not et_and)
section
variable {P : Program} {w : World} {K : PySem.W.Frag} {mg : Str → Option Value} {base : Heap} {f : Addr} {fd : FuncData}
/-- xs.append(e), the item itself -/
theorem q_appV {σ : L2.St} {H : Hp} {D : Ends} {tz : TS} {ta te : TE} {l : Addr} {xs : List V} {v0 : V} (ha : EvP ta σ H fun w _ => w = .ref l) (hl : H l = some (.lst xs)) (h : EvP te σ H fun w _ => w = v0) (hz : xs.length < 100000)
    (q : ∀ H1, Ex H H1 → tz D σ (upd H1 l (.lst (xs ++ [v0])))) : tSeq (tDrop (tBM K "list" rAppend ta (tCons te tNil))) tz D σ H := ha H (Ex.refl _) _ fun w H1 e1 hw => by
  subst hw
  refine ⟨.inl ⟨rfl, xs, SqL.of (e1 l _ hl)⟩, h H1 e1 _ fun v H2 e2 r => ?_⟩
  subst r
  exact ⟨l, xs, v, rfl, rfl, (e1.trans e2) l _ hl, Evl.sz_lt hz, q H2 (e1.trans e2)⟩
theorem q_par3 {σ : L2.St} {H : Hp} {D : Ends} {k l m : Nat} {tz : TS} {ta tb tc : TE} {P1 : V → Hp → Prop} {P2 P3 : V → Hp → V → Hp → Prop} (h1 : EvP ta σ H P1) (h2 : ∀ v H1, Ex H H1 → P1 v H1 → EvP tb σ H1 (P2 v H1)) (h3 : ∀ v H1 u H2, Ex H H1 → P1 v H1 → Ex H1 H2 → P2 v H1 u H2 → EvP tc σ H2 (P3 u H2))
    (q : ∀ v u w H1 H2 H3, Ex H H1 → P1 v H1 → Ex H1 H2 → P2 v H1 u H2 → Ex H2 H3 → P3 u H2 w H3 → tz D (((σ.set k (some v)).set l (some u)).set m (some w)) H3) :
    tSeq (tPar3 k l m (tCons ta (tCons tb (tCons tc tNil)))) tz D σ H := h1 H (Ex.refl _) _ fun v H1 e1 p1 => h2 v H1 e1 p1 H1 (Ex.refl _) _ fun u H2 e2 p2 => h3 v H1 u H2 e1 p1 e2 p2 H2 (Ex.refl _) _ fun w H3 e3 p3 => ⟨v, u, w, rfl, q v u w H1 H2 H3 e1 p1 e2 p2 e3 p3⟩
noncomputable def cfH (W : Web) : Nat → (Nat → Int) → List Int := cand W (lowL W) (highL W)
theorem low_at {W : Web} {v : Nat} (h : v < W.n) : atc (lowL W) v = -(W.dist 0 v : Int) := by
  unfold atc lowL
  rw [List.getD_eq_getElem?_getD, List.getElem?_map, List.getElem?_range h]; rfl
theorem high_at {W : Web} {v : Nat} (h : v < W.n) : atc (highL W) v = (W.dist 0 v : Int) := by
  unfold atc highL
  rw [List.getD_eq_getElem?_getD, List.getElem?_map, List.getElem?_range h]; rfl
theorem low_len {W : Web} : (lowL W).length = W.n := by unfold lowL; simp
theorem high_len {W : Web} : (highL W).length = W.n := by unfold highL; simp
theorem cfH_few {W : Web} (hW : W.Ok) (k : Nat) (g : Nat → Int) : (cfH W k g).length ≤ 6 := by
  refine cand_few (fun k => ?_) k g
  by_cases h : k < W.n
  · rw [low_at h, high_at h]
    have := (hW.dist hW.pre.pos).small hW.pre h
    have := hW.pre.few
    omega
  · unfold atc
    rw [List.getD_eq_getElem?_getD, List.getD_eq_getElem?_getD, List.getElem?_eq_none (l := lowL W) (by rw [low_len]; omega), List.getElem?_eq_none (l := highL W) (by rw [high_len]; omega)]
    simp
def sp_tables : Sp := fun vs H Q _ => ∃ (W : Web) (ms : List Addr), RpAll (cut H ms) vs [dW W, dC (lowL W), dC (highL W)] ∧ Live H ms ∧ W.Ok ∧
  ∀ v H' p xs pd D, Ex H H' → v = .ref p → H' p = some (.lst (xs ++ [.ref pd])) → H' pd = some (.dT (D.map kE)) → Tab W (cfH W) W.n D (tot W (cfH W) W.n) → Q v H'
abbrev s_tables_of : Stmt := topS 42
theorem sc_tables_of : FnScope ["web", "low", "high", "nears", "found", "now", "ahead", "field", "keep", "later", "told", "many", "here", "height", "key", "one"] ["web", "low", "high"] (defScope s_tables_of) := ⟨rfl, rfl, rfl, by decide +kernel, rfl, by decide +kernel, by decide +kernel⟩
theorem ok_tables_of (F : Fun K "tables_of" "tables_of" s_tables_of f fd) (b : Blt mg) (c_nears_of : Dfn P w K mg base 1 "nears_of" ["web"] sp_nears) (c_kept_at : Dfn P w K mg base 1 "kept_at" ["nears", "last"] sp_kept) (c_choices_at : Dfn P w K mg base 1 "choices_at" ["nears", "field", "here", "low", "high"] sp_choices) : FnOk P w K mg base CX0 2 f fd ["web", "low", "high"] sp_tables := by
  refine F.ok sc_tables_of (fun vs H Q E h => ?_) (fun cdv A outer s H vs Q E hr h => ?_)
  · obtain ⟨W, ms, r, _⟩ := h; exact r.len
  · obtain ⟨W, ms, r, L, hW, k⟩ := h
    have nd := sc_tables_of.nd
    refine ⟨_, pss_cons (ps_par3 (i := 3) (j := 4) (l := 5) rfl nd rfl rfl rfl (by decide) (by decide) (by decide) rfl rfl rfl (pa_cons (pe_own c_nears_of hr (pa_cons (pv 0) pa_nil)) (pa_cons (pe_lst pa_nil) (pa_cons (pe_dispT (hu_of hr) (pe_tup pa_nil) (pe_int)) pa_nil))) (by rfl)) (pss_cons (ps_set (i := 6) nd rfl (Or.inl rfl) (pe_lst pa_nil)) (pss_cons (ps_for PassesOwn.never rfl (pi_range1 (by rfl) b.range (pa_cons (pe_ix (ix_tupK K rfl) (pv 0) (pe_int) (fun _ _ => rfl)) pa_nil)) (pg_name (i := 7) nd rfl (Or.inl rfl)) (pss_cons (ps_par (i := 8) (j := 9) rfl nd rfl rfl (by decide) rfl rfl (pa_cons (pe_own c_kept_at hr (pa_cons (pv 3) (pa_cons (pv 7) pa_nil))) (pa_cons (pe_dnewT) pa_nil)) (by rfl)) (pss_cons (ps_lock (ps_for PassesOwn.never rfl (pi_itemsT (pv 5)) (pg_tupK (n := 2) K rfl rfl (pgs_cons (pg_name (i := 10) nd rfl (Or.inl rfl)) (pgs_cons (pg_name (i := 11) nd rfl (Or.inl rfl)) (pgs_nil)))) (pss_cons (ps_set (i := 12) nd rfl (Or.inr rfl) (pe_dictZip rfl (by rfl) b.dict (by rfl) b.zip (pv 6) (pv 10))) (pss_one (ps_for PassesOwn.never rfl (pi_listK K rfl (pe_own c_choices_at hr (pa_cons (pv 3) (pa_cons (pv 7) (pa_cons (pv 12) (pa_cons (pv 1) (pa_cons (pv 2) pa_nil))))))) (pg_name (i := 13) nd rfl (Or.inl rfl)) (pss_cons (ps_dput (hu_of hr) (pv 12) (pv 7) (pv 13) rfl) (pss_cons (ps_set (i := 14) nd rfl (Or.inl rfl) (pe_callTy (call_tupleK K rfl) (by rfl) b.tuple (by decide +kernel) (pa_cons (pe_lc (own := [("one", 15)]) rfl nd (pi_listK K rfl (pv 8)) (blkOk_by (own := [("one", 15)]) (N := ["web", "low", "high", "nears", "found", "now", "ahead", "field", "keep", "later", "told", "many", "here", "height", "key", "one"]) (sc := (defScope s_tables_of)) (by decide +kernel)) (fun _ _ _ _ _ => pg_name (i := 15) nd rfl (Or.inl rfl)) (fun _ _ _ _ _ => pts_nil) (fun _ _ _ _ _ => pe_dget (hu_of hr) (pv 12) (pv 15) (fun _ _ => rfl))) pa_nil))) (pss_one (ps_dput (hu_of hr) (pv 9) (pv 14) (pe_op op_add (pe_dget2 (hu_of hr) (pv 9) (pv 14) (pe_int) ⟨rfl, rfl, rfl, rfl⟩) (pv 11)) rfl))))))))) (pss_cons (ps_expr (pe_bm PySem.F.plainAttrs_list PySem.F.slot_list_append PySem.F.type_list_append mt_append (pv 4) (pa_cons (pv 9) pa_nil))) (pss_one (ps_par (i := 5) (j := 6) rfl nd rfl rfl (by decide) rfl rfl (pa_cons (pv 9) (pa_cons (pv 8) pa_nil)) (by rfl))))))) (pss_one (ps_ret (pv 4))))), ?_⟩
    obtain ⟨v1, vl, vh, rfl, r1, rl, rh⟩ := r.three
    have hn := hW.pre.few
    have hp := hW.pre.pos
    refine q_par3 (e_call (ms := ms) (a_cons (e_var rfl r1) a_nil) L ⟨W, rfl, hW.pre, rfl⟩) (fun v H1 _ _ => n_nil) (fun v H1 u H2 _ _ _ _ => n_dispT (ms := []) (ks := []) (e_tup a_nil (by simp) Live.nil) (v_int (i := 1))) fun vn vf vp H1 H2 H3 e1 rn e2 ⟨pf, hvf, nf, hf⟩ e3 ⟨pn, hvp, nn, hn3⟩ => ?_
    subst hvf hvp
    have hf3 := e3 _ _ hf
    have hfn : pf ≠ pn := ne_of_none hf nn
    have e13 := e2.trans e3
    have cm : Ex (cut H1 ms) (cut H3 (pf :: pn :: ms)) := cut_more (qs := [pf, pn]) (fun q hq => by
      rcases List.mem_cons.mp hq with rfl | hq
      · exact nf
      · cases List.mem_singleton.mp hq; exact Evl.fresh_back e2 nn) e13
    have nfH : H pf = none := Evl.fresh_back e1 nf
    have nnH : H pn = none := Evl.fresh_back (e1.trans e2) nn
    have eH3 := e1.trans e13
    replace rn := rn.mono cm
    have r13 := (rp_keep e1 r1).mono cm
    have rl3 := (rp_keep e1 rl).mono cm
    have rh3 := (rp_keep e1 rh).mono cm
    have L3 : Live H3 (pf :: pn :: ms) := Live.app (qs := [pf, pn]) (fun q hq => by
      rcases List.mem_cons.mp hq with rfl | hq
      · exact ⟨_, hf3⟩
      · cases List.mem_singleton.mp hq; exact ⟨_, hn3⟩) (L.mono eH3)
    show tSeq _ _ _ [some v1, some vl, some vh, some vn, some (.ref pf), some (.ref pn), none, none, none, none, none, none, none, none, none, none] H3
    refine q_asg (e_lst (ms := pf :: pn :: ms) a_nil (by simp) L3) fun va H4 e4 ra => ?_
    have hf4 := e4 _ _ hf3
    have hn4 := e4 _ _ hn3
    have eH4 := eH3.trans e4
    show tSeq _ _ _ [some v1, some vl, some vh, some vn, some (.ref pf), some (.ref pn), some va, none, none, none, none, none, none, none, none, none] H4
    refine s_seqfor (ms := [pf]) (src_rg1 (ms := [pf]) (j := (W.n : Int)) (a_cons (e_ixT (e_var rfl ((rp_keep e4 r13).mono (cut_sub (by simp)))) e_int rfl) a_nil) (by omega))
      (fun B k σ' H' => ∃ (pn : Addr) (va : V) (D : List (List Int × Int)) (xs : List V) (y7 y8 y9 y10 y11 y12 y13 y14 : Option V), σ' = [some v1, some vl, some vh, some vn, some (.ref pf), some (.ref pn), some va, y7, y8, y9, y10, y11, y12, y13, y14, none] ∧ H pn = none ∧ pf ≠ pn ∧ H' pn = some (.dT (D.map kE)) ∧ Tab W (cfH W) k D (tot W (cfH W) k) ∧
        H' pf = some (.lst xs) ∧ xs.length = k ∧ (k = 0 ∨ ∃ xs0, xs = xs0 ++ [.ref pn]) ∧
        Rp (cut H' (pf :: pn :: ms)) vn (dNears W) ∧ Rp (cut H' (pf :: pn :: ms)) vl (dC (lowL W)) ∧ Rp (cut H' (pf :: pn :: ms)) vh (dC (highL W)) ∧ Rp (cut H' (pf :: pn :: ms)) va (dNs (W.kp k)) ∧ Ex (cut B [pf]) H' ∧ Ex H H')
      (fun B eB => ⟨pn, va, [([], 1)], [], none, none, none, none, none, none, none, none, rfl, nnH, hfn, eB _ _ hn4, Tab.zero, eB _ _ hf4, rfl, .inl rfl, rp_keep (e4.trans eB) rn, rp_keep (e4.trans eB) rl3, rp_keep (e4.trans eB) rh3, rp_keep eB ra, cut_le, eH4.trans eB⟩) (fun B i σ' H' _ _ ⟨_, _, _, _, _, _, _, _, _, _, _, _, _, _, _, _, _, _, _, _, _, _, _, _, h, _⟩ => h) ?_ ?_
    · rintro B k d v σ' Hc H' eB hd ⟨pn, va, D, xs, y7, y8, y9, y10, y11, y12, y13, y14, rfl, npn, hfn, hnc, tD, hfc, hxl, hxs, rnc, rlc, rhc, rac, eb, eHc⟩ ec hr
      obtain ⟨hk, rfl⟩ := rgD_get hd
      have hk : k < W.n := by omega
      have eH' := eHc.trans ec
      cases (hr [pf] (ex_cut_in eb) (fun m hm => by cases List.mem_singleton.mp hm; exact ⟨_, hfc⟩)).int_of
      rw [Int.zero_add]
      have hn' := ec _ _ hnc
      have hf' := ec _ _ hfc
      replace rnc := rp_keep ec rnc
      replace rlc := rp_keep ec rlc
      replace rhc := rp_keep ec rhc
      replace rac := rp_keep ec rac
      have L' : Live H' (pf :: pn :: ms) := Live.app (qs := [pf, pn]) (fun q hq => by
        rcases List.mem_cons.mp hq with rfl | hq
        · exact ⟨_, hf'⟩
        · cases List.mem_singleton.mp hq; exact ⟨_, hn'⟩) (L.mono eH')
      show tSeq _ _ _ [some v1, some vl, some vh, some vn, some (.ref pf), some (.ref pn), some va, some (.int (k : Int)), y8, y9, y10, y11, y12, y13, y14, none] H'
      -- keep, later
      refine q_par (e_call (ms := pf :: pn :: ms) (a_cons (e_var rfl rnc) (a_cons (e_var rfl (.int _)) a_nil)) L' ⟨W, k, rfl, hW.pre, hk, rfl⟩) (fun v H7 _ _ => n_newT) fun vk vlt H7 H8 e7 rk e8 ⟨pl, hvl, npl, hl8⟩ => ?_
      subst hvl
      have e78 := e7.trans e8
      have hn8 := e78 _ _ hn'
      have hf8 := e78 _ _ hf'
      have hnl : pn ≠ pl := ne_of_none (e7 _ _ hn') npl
      have hfl : pf ≠ pl := ne_of_none (e7 _ _ hf') npl
      have cm : Ex (cut H7 (pf :: pn :: ms)) (cut H8 (pl :: pf :: pn :: ms)) := cut_more (qs := [pl]) (fun q hq => by cases List.mem_singleton.mp hq; exact npl) e8
      have rn8 := (rp_keep e7 rnc).mono cm
      have rl8 := (rp_keep e7 rlc).mono cm
      have rh8 := (rp_keep e7 rhc).mono cm
      have ra8 := (rp_keep e7 rac).mono cm
      have rk8 := rk.mono cm
      have eH8 := eH'.trans e78
      have nplH : H pl = none := Evl.fresh_back (eH'.trans e7) npl
      show tSeq _ _ _ [some v1, some vl, some vh, some vn, some (.ref pf), some (.ref pn), some va, some (.int (k : Int)), some vk, some (.ref pl), y10, y11, y12, y13, y14, none] H8
      refine q_items (kd := 5) rfl hn8 (fun od j σ' Hc => ∃ (D' : List (List Int × Int)) (y10 y11 y12 y13 y14 : Option V), σ' = [some v1, some vl, some vh, some vn, some (.ref pf), some (.ref pn), some va, some (.int (k : Int)), some vk, some (.ref pl), y10, y11, y12, y13, y14, none] ∧ Hc pn = some (.frz od (.dT (D.map kE))) ∧
        Hc pl = some (.dT (D'.map kE)) ∧ Tab W (cfH W) (k + 1) D' (fun φ => ((D.take j).map fun p => nxt W (cfH W) k p φ).sum) ∧ Ex (cut H8 [pl, pn]) Hc) ?_ (fun od i σ' H' _ ⟨_, _, _, _, _, _, _, h, _⟩ => h) ?_ ?_
      · intro od
        exact ⟨[], y10, y11, y12, y13, y14, rfl, upd_same, by rw [upd_ne hnl.symm]; exact hl8, Tab.none.cast fun φ => by simp, ex_cut_upd cut_le (by simp)⟩
      · rintro od j ks v0 T q σ' Hd hj ⟨D', y10, y11, y12, y13, y14, rfl, hnd, hld, tD', ed⟩ hq nT D2 hD2
        rw [List.getElem?_map] at hj
        obtain ⟨p, hpj, hpe⟩ := Option.map_eq_some_iff.mp hj
        cases hpe
        have hpD : p ∈ D := List.mem_of_getElem? hpj
        obtain ⟨c, hc, hpc⟩ := tD.key p.1 (List.mem_map_of_mem hpD)
        have eT := Ex.new nT (o := .tup [.ref q, .int p.2])
        refine ⟨T, _, rfl, SqT.of upd_same, rfl, _, _, rfl, _, _, rfl, rfl, ?_⟩
        have hndT := eT _ _ hnd
        have hldT := eT _ _ hld
        have hqT := eT _ _ hq
        replace ed := ed.trans eT
        generalize upd Hd T (.tup [.ref q, .int p.2]) = He at *
        have sub8 : Ex (cut H8 (pl :: pf :: pn :: ms)) He := fun a o z => ed a o (cut_sub (fun m hm => by
          rcases List.mem_cons.mp hm with rfl | hm
          · simp
          · cases List.mem_singleton.mp hm; simp) a o z)
        have rae := (ra8.mono sub8)
        have rte : Rp He (.ref q) (.tuple (p.1.map PyData.int)) := .tup (by rw [hqT, kI_vs]) (RpAll.ints _)
        rw [hpc] at rte
        show tSeq _ _ _ [some v1, some vl, some vh, some vn, some (.ref pf), some (.ref pn), some va, some (.int (k : Int)), some vk, some (.ref pl), some (.ref q), some (.int p.2), y12, y13, y14, none] He
        refine q_asg (n_dictZip (ms := []) (l := W.kp k) (f := atc c) (e_var rfl rae) (e_var rfl rte)) fun vh' Hf ef ⟨ph, kvs0, hvh, nph, hph, hl0, hv0⟩ => ?_
        subst hvh
        have hplh : ph ≠ pl := (ne_of_none hldT nph).symm
        have hpnh : ph ≠ pn := (ne_of_none hndT nph).symm
        have hkpl := kp_len (W := W) (k := k)
        have up : ∀ {Hx : Hp}, Ex (cut Hf [ph, pl]) Hx → Ex (cut H8 (pl :: pf :: pn :: ms)) Hx := fun e a o z => by
          have z1 := sub8 a o z
          have za : a ≠ ph := ne_of_none z1 nph
          have zb : a ≠ pl := fun q => (cut_some z).1 (by rw [q]; exact List.mem_cons_self)
          exact e a o (by rw [cut_out (by simp [za, zb])]; exact ef _ _ z1)
        have upc : Ex (cut H8 (pl :: pf :: pn :: ms)) (cut Hf [ph, pl]) := up (Ex.refl _)
        have Lf : Live Hf [ph, pl] := fun m hm => by
          rcases List.mem_cons.mp hm with rfl | hm
          · exact ⟨_, hph⟩
          · cases List.mem_singleton.mp hm; exact ⟨_, ef _ _ hldT⟩
        have hdk := (hW.dist hp).small hW.pre hk
        show tFor _ _ _ _ [some v1, some vl, some vh, some vn, some (.ref pf), some (.ref pn), some va, some (.int (k : Int)), some vk, some (.ref pl), some (.ref q), some (.int p.2), some (.ref ph), y13, y14, none] Hf
        refine s_for (ms := [ph, pl]) (ds := (cfH W k (atc c)).map PyData.int) (src_list (e_callC fun H9 e9 Q q9 => c_cons (e_ref (v := vn) rfl) fun w1 H10 e10 p1 => c_cons (e_ref (v := .int (k : Int)) rfl) fun w2 H11 e11 p2 => c_cons (e_ref (v := .ref ph) rfl) fun w3 H12 e12 p3 => c_cons (e_ref (v := vl) rfl) fun w4 H13 e13 p4 => c_cons (e_ref (v := vh) rfl) fun w5 H14 e14 p5 => c_nil ?_))
          (fun B2 i σ' Hg => ∃ (D'' : List (List Int × Int)) (kvs : List (L2.Key × V)) (y13 y14 : Option V), σ' = [some v1, some vl, some vh, some vn, some (.ref pf), some (.ref pn), some va, some (.int (k : Int)), some vk, some (.ref pl), some (.ref q), some (.int p.2), some (.ref ph), y13, y14, none] ∧
            Hg ph = some (.dK kvs) ∧ kvs.length ≤ 10 + i ∧ (∀ u ∈ W.kp k, valV kvs (Sum.inl (u : Int)) = some (.int (atc c u))) ∧ Hg pl = some (.dT (D''.map kE)) ∧
            Tab W (cfH W) (k + 1) D'' (fun φ => ((D.take j).map fun p => nxt W (cfH W) k p φ).sum + (((cfH W k (atc c)).take i).map fun x => p.2 * φ (W.nk k (atc c) x)).sum) ∧ Ex (cut B2 [ph, pl]) Hg)
          (fun B2 eB2 => ⟨D', kvs0, y13, y14, rfl, eB2 _ _ hph, by omega, hv0, eB2 _ _ (ef _ _ hldT), tD'.cast fun φ => by simp, cut_le⟩) (fun B2 i σ' H' _ _ ⟨_, _, _, _, _, _, _, _, _, _, h⟩ => h) ?_ ?_
        · subst p1 p2 p3 p4 p5
          have eall := ((((e9.trans e10).trans e11).trans e12).trans e13).trans e14
          exact ⟨W, k, lowL W, highL W, atc c, kvs0, ph, w1, w4, w5, [ph, pl], rfl, (rn8.mono upc).mono (ex_cut eall), (rl8.mono upc).mono (ex_cut eall), (rh8.mono upc).mono (ex_cut eall), Lf.mono eall, hW.pre, hk, low_len, high_len,
            ⟨by rw [low_at hk]; omega, by rw [low_at hk, high_at hk]; omega, by rw [high_at hk]; omega⟩, eall _ _ hph, fun u hu => hv0 u (ahd_kp hW.pre hu), fun v H' e p => q9 v H' (((((e10.trans e11).trans e12).trans e13).trans e14).trans e) p⟩
        · rintro B2 i d v σ' Hg Hg' eB2 hd2 ⟨D'', kvs, y13, y14, rfl, hphg, hlen, hval, hplg, tD'', eg⟩ eg' hr2
          rw [List.getElem?_map] at hd2
          obtain ⟨x, hx, rfl⟩ := Option.map_eq_some_iff.mp hd2
          have hi : i < (cfH W k (atc c)).length := (List.getElem?_eq_some_iff.mp hx).1
          have hi6 := cfH_few hW k (atc c)
          have Lg : Live Hg [ph, pl] := fun m hm => by
            rcases List.mem_cons.mp hm with rfl | hm
            · exact ⟨_, hphg⟩
            · cases List.mem_singleton.mp hm; exact ⟨_, hplg⟩
          cases (hr2 [ph, pl] (ex_cut_in eg) Lg).int_of
          have hph' := eg' _ _ hphg
          have hpl' := eg' _ _ hplg
          have sf : Ex (cut Hf [ph, pl]) Hg' := ((ex_cut eB2).trans eg).trans eg'
          have rkg := rk8.mono (up sf)
          have tk3 : (cfH W k (atc c)).take (i + 1) = (cfH W k (atc c)).take i ++ [x] := by rw [List.take_add_one, hx]; rfl
          have hic : x ∈ cfH W k (atc c) := List.mem_of_getElem? hx
          show tSeq _ _ _ [some v1, some vl, some vh, some vn, some (.ref pf), some (.ref pn), some va, some (.int (k : Int)), some vk, some (.ref pl), some (.ref q), some (.int p.2), some (.ref ph), some (.int x), y14, none] Hg'
          refine turn3 (W := W) (cf := cfH W) (c := c) (k := k) (x := x) (m := p.2) (hv := atc c) (sh := 12) (sf := 7) (sx := 13) (sk := 8) (so := 15) (sy := 14) (sl := 9) (sm := 11) rfl rfl rfl rfl rfl rfl (by decide) (by decide) (by decide) (by simp) (by simp) rfl hW.pre hk hc hic (fun _ _ => rfl) (cfH_few hW) hph' (by omega) hval hpl' hplh tD'' rkg fun H4 kvs' v hl' hv' hph4 t4 hpl4 e4 => ?_
          refine ⟨_, kvs', _, _, rfl, hph4, by omega, hv', hpl4, t4.cast fun φ => ?_, ?_⟩
          · rw [tk3, List.map_append, List.sum_append]
            simp only [List.map_cons, List.map_nil, List.sum_cons, List.sum_nil]
            omega
          · exact (ex_cut_in (eg.trans eg')).trans e4
        · rintro B2 σ' Hg eB2 ⟨D'', kvs, y13, y14, rfl, hphg, hlen, hval, hplg, tD'', eg⟩
          rw [List.length_map, List.take_length] at tD''
          have sf : Ex (cut Hf [ph, pl]) Hg := (ex_cut eB2).trans eg
          have hpnf := ef _ _ hndT
          refine hD2 _ _ ⟨D'', _, _, _, _, _, rfl, sf _ _ (by rw [cut_out (by simp [hpnh.symm, hnl])]; exact hpnf), hplg, tD''.cast fun φ => ?_, fun a o z => ?_⟩
          · rw [List.take_add_one, hpj, List.map_append, List.sum_append]
            have := nxt_rep (cf := cfH W) hW.pre cand_local hpc φ
            show _ = _ + (nxt W (cfH W) k p φ + 0)
            rw [this, Int.add_zero]
          · have z1 := ed a o z
            have za : a ≠ ph := ne_of_none z1 nph
            have zb : a ≠ pl := fun q => (cut_some z).1 (by rw [q]; exact List.mem_cons_self)
            exact sf a o (by rw [cut_out (by simp [za, zb])]; exact ef _ _ z1)
      · rintro od σ' Hd ⟨D', y10, y11, y12, y13, y14, rfl, hnd, hld, tD', ed⟩
        rw [List.length_map, List.take_length] at tD'
        have tN : Tab W (cfH W) (k + 1) D' (tot W (cfH W) (k + 1)) := tD'.cast fun φ => nxt_tot hW.pre cand_local tD φ
        have e9 : Ex (cut H8 (pl :: pf :: pn :: ms)) (cut (upd Hd pn (.dT (D.map kE))) (pf :: pl :: ms)) := fun a o z => by
          obtain ⟨z1, z2⟩ := cut_some z
          simp only [List.mem_cons, not_or] at z1
          rw [cut_out (by simp [z1]), upd_ne z1.2.2.1]
          exact ed a o (by rw [cut_out (by simp [z1])]; exact z2)
        have hl9 : (upd Hd pn (.dT (D.map kE))) pl = some (.dT (D'.map kE)) := by rw [upd_ne hnl.symm]; exact hld
        have hf9 : (upd Hd pn (.dT (D.map kE))) pf = some (.lst xs) := by rw [upd_ne hfn]; exact ed _ _ (by rw [cut_out (by simp [hfl, hfn])]; exact hf8)
        have e89 : Ex H8 (upd Hd pn (.dT (D.map kE))) ∨ True := .inr trivial
        have eB9 : ∀ a o, H' a = some o → (upd Hd pn (.dT (D.map kE))) a = some o := fun a o z => by
          have z8 := e78 _ _ z
          by_cases qn : a = pn
          · subst qn
            rw [upd_same, ← z8, hn8]
          · have za : a ≠ pl := ne_of_none (e7 _ _ z) npl
            rw [upd_ne qn]
            exact ed a o (by rw [cut_out (by simp [za, qn])]; exact z8)
        refine q_appV (e_ref rfl) hf9 (e_ref (v := .ref pl) rfl) (by omega) fun H10 e10 => ?_
        have e10' : Ex (cut (upd Hd pn (.dT (D.map kE))) (pf :: pl :: ms)) (cut (upd H10 pf (.lst (xs ++ [.ref pl]))) (pf :: pl :: ms)) := by
          rw [cut_upd List.mem_cons_self]; exact ex_cut e10
        have hl10 : (upd H10 pf (.lst (xs ++ [.ref pl]))) pl = some (.dT (D'.map kE)) := by rw [upd_ne hfl.symm]; exact e10 _ _ hl9
        refine s_par (e_ref (v := .ref pl) rfl) (fun v H11 e11 hv => e_var (ms := pf :: pl :: ms) (d := dNs (W.kept k)) (v := vk) rfl (((rk8.mono e9).mono e10').mono (ex_cut e11))) fun v u H11 H12 e11 hv e12 ru => ?_
        subst hv
        have ee := e11.trans e12
        have up9 : Ex (cut H8 (pl :: pf :: pn :: ms)) (cut H12 (pf :: pl :: ms)) := (e9.trans e10').trans (ex_cut ee)
        refine ⟨pl, u, D', xs ++ [.ref pl], _, _, _, _, _, _, _, _, rfl, nplH, hfl, ee _ _ hl10, tN, ee _ _ upd_same, by simp [hxl], .inr ⟨xs, rfl⟩, rn8.mono up9, rl8.mono up9, rh8.mono up9, ru, ?_, ?_⟩
        · refine Ex.trans (fun a o z => ?_) ee
          obtain ⟨z1, z2⟩ := cut_some z
          have z3 : a ≠ pf := fun q => z1 (by rw [q]; exact List.mem_cons_self)
          rw [upd_ne z3]
          exact e10 _ _ (eB9 a o (ec _ _ (eb a o z)))
        · exact Ex.trans (Ex.mut (Ex.trans (fun a o z => eB9 a o (eH' a o z)) e10) nfH) ee
    · rintro B σ' H' eB ⟨pn, va, D, xs, y7, y8, y9, y10, y11, y12, y13, y14, rfl, npn, hfn, hnc, tD, hfc, hxl, hxs, rnc, rlc, rhc, rac, eb, eHc⟩
      rw [rgD_len, show ((W.n : Int)).toNat = W.n by omega] at tD hxs
      obtain ⟨xs0, rfl⟩ := hxs.resolve_left (by omega)
      exact s_ret (e_ref (v := .ref pf) rfl) fun v H7 e7 p => by
        subst p
        exact k _ H7 pf xs0 pn D (eHc.trans e7) rfl (e7 _ _ hfc) (e7 _ _ hnc) tD
end
end T

set_option Elab.async false
set_option linter.all false
set_option maxRecDepth 100000
set_option maxHeartbeats 4000000
namespace T
open PySem PySem.Spec PyProof.Rows L2 RZ G M GX
open Evl (Ex EvT et_or et_not et_and)
section
variable {P : Program} {w : World} {K : PySem.W.Frag} {mg : Str → Option Value} {base : Heap} {f : Addr} {fd : FuncData}
theorem e_sumVc {σ : L2.St} {H : Hp} {ms : List Addr} {ta : TE} {i : Int} (h : EvP ta σ H fun w H2 => ∃ (p : Addr) (kvs : List (List L2.Key × V)) (ns : List Int), w = .ref p ∧ H2 p = some (.dT kvs) ∧ kvs.map (·.2) = ns.map V.int ∧ ns.sum = i) : ED ms (tSumV ta) σ H (.int i) := fun H1 e Q q => h H1 e _ fun x H2 e2 ⟨p, kvs, ns, hx, hp, hn, hi⟩ => by
  subst hx hi
  exact ⟨p, kvs, ns, rfl, hp, hn, q _ H2 e2 (.int _)⟩
/-- how many layings from 0 -/
noncomputable def layN (W : Web) : Nat := (parts (cfH W) W.n).length
def sp_within : Sp := PSm fun ds d => ∃ W : Web, ds = [dW W, dC (lowL W), dC (highL W)] ∧ W.Ok ∧ d = dN (layN W)
abbrev s_number_within : Stmt := topS 43
theorem sc_number_within : FnScope ["web", "low", "high"] ["web", "low", "high"] (defScope s_number_within) := ⟨rfl, rfl, rfl, by decide +kernel, rfl, by decide +kernel, by decide +kernel⟩
theorem ok_number_within (F : Fun K "number_within" "number_within" s_number_within f fd) (b : Blt mg) (c_tables_of : Dfn P w K mg base 2 "tables_of" ["web", "low", "high"] sp_tables) : FnOk P w K mg base CX0 3 f fd ["web", "low", "high"] sp_within := by
  refine F.ok sc_number_within (fun vs H Q E h => ?_) (fun cdv A outer s H vs Q E hr h => ?_)
  · obtain ⟨ds, d, ms, r, _, ⟨W, rfl, _⟩, _⟩ := h; exact r.len
  · obtain ⟨ds, d, ms, r, L, ⟨W, rfl, hW, rfl⟩, k⟩ := h
    have nd := sc_number_within.nd
    refine ⟨_, pss_one (ps_ret (pe_sumV (pe_ix (ix_listK K rfl) (pe_own c_tables_of hr (pa_cons (pv 0) (pa_cons (pv 1) (pa_cons (pv 2) pa_nil)))) (pe_un un_neg (pe_int)) (fun _ _ => rfl)) b.sum)), ?_⟩
    obtain ⟨v1, v2, v3, rfl, r1, r2, r3⟩ := r.three
    refine s_ret (e_sumVc (ms := ms) (e_op2 (P1 := fun w H2 => ∃ p xs pd D, w = .ref p ∧ H2 p = some (.lst (xs ++ [.ref pd])) ∧ H2 pd = some (.dT (List.map kE D)) ∧ Tab W (cfH W) W.n D (tot W (cfH W) W.n)) (e_callC fun H1 e1 Q q => c_cons (e_var (ms := ms) rfl (rp_keep e1 r1)) fun w1 H2 e2 p1 => c_cons (e_var (ms := ms) rfl (rp_keep (e1.trans e2) r2)) fun w2 H3 e3 p2 => c_cons (e_var (ms := ms) rfl (rp_keep ((e1.trans e2).trans e3) r3)) fun w3 H4 e4 p3 => c_nil ?_) (fun H1 _ => e_neg (ms := ms) e_int)
      (fun x H1 H2 e ⟨p, xs, pd, D, h1, h2, h3, h4⟩ => ⟨p, xs, pd, D, h1, e _ _ h2, e _ _ h3, h4⟩) fun x y H2 e2 ⟨p, xs, pd, D, hv, hp, hpd, tD⟩ ry Q q => ?_)) k
    · exact ⟨W, ms, .cons (rp_keep (e3.trans e4) p1) (.cons (rp_keep e4 p2) (.cons p3 .nil)), L.mono (((e1.trans e2).trans e3).trans e4), hW, fun v H' p xs pd D e hv hp hpd tD => q v H' (((e2.trans e3).trans e4).trans e) ⟨p, xs, pd, D, hv, hp, hpd, tD⟩⟩
    · subst hv
      cases ry.int_of
      exact ⟨p, _, (-1 : Int), .ref pd, rfl, rfl, SqL.of hp, atI_last _ _, q _ H2 (Ex.refl _) ⟨pd, D.map kE, D.map (·.2), rfl, hpd, by rw [List.map_map, List.map_map]; rfl, len_tot tD⟩⟩
abbrev s_count_layings : Stmt := topS 44
theorem sc_count_layings : FnScope ["web", "told"] ["web"] (defScope s_count_layings) := ⟨rfl, rfl, rfl, by decide +kernel, rfl, by decide +kernel, by decide +kernel⟩
theorem ok_count_layings (F : Fun K "count_layings" "count_layings" s_count_layings f fd) (c_need_narrow : Dfn P w K mg base 6 "need_narrow" ["web"] sp_none) (c_number_within : Dfn P w K mg base 3 "number_within" ["web", "low", "high"] sp_within) (c_highest_of : Dfn P w K mg base 3 "highest_of" ["web", "told"] sp_highest) (c_lowest_of : Dfn P w K mg base 4 "lowest_of" ["web", "told"] sp_lowest) : FnOk P w K mg base CX0 7 f fd ["web"] (sp_web fun W d => d = dN (layN W)) := by
  refine F.ok sc_count_layings (fun vs H Q E h => ?_) (fun cdv A outer s H vs Q E hr h => ?_)
  · obtain ⟨ds, d, ms, r, _, ⟨W, rfl, _⟩, _⟩ := h; exact r.len
  · obtain ⟨ds, d, ms, r, L, ⟨W, rfl, hW, rfl⟩, k⟩ := h
    have nd := sc_count_layings.nd
    refine ⟨_, pss_cons (ps_expr (pe_own c_need_narrow hr (pa_cons (pv 0) pa_nil))) (pss_cons (ps_set (i := 1) nd rfl (Or.inl rfl) (pe_tup (pa_cons (pe_tup (pa_cons (pe_int) (pa_cons (pe_int) pa_nil))) pa_nil))) (pss_one (ps_ret (pe_own c_number_within hr (pa_cons (pv 0) (pa_cons (pe_own c_lowest_of hr (pa_cons (pv 0) (pa_cons (pv 1) pa_nil))) (pa_cons (pe_own c_highest_of hr (pa_cons (pv 0) (pa_cons (pv 1) pa_nil))) pa_nil))))))), ?_⟩
    obtain ⟨v1, rfl, r1⟩ := r.one
    refine q_drop (e_call (a_cons (e_var rfl r1) a_nil) L ⟨W, rfl, hW, rfl⟩) fun _ H1 e1 _ => ?_
    have L1 := L.mono e1
    refine q_asg (e_is (d2 := .tuple [d00]) (e_tup (ms := ms) (a_cons (e_tup (a_cons e_int (a_cons e_int a_nil)) (by simp) L1) a_nil) (by simp) L1) rfl) fun vt H2 e2 rt => ?_
    have r12 := rp_keep (e1.trans e2) r1
    have L2' := L1.mono e2
    exact s_ret (e_call (a_cons (e_var rfl r12) (a_cons (e_call (a_cons (e_var rfl r12) (a_cons (e_var rfl rt) a_nil)) L2' ⟨W, rfl, hW, rfl⟩) (a_cons (e_call (a_cons (e_var rfl r12) (a_cons (e_var rfl rt) a_nil)) L2' ⟨W, .inl rfl, hW, rfl⟩) a_nil))) L2' ⟨W, rfl, hW, rfl⟩) fun v H3 e3 p => k v H3 ((e1.trans e2).trans e3) p
theorem lay_few {W : Web} (hW : W.Ok) : layN W ≤ 46656 := by
  have := parts_few (cfH_few hW) W.n
  have := pow6 hW.pre.few
  unfold layN; omega
theorem every_few {W : Web} (hW : W.Ok) : (every W).length ≤ 46656 := by
  have := parts_few (cf := candC W) candC_few W.n
  have := pow6 hW.pre.few
  unfold every; omega
abbrev s_count_laid : Stmt := topS 50
theorem sc_count_laid : FnScope ["web"] ["web"] (defScope s_count_laid) := ⟨rfl, rfl, rfl, by decide +kernel, rfl, by decide +kernel, by decide +kernel⟩
theorem ok_count_laid (F : Fun K "count_laid" "count_laid" s_count_laid f fd) (c_count_layings : Dfn P w K mg base 7 "count_layings" ["web"] (sp_web fun W d => d = dN (layN W))) : FnOk P w K mg base CX0 8 f fd ["web"] (sp_web fun W d => d = dN (3 * layN W)) := by
  refine F.ok sc_count_laid (fun vs H Q E h => ?_) (fun cdv A outer s H vs Q E hr h => ?_)
  · obtain ⟨ds, d, ms, r, _, ⟨W, rfl, _⟩, _⟩ := h; exact r.len
  · obtain ⟨ds, d, ms, r, L, ⟨W, rfl, hW, rfl⟩, k⟩ := h
    have nd := sc_count_laid.nd
    refine ⟨_, pss_one (ps_ret (pe_op op_mul (pe_int) (pe_own c_count_layings hr (pa_cons (pv 0) pa_nil)))), ?_⟩
    obtain ⟨v1, rfl, r1⟩ := r.one
    have hf := lay_few hW
    exact s_ret (e_is (e_IC e_int (e_call (a_cons (e_var rfl r1) a_nil) L ⟨W, rfl, hW, rfl⟩) (.inl ⟨by omega, by omega⟩)) (by show PyData.int _ = PyData.int _; congr 1)) k
def sp_share : Sp := sp_web fun W d => 0 < (every W).length ∧ d = .tuple [dN (3 * layN W / Nat.gcd (3 * layN W) (every W).length), dN ((every W).length / Nat.gcd (3 * layN W) (every W).length)]
abbrev s_laid_share : Stmt := topS 52
theorem sc_laid_share : FnScope ["web", "whole"] ["web"] (defScope s_laid_share) := ⟨rfl, rfl, rfl, by decide +kernel, rfl, by decide +kernel, by decide +kernel⟩
theorem ok_laid_share (F : Fun K "laid_share" "laid_share" s_laid_share f fd) (c_need_narrow : Dfn P w K mg base 6 "need_narrow" ["web"] sp_none) (c_count_colorings : Dfn P w K mg base 6 "count_colorings" ["web"] (sp_num fun W => (every W).length)) (c_lowered : Dfn P w K mg base 2 "lowered" ["above", "low"] sp_lowered) (c_count_layings : Dfn P w K mg base 7 "count_layings" ["web"] (sp_web fun W d => d = dN (layN W))) : FnOk P w K mg base CX0 8 f fd ["web"] sp_share := by
  refine F.ok sc_laid_share (fun vs H Q E h => ?_) (fun cdv A outer s H vs Q E hr h => ?_)
  · obtain ⟨ds, d, ms, r, _, ⟨W, rfl, _⟩, _⟩ := h; exact r.len
  · obtain ⟨ds, d, ms, r, L, ⟨W, rfl, hW, h0, rfl⟩, k⟩ := h
    have nd := sc_laid_share.nd
    refine ⟨_, pss_cons (ps_expr (pe_own c_need_narrow hr (pa_cons (pv 0) pa_nil))) (pss_cons (ps_set (i := 1) nd rfl (Or.inl rfl) (pe_own c_count_colorings hr (pa_cons (pv 0) pa_nil))) (pss_one (ps_ret (pe_own c_lowered hr (pa_cons (pe_op op_mul (pe_int) (pe_own c_count_layings hr (pa_cons (pv 0) pa_nil))) (pa_cons (pv 1) pa_nil)))))), ?_⟩
    obtain ⟨v1, rfl, r1⟩ := r.one
    have hf := lay_few hW
    have he := every_few hW
    refine q_drop (e_call (a_cons (e_var rfl r1) a_nil) L ⟨W, rfl, hW, rfl⟩) fun _ H1 e1 _ => ?_
    refine q_asg (e_call (a_cons (e_var rfl (rp_keep e1 r1)) a_nil) (L.mono e1) ⟨W, rfl, hW, rfl⟩) fun vw H2 e2 rw' => ?_
    have L2' := L.mono (e1.trans e2)
    exact s_ret (e_call (a_cons (e_is (d2 := dN (3 * layN W)) (e_IC e_int (e_call (a_cons (e_var rfl (rp_keep (e1.trans e2) r1)) a_nil) L2' ⟨W, rfl, hW, rfl⟩) (.inl ⟨by omega, by omega⟩)) (by show PyData.int _ = PyData.int _; congr 1)) (a_cons (e_var rfl rw') a_nil)) L2' ⟨_, _, rfl, h0, by show (every W).length < 1000000; omega, rfl⟩) fun v H3 e3 p => k v H3 ((e1.trans e2).trans e3) p
end
end T

set_option Elab.async false
set_option linter.all false
set_option maxRecDepth 100000
set_option maxHeartbeats 4000000
namespace T
open PySem PySem.Spec PyProof.Rows L2 RZ G M GX
open Evl (Ex EvT et_or et_not et_and)
section
variable {P : Program} {w : World} {K : PySem.W.Frag} {mg : Str → Option Value} {base : Heap} {f : Addr} {fd : FuncData}
/-- the row from which choices are taken -/
def Row (K : PySem.W.Frag) (H : Hp) (ms : List Addr) (pr : Addr) : Prop := ∃ (sc : Addr) (ns : List Int) (a b c : Int), H pr = some (.lst [.ref sc, .int a, .int b, .int c]) ∧ SqL K (cut H ms) sc (ns.map V.int) ∧ 0 ≤ a ∧ 0 ≤ b ∧ b < 2147483647 ∧ 0 ≤ c
theorem Row.mono {H H' : Hp} {ms : List Addr} {pr : Addr} (r : Row K H ms pr) (e : Ex H H') : Row K H' ms pr := by
  obtain ⟨sc, ns, a, b, c, h1, h2, h3⟩ := r
  exact ⟨sc, ns, a, b, c, e _ _ h1, Evl.ex_l (ex_cut e) h2, h3⟩
/-- other changed things: what is cut may grow by what is new, or shrink -/
theorem Row.cut {H H' : Hp} {ms ms' : List Addr} {pr : Addr} (r : Row K H ms pr) (h1 : H' pr = H pr) (e : Ex (G.cut H ms) (G.cut H' ms')) : Row K H' ms' pr := by
  obtain ⟨sc, ns, a, b, c, g1, g2, g3⟩ := r
  exact ⟨sc, ns, a, b, c, by rw [h1]; exact g1, Evl.ex_l e g2, g3⟩
theorem v_ixA {σ : L2.St} {H : Hp} {ta tb : TE} {p : Addr} {xs : List V} {j : Int} {v : V} (ha : EvP ta σ H fun w _ => w = .ref p) (hp : H p = some (.lst xs)) (hb : EvP tb σ H fun w _ => w = .int j) (e : atI xs j = some v) : EvP (tOp (rIxL K) ta tb) σ H fun w _ => w = v :=
  e_op2 ha (fun _ e => hb.mono e) (fun _ _ _ _ h => h) fun x y H2 e2 rx ry Q q => by
    subst rx ry
    exact ⟨p, xs, j, v, rfl, rfl, SqL.of (e2 p _ hp), e, q v H2 (Ex.refl H2) rfl⟩
theorem v_ixS {σ : L2.St} {H : Hp} {ta tb : TE} {p : Addr} {xs : List V} {j : Int} {v : V} (ha : EvP ta σ H fun w _ => w = .ref p) (hp : SqL K H p xs) (hb : EvP tb σ H fun w _ => w = .int j) (e : atI xs j = some v) : EvP (tOp (rIxL K) ta tb) σ H fun w _ => w = v :=
  e_op2 ha (fun _ e => hb.mono e) (fun _ _ _ _ h => h) fun x y H2 e2 rx ry Q q => by
    subst rx ry
    exact ⟨p, xs, j, v, rfl, rfl, Evl.ex_l e2 hp, e, q v H2 (Ex.refl H2) rfl⟩
theorem v_lenS {σ : L2.St} {H : Hp} {ta : TE} {p : Addr} {xs : List V} (ha : EvP ta σ H fun w _ => w = .ref p) (hp : SqL K H p xs) : EvP (tCB (fun xs H Q => ∃ p ys, xs = [.ref p] ∧ (SqL K H p ys ∨ SqT K H p ys) ∧ Q (.int ys.length) H) (tCons ta tNil)) σ H fun w _ => w = .int xs.length := fun H1 e Q q =>
  ha H1 e _ fun x H2 e2 rx => by
    subst rx
    exact ⟨p, xs, rfl, .inl (Evl.ex_l (e.trans e2) hp), q _ H2 e2 rfl⟩
def sp_taken (K : PySem.W.Frag) : Sp := fun vs H Q _ => ∃ (pr : Addr) (many : Int) (ms : List Addr), vs = [.ref pr, .int many] ∧ pr ∈ ms ∧ Row K H ms pr ∧ 0 < many ∧ many < 1000000 ∧ ∀ (x : Nat) H', (x : Int) < many → Ex (cut H [pr]) H' → Row K H' ms pr → Q (.int (x : Int)) H'
theorem mod_nat {x m : Int} (h : 0 < m) : ∃ k : Nat, x % m = (k : Int) ∧ (k : Int) < m := ⟨(x % m).toNat, by have := Int.emod_nonneg x (show m ≠ 0 by omega); omega, by have := Int.emod_lt_of_pos x h; have := Int.emod_nonneg x (show m ≠ 0 by omega); omega⟩
abbrev s__law_taken : Stmt := topS 54
theorem sc__law_taken : FnScope ["_law_row", "_law_many", "_law_found", "_law_cell"] ["_law_row", "_law_many"] (defScope s__law_taken) := ⟨rfl, rfl, rfl, by decide +kernel, rfl, by decide +kernel, by decide +kernel⟩
theorem ok__law_taken (F : Fun K "_law_taken" "_law_taken" s__law_taken f fd) (b : Blt mg) : FnOk P w K mg base CX0 1 f fd ["_law_row", "_law_many"] (sp_taken K) := by
  refine F.ok sc__law_taken (fun vs H Q E h => ?_) (fun cdv A outer s H vs Q E hr h => ?_)
  · obtain ⟨pr, many, ms, rfl, _⟩ := h; rfl
  · obtain ⟨pr, many, ms, rfl, hm, ⟨sc, ns, ra, rb, rc, hR, hS, h1, h2, h3, h4⟩, hp, hq, k⟩ := h
    have nd := sc__law_taken.nd
    refine ⟨_, pss_cons (ps_if (pt_cmpR op_gt (pe_ix (ix_listK K rfl) (pv 0) (pe_int) (fun _ _ => rfl)) (pe_int) (nomark _)) (pss_cons (ps_set (i := 2) nd rfl (Or.inl rfl) (pe_op op_mod (pe_callTy call_int1 (by rfl) b.int (by decide +kernel) (pa_cons (pe_ix (ix_listK K rfl) (pv 0) (pe_int) (fun _ _ => rfl)) pa_nil)) (pv 1))) (pss_cons (ps_asg (pe_op op_fdiv (pe_ix (ix_listK K rfl) (pv 0) (pe_int) (fun _ _ => rfl)) (pv 1)) (pg_sub (pv 0) (pe_int) set_list)) (pss_one (ps_ret (pv 2))))) (pss_nil)) (pss_cons (ps_asg (pe_op op_add (pe_ix (ix_listK K rfl) (pv 0) (pe_int) (fun _ _ => rfl)) (pe_int)) (pg_sub (pv 0) (pe_int) set_list)) (pss_cons (ps_if (pt_cmpR op_gt (pe_ix (ix_listK K rfl) (pv 0) (pe_int) (fun _ _ => rfl)) (pe_callB (call_lenK K rfl) (by rfl) b.len (by decide +kernel) (pa_cons (pe_ix (ix_listK K rfl) (pv 0) (pe_int) (fun _ _ => rfl)) pa_nil)) (nomark _)) (pss_cons (ps_asg (pe_op op_mod (pe_callTy call_int1 (by rfl) b.int (by decide +kernel) (pa_cons (pe_op op_add (pe_op op_mul (pe_ix (ix_listK K rfl) (pv 0) (pe_int) (fun _ _ => rfl)) (pe_int)) (pe_int)) pa_nil)) (pe_int)) (pg_sub (pv 0) (pe_int) set_list)) (pss_one (ps_ret (pe_op op_mod (pe_callTy call_int1 (by rfl) b.int (by decide +kernel) (pa_cons (pe_op op_fdiv (pe_ix (ix_listK K rfl) (pv 0) (pe_int) (fun _ _ => rfl)) (pe_int)) pa_nil)) (pv 1))))) (pss_nil)) (pss_cons (ps_set (i := 3) nd rfl (Or.inl rfl) (pe_ix (ix_listK K rfl) (pe_ix (ix_listK K rfl) (pv 0) (pe_int) (fun _ _ => rfl)) (pe_op op_sub (pe_ix (ix_listK K rfl) (pv 0) (pe_int) (fun _ _ => rfl)) (pe_int)) (fun _ _ => rfl))) (pss_cons (ps_asg (pe_op op_mod (pe_callTy call_int1 (by rfl) b.int (by decide +kernel) (pa_cons (pe_op op_add (pe_op op_add (pe_op op_mul (pe_ix (ix_listK K rfl) (pv 0) (pe_int) (fun _ _ => rfl)) (pe_int)) (pv 3)) (pe_int)) pa_nil)) (pe_int)) (pg_sub (pv 0) (pe_int) set_list)) (pss_cons (ps_if (pt_cmpR op_ge (pv 3) (pe_op op_pow (pe_int) (pe_int)) (nomark _)) (pss_one (ps_asg (pe_op op_fdiv (pv 3) (pv 1)) (pg_sub (pv 0) (pe_int) set_list))) (pss_nil)) (pss_one (ps_ret (pe_op op_mod (pe_callTy call_int1 (by rfl) b.int (by decide +kernel) (pa_cons (pv 3) pa_nil)) (pv 1))))))))), ?_⟩
    have at_ : ∀ (y0 y1 y2 y3 : V), atI [y0, y1, y2, y3] 0 = some y0 ∧ atI [y0, y1, y2, y3] 1 = some y1 ∧ atI [y0, y1, y2, y3] 2 = some y2 ∧ atI [y0, y1, y2, y3] 3 = some y3 := fun _ _ _ _ => ⟨atI_nat (j := 0) rfl, atI_nat (j := 1) rfl, atI_nat (j := 2) rfl, atI_nat (j := 3) rfl⟩
    have hsn : sc ≠ pr ∨ True := .inr trivial
    have fin : ∀ (x : Nat) (a' b' c' : Int) (H1 H2 : Hp), (x : Int) < many → 0 ≤ a' → 0 ≤ b' → b' < 2147483647 → 0 ≤ c' → Ex (cut H [pr]) H1 → H1 pr = some (.lst [.ref sc, .int a', .int b', .int c']) → Ex H1 H2 → Q (.int (x : Int)) H2 := fun x a' b' c' H1 H2 hx q1 q2 q3 q4 e hh e2 =>
      k x H2 hx (e.trans e2) ⟨sc, ns, a', b', c', e2 _ _ hh, Evl.ex_l (ex_cut_in (ms := ms) ((cut_sub (fun m hm' => by cases List.mem_singleton.mp hm'; exact hm)).trans (e.trans e2))) hS, q1, q2, q3, q4⟩
    have hSc : ∀ (H1 : Hp), Ex (cut H [pr]) H1 → SqL K H1 sc (ns.map V.int) := fun H1 e => Evl.ex_l ((cut_sub (fun m hm' => by cases List.mem_singleton.mp hm'; exact hm)).trans e) hS
    refine q_if (b := decide (0 < rc)) (t_is (t_T (e_B0 (ms := []) ((v_ixA (e_ref rfl) hR v_int (at_ _ _ _ _).2.2.2).ed (.int _)) e_int)) (decide_eq_decide.mpr (by omega))) (fun hc H1 e1 => ?_) (fun hc H1 e1 => ?_)
    · have hR1 := e1 _ _ hR
      obtain ⟨x, hx, hxm⟩ := mod_nat (x := rc) hp
      refine q_asg (EvP.val (ms := []) (e_IC (e_intI ((v_ixA (e_ref rfl) hR1 v_int (at_ _ _ _ _).2.2.2).ed (.int _))) (e_var rfl (.int _)) hp)) fun v H2 e2 hv => ?_
      rw [hx] at hv
      subst hv
      have hR2 := e2 _ _ hR1
      refine q_setV (ms := []) (k := 3) hR2 (EvP.val (ms := []) (e_IC ((v_ixA (e_ref rfl) hR2 v_int (at_ _ _ _ _).2.2.2).ed (.int _)) (e_var rfl (.int _)) ⟨hp, by omega⟩)) (e_ref rfl) e_int (by simp) fun H3 e3 => ?_
      refine s_ret (e_ref rfl) fun v H4 e4 hv => ?_
      subst hv
      exact fin x ra rb (rc / many) _ H4 hxm h1 h2 h3 (Int.ediv_nonneg h4 (by omega)) (ex_cut_upd (cut_le.trans ((e1.trans e2).trans e3)) (by simp)) upd_same e4
    · have hR1 := e1 _ _ hR
      refine q_setV (ms := []) (k := 1) hR1 (EvP.val (ms := []) (e_I0 ((v_ixA (e_ref rfl) hR1 v_int (at_ _ _ _ _).2.1).ed (.int _)) e_int)) (e_ref rfl) e_int (by simp) fun H2 e2 => ?_
      have ex2 : Ex (cut H [pr]) (upd H2 pr (.lst ([.ref sc, .int ra, .int rb, .int rc].set 1 (.int (ra + 1))))) := ex_cut_upd (cut_le.trans (e1.trans e2)) (by simp)
      have hR2 : (upd H2 pr (.lst ([.ref sc, .int ra, .int rb, .int rc].set 1 (.int (ra + 1))))) pr = some (.lst [.ref sc, .int (ra + 1), .int rb, .int rc]) := upd_same
      generalize upd H2 pr (.lst ([.ref sc, .int ra, .int rb, .int rc].set 1 (.int (ra + 1)))) = H3 at *
      have hS3 := hSc H3 ex2
      refine q_if (b := decide ((ns.length : Int) < ra + 1)) (t_is (t_T (e_B0 (ms := []) ((v_ixA (e_ref rfl) hR2 v_int (at_ _ _ _ _).2.1).ed (.int _)) ((v_lenS (v_ixA (e_ref rfl) hR2 v_int (at_ _ _ _ _).1) hS3).ed (.int _)))) (decide_eq_decide.mpr (by rw [List.length_map]))) (fun hl H4 e4 => ?_) (fun hl H4 e4 => ?_)
      · have hR4 := e4 _ _ hR2
        obtain ⟨b', hb', hbm⟩ := mod_nat (x := rb * 48271 + 11) (m := 2147483647) (by decide)
        have vb := EvP.val (ms := []) (σ := [some (.ref pr), some (.int many), none, none]) (e_IC (C := fun _ j => 0 < j) (g := fun i j => i % j) (tb := tC (.int 2147483647)) (e_intI (e_I0 (g := fun i j => i + j) (tb := tC (.int 11)) (e_IC (C := CMul) (g := fun i j => i * j) (tb := tC (.int 48271)) ((v_ixA (K := K) (ta := tVar 0) (tb := tC (.int 2)) (e_ref rfl) hR4 v_int (at_ _ _ _ _).2.2.1).ed (.int _)) e_int (.inr ⟨by decide, by decide⟩)) e_int)) e_int (by decide))
        rw [hb'] at vb
        refine q_setV (ms := []) (k := 2) hR4 vb (e_ref rfl) e_int (by simp) fun H5 e5 => ?_
        obtain ⟨x, hx, hxm⟩ := mod_nat (x := (b' : Int) / 7) hp
        have hR5 : (upd H5 pr (.lst ([.ref sc, .int (ra + 1), .int rb, .int rc].set 2 (.int (b' : Int))))) pr = some (.lst [.ref sc, .int (ra + 1), .int (b' : Int), .int rc]) := upd_same
        have ex5 : Ex (cut H [pr]) (upd H5 pr (.lst ([.ref sc, .int (ra + 1), .int rb, .int rc].set 2 (.int (b' : Int))))) := ex_cut_upd ((ex2.trans e4).trans e5) (by simp)
        generalize upd H5 pr (.lst ([.ref sc, .int (ra + 1), .int rb, .int rc].set 2 (.int (b' : Int)))) = H6 at *
        refine s_ret (EvP.val (ms := []) (e_IC (e_intI (e_IC ((v_ixA (e_ref rfl) hR5 v_int (at_ _ _ _ _).2.2.1).ed (.int _)) e_int ⟨by decide, by decide⟩)) (e_var rfl (.int _)) hp)) fun v H7 e7 hv => ?_
        rw [hx] at hv
        subst hv
        exact fin x (ra + 1) b' rc H6 H7 hxm (by omega) (by omega) hbm h4 ex5 hR5 e7
      · have hl' : ra < (ns.length : Int) := by have := of_decide_eq_false hl; omega
        have hR4 := e4 _ _ hR2
        have hS4 := Evl.ex_l e4 hS3
        obtain ⟨n, hn⟩ : ∃ n : Nat, ra = (n : Int) := ⟨ra.toNat, by omega⟩
        have hnl : n < ns.length := by omega
        have hcell : atI (ns.map V.int) (ra + 1 - 1) = some (.int ns[n]) := by
          rw [show ra + 1 - 1 = (n : Int) by omega]
          exact atI_nat (by rw [List.getElem?_map, List.getElem?_eq_getElem hnl]; rfl)
        generalize ns[n] = cell at hcell
        refine q_asg (v_ixS (v_ixA (e_ref rfl) hR4 v_int (at_ _ _ _ _).1) hS4 (EvP.val (ms := []) (e_I0 ((v_ixA (e_ref rfl) hR4 v_int (at_ _ _ _ _).2.1).ed (.int _)) e_int)) hcell) fun v H5 e5 hv => ?_
        subst hv
        have hR5 := e5 _ _ hR4
        obtain ⟨b', hb', hbm⟩ := mod_nat (x := rb * 48271 + cell + 11) (m := 2147483647) (by decide)
        have vb := EvP.val (ms := []) (σ := [some (.ref pr), some (.int many), none, some (.int cell)]) (e_IC (C := fun _ j => 0 < j) (g := fun i j => i % j) (tb := tC (.int 2147483647)) (e_intI (e_I0 (g := fun i j => i + j) (tb := tC (.int 11)) (e_I0 (g := fun i j => i + j) (tb := tVar 3) (e_IC (C := CMul) (g := fun i j => i * j) (tb := tC (.int 48271)) ((v_ixA (K := K) (ta := tVar 0) (tb := tC (.int 2)) (e_ref rfl) hR5 v_int (at_ _ _ _ _).2.2.1).ed (.int _)) e_int (.inr ⟨by decide, by decide⟩)) (e_var rfl (.int _))) e_int)) e_int (by decide))
        rw [hb'] at vb
        refine q_setV (ms := []) (k := 2) hR5 vb (e_ref rfl) e_int (by simp) fun H6 e6 => ?_
        obtain ⟨x, hx, hxm⟩ := mod_nat (x := cell) hp
        have hR6 : (upd H6 pr (.lst ([.ref sc, .int (ra + 1), .int rb, .int rc].set 2 (.int (b' : Int))))) pr = some (.lst [.ref sc, .int (ra + 1), .int (b' : Int), .int rc]) := upd_same
        have ex6 : Ex (cut H [pr]) (upd H6 pr (.lst ([.ref sc, .int (ra + 1), .int rb, .int rc].set 2 (.int (b' : Int))))) := ex_cut_upd (((ex2.trans e4).trans e5).trans e6) (by simp)
        generalize upd H6 pr (.lst ([.ref sc, .int (ra + 1), .int rb, .int rc].set 2 (.int (b' : Int)))) = H7 at *
        refine q_if (b := decide (1000000000000000000 ≤ cell)) (t_is (t_T (e_B0 (ms := []) (e_var rfl (.int _)) (e_IC e_int e_int ⟨by decide, by decide, by decide⟩))) (decide_eq_decide.mpr (by show (10 : Int) ^ (18 : Nat) ≤ cell ↔ _; omega))) (fun hbig H8 e8 => ?_) (fun hsm H8 e8 => ?_)
        · have hR8 := e8 _ _ hR6
          have hbig := of_decide_eq_true hbig
          refine s_setV (ms := []) (k := 3) hR8 (EvP.val (ms := []) (e_IC (e_var rfl (.int _)) (e_var rfl (.int _)) ⟨hp, by omega⟩)) (e_ref rfl) e_int (by simp) fun H9 e9 => ?_
          refine s_ret (EvP.val (ms := []) (σ := [some (.ref pr), some (.int many), none, some (.int cell)]) (e_IC (C := fun _ j => 0 < j) (g := fun i j => i % j) (e_intI (ta := tVar 3) (e_var rfl (.int _))) (e_var (k := 1) rfl (.int _)) hp)) fun v H10 e10 hv => ?_
          rw [hx] at hv
          subst hv
          exact fin x (ra + 1) b' (cell / many) _ H10 hxm (by omega) (by omega) hbm (Int.ediv_nonneg (by omega) (by omega)) (ex_cut_upd ((ex6.trans e8).trans e9) (by simp)) upd_same e10
        · refine s_ret (EvP.val (ms := []) (σ := [some (.ref pr), some (.int many), none, some (.int cell)]) (e_IC (C := fun _ j => 0 < j) (g := fun i j => i % j) (e_intI (ta := tVar 3) (e_var rfl (.int _))) (e_var (k := 1) rfl (.int _)) hp)) fun v H10 e10 hv => ?_
          rw [hx] at hv
          subst hv
          exact fin x (ra + 1) b' rc H8 H10 hxm (by omega) (by omega) hbm h4 (ex6.trans e8) (e8 _ _ hR6) e10
end
end T

set_option Elab.async false
set_option linter.all false
set_option maxRecDepth 100000
set_option maxHeartbeats 4000000
namespace T
open PySem PySem.Spec PyProof.Rows L2 RZ G M GX
open Evl (Ex EvT et_or et_not et_and)
section
variable {P : Program} {w : World} {K : PySem.W.Frag} {mg : Str → Option Value} {base : Heap} {f : Addr} {fd : FuncData}
/-- a choice taken: what is answered, and the heap after it -/
theorem m_taken {E : XK} {tm : TE} {σ : L2.St} {H : Hp} {ms : List Addr} {many : Int} {kr : Nat} {pr : Addr} {Q : VK} (hk : σ[kr]? = some (some (.ref pr))) (hm : pr ∈ ms) (R : Row K H ms pr) (ht : EvP tm σ H fun w _ => w = .int many) (h0 : 0 < many) (h1 : many < 1000000)
    (q : ∀ (x : Nat) H', (x : Int) < many → Ex (cut H [pr]) H' → Row K H' ms pr → Q (.int (x : Int)) H') : tCall (sp_taken K) [] E (tCons (tVar kr) (tCons tm tNil)) σ H Q := by
  refine ⟨.ref pr, hk, ht H (Ex.refl H) _ fun w H1 e1 hw => ?_⟩
  subst hw
  exact ⟨pr, many, ms, rfl, hm, R.mono e1, h0, h1, fun x H' hx e r => q x H' hx ((ex_cut e1).trans e) r⟩
theorem Live.row {H H' : Hp} {ms : List Addr} {pr : Addr} (h : Live H ms) (e : Ex (cut H [pr]) H') (r : Row K H' ms pr) : Live H' ms := fun m hm => by
  by_cases z : m = pr
  · subst z
    obtain ⟨_, _, _, _, _, h1, _⟩ := r
    exact ⟨_, h1⟩
  · obtain ⟨o, ho⟩ := h m hm
    exact ⟨o, e m o (by rw [cut_out (by simpa using z)]; exact ho)⟩
theorem rp_row {H H' : Hp} {ms : List Addr} {pr : Addr} {v : V} {d : PyData} (hm : pr ∈ ms) (e : Ex (cut H [pr]) H') (r : Rp (cut H ms) v d) : Rp (cut H' ms) v d :=
  r.mono (ex_cut_in ((cut_sub (fun m hm' => by cases List.mem_singleton.mp hm'; exact hm)).trans e))
def sp_pick (K : PySem.W.Frag) : Sp := fun vs H Q _ => ∃ (pr : Addr) (vt : V) (ds : List PyData) (ms : List Addr), vs = [.ref pr, vt] ∧ pr ∈ ms ∧ Row K H ms pr ∧ Rp (cut H ms) vt (.list ds) ∧ 0 < ds.length ∧ ds.length < 1000000 ∧ ∀ v d H', d ∈ ds → Ex (cut H [pr]) H' → Row K H' ms pr → Rp (cut H' ms) v d → Q v H'
abbrev s__law_pick : Stmt := topS 55
theorem sc__law_pick : FnScope ["_law_row", "_law_things"] ["_law_row", "_law_things"] (defScope s__law_pick) := ⟨rfl, rfl, rfl, by decide +kernel, rfl, by decide +kernel, by decide +kernel⟩
theorem ok__law_pick (F : Fun K "_law_pick" "_law_pick" s__law_pick f fd) (b : Blt mg) (c__law_taken : Dfn P w K mg base 1 "_law_taken" ["_law_row", "_law_many"] (sp_taken K)) : FnOk P w K mg base CX0 2 f fd ["_law_row", "_law_things"] (sp_pick K) := by
  refine F.ok sc__law_pick (fun vs H Q E h => ?_) (fun cdv A outer s H vs Q E hr h => ?_)
  · obtain ⟨pr, vt, ds, ms, rfl, _⟩ := h; rfl
  · obtain ⟨pr, vt, ds, ms, rfl, hm, R, r, h0, h1, k⟩ := h
    have nd := sc__law_pick.nd
    refine ⟨_, pss_one (ps_ret (pe_ix (ix_listK K rfl) (pv 1) (pe_own c__law_taken hr (pa_cons (pv 0) (pa_cons (pe_callB (call_lenK K rfl) (by rfl) b.len (by decide +kernel) (pa_cons (pv 1) pa_nil)) pa_nil))) (fun _ _ => rfl))), ?_⟩
    obtain ⟨a, xs, rfl, ha, ra⟩ := r.lst_of
    refine ⟨.ref a, rfl, ?_⟩
    have hl := ra.len
    refine m_taken (kr := 0) rfl hm R (v_lenS (e_ref rfl) (SqL.of (cut_some ha).2)) (by omega) (by omega) fun x H' hx e r' => ?_
    have hx' : x < xs.length := by omega
    have hap : a ≠ pr := fun z => (cut_some ha).1 (z ▸ hm)
    obtain ⟨d, hd, rd⟩ := ra.get (List.getElem?_eq_getElem hx')
    have hd' : d ∈ ds := List.mem_of_getElem? hd
    exact ⟨a, xs, (x : Int), xs[x], rfl, rfl, SqL.of (e a _ (by rw [cut_out (by simpa using hap)]; exact (cut_some ha).2)), atI_nat (List.getElem?_eq_getElem hx'), k _ d H' hd' e r' (rp_row hm e rd)⟩
theorem erase_perm {l : List Nat} : ∀ {k : Nat} (h : k < l.length), (l[k] :: l.eraseIdx k).Perm l := by
  induction l with
  | nil => intro k h; simp at h
  | cons a l ih =>
    intro k h
    cases k with
    | zero => exact List.Perm.refl _
    | succ k => exact (List.Perm.swap _ _ _).trans ((ih (k := k) (by simpa using h)).cons a)
theorem map_erase {α β : Type} {g : α → β} : ∀ {l : List α} {k : Nat}, (l.map g).eraseIdx k = (l.eraseIdx k).map g
  | [], _ => rfl
  | _ :: _, 0 => rfl
  | a :: l, k + 1 => by rw [List.map_cons, List.eraseIdx_cons_succ, List.eraseIdx_cons_succ, List.map_cons, map_erase]
def sp_mixed (K : PySem.W.Frag) : Sp := fun vs H Q _ => ∃ (pr : Addr) (vt : V) (l : List Nat) (ms : List Addr), vs = [.ref pr, vt] ∧ pr ∈ ms ∧ Live H ms ∧ Row K H ms pr ∧ Rp (cut H ms) vt (.list (l.map dN)) ∧ l.length ≤ 100 ∧ ∀ v (l' : List Nat) H', l'.Perm l → Ex (cut H [pr]) H' → Row K H' ms pr → Rp (cut H' ms) v (.list (l'.map dN)) → Q v H'
theorem ints_dN {H : Hp} {l : List Nat} {xs : List V} (h : RpAll H xs (l.map dN)) : xs = l.map fun (k : Nat) => V.int (k : Int) := by
  rw [← dNs_eq] at h
  rw [h.ints_of]; unfold nI; rw [List.map_map]; rfl
theorem dN_ints {H : Hp} {l : List Nat} : RpAll H (l.map fun (k : Nat) => V.int (k : Int)) (l.map dN) := by
  have := RpAll.ints (H := H) (nI l)
  rw [dNs_eq] at this
  unfold nI at this
  rw [List.map_map] at this
  exact this
abbrev s__law_mixed : Stmt := topS 57
theorem sc__law_mixed : FnScope ["_law_row", "_law_some", "_law_left", "_law_found", "_law_step"] ["_law_row", "_law_some"] (defScope s__law_mixed) := ⟨rfl, rfl, rfl, by decide +kernel, rfl, by decide +kernel, by decide +kernel⟩
theorem ok__law_mixed (F : Fun K "_law_mixed" "_law_mixed" s__law_mixed f fd) (b : Blt mg) (c__law_taken : Dfn P w K mg base 1 "_law_taken" ["_law_row", "_law_many"] (sp_taken K)) : FnOk P w K mg base CX0 2 f fd ["_law_row", "_law_some"] (sp_mixed K) := by
  refine F.ok sc__law_mixed (fun vs H Q E h => ?_) (fun cdv A outer s H vs Q E hr h => ?_)
  · obtain ⟨pr, vt, l, ms, rfl, _⟩ := h; rfl
  · obtain ⟨pr, vt, l, ms, rfl, hm, L, R, r, hl, k⟩ := h
    have nd := sc__law_mixed.nd
    refine ⟨_, pss_cons (ps_par (i := 2) (j := 3) rfl nd rfl rfl (by decide) rfl rfl (pa_cons (pe_callTy (call_listK K rfl) (by rfl) b.list (by decide +kernel) (pa_cons (pv 1) pa_nil)) (pa_cons (pe_lst pa_nil) pa_nil)) (by rfl)) (pss_cons (ps_for PassesOwn.never rfl (pi_range1 (by rfl) b.range (pa_cons (pe_callB (call_lenK K rfl) (by rfl) b.len (by decide +kernel) (pa_cons (pv 2) pa_nil)) pa_nil)) (pg_name (i := 4) nd rfl (Or.inl rfl)) (pss_one (ps_expr (pe_bm PySem.F.plainAttrs_list PySem.F.slot_list_append PySem.F.type_list_append mt_append (pv 3) (pa_cons (pe_bm PySem.F.plainAttrs_list PySem.F.slot_list_pop PySem.F.type_list_pop mt_popAt (pv 2) (pa_cons (pe_own c__law_taken hr (pa_cons (pv 0) (pa_cons (pe_callB (call_lenK K rfl) (by rfl) b.len (by decide +kernel) (pa_cons (pv 2) pa_nil)) pa_nil))) pa_nil)) pa_nil))))) (pss_one (ps_ret (pv 3)))), ?_⟩
    refine q_par (n_listL (ms := ms) (e_var rfl r)) (fun v H1 e1 p => n_nil) fun v u H1 H2 e1 ⟨pl, xs, hv, hpl, h1, rl⟩ e2 ⟨pf, hu, hpf, h2⟩ => ?_
    subst hv hu
    have hxs := ints_dN rl
    subst hxs
    have L2' := L.mono (e1.trans e2)
    have hplm : pl ∉ ms := L.out hpl
    have hpfm : pf ∉ ms := (L.mono e1).out hpf
    have hne : pl ≠ pf := fun z => by rw [z, hpf] at h1; cases h1
    have hlr : pl ≠ pr := fun z => hplm (z ▸ hm)
    have hfr : pf ≠ pr := fun z => hpfm (z ▸ hm)
    have hcm : Ex (cut H ms) (cut H2 (pf :: pl :: ms)) := fun a o h => by
      obtain ⟨z, h⟩ := cut_some h
      have n1 : a ≠ pl := ne_of_none h hpl
      have n2 : a ≠ pf := ne_of_none (e1 _ _ h) hpf
      rw [cut_out (by simp [n1, n2, z])]; exact e2 _ _ (e1 _ _ h)
    have hpr2 : H2 pr = H pr := by
      obtain ⟨_, _, _, _, _, hh, _⟩ := R
      rw [hh]; exact e2 _ _ (e1 _ _ hh)
    have R2 : Row K H2 (pf :: pl :: ms) pr := R.cut hpr2 hcm
    refine s_seqfor (ms := [pl, pf, pr]) (src_rg1 (ms := [pl, pf, pr]) (j := (l.length : Int)) (a_cons ((v_lenS (e_ref rfl) (SqL.of (e2 _ _ h1))).imp fun v H3 e3 hv => by subst hv; rw [List.length_map]; exact .int _) a_nil) (by omega))
      (fun B i σ' H' => ∃ (lf rg : List Nat) (y : Option V), σ' = [some (.ref pr), some vt, some (.ref pl), some (.ref pf), y] ∧ H' pl = some (.lst (lf.map fun (k : Nat) => V.int (k : Int))) ∧ H' pf = some (.lst (rg.map fun (k : Nat) => V.int (k : Int))) ∧ (rg ++ lf).Perm l ∧ lf.length + i = l.length ∧ Ex (cut B [pl, pf, pr]) H' ∧ Ex (cut H2 [pl, pf, pr]) H' ∧ Row K H' (pf :: pl :: ms) pr)
      (fun H3 e3 => ⟨l, [], _, rfl, e3 _ _ (e2 _ _ h1), e3 _ _ h2, by simp, by omega, cut_le, cut_le.trans e3, R2.mono e3⟩) (fun B i σ' H' _ _ ⟨lf, rg, y, _, _, _, _, _, h, _⟩ => h) (fun B i d v σ' Hc H' eB hd ⟨lf, rg, y, hσ, hlf, hrg, hperm, hlen, ex1, ex2, Rc⟩ ec hrp => ?_) (fun B σ' H' eB ⟨lf, rg, y, hσ, hlf, hrg, hperm, hlen, ex1, ex2, Rc⟩ => ?_)
    · subst hσ
      have hi : i < l.length := by
        have := (List.getElem?_eq_some_iff.mp hd).1
        unfold rgD at this
        simpa using this
      have hlf' := ec _ _ hlf
      have hrg' := ec _ _ hrg
      refine ⟨.ref pf, rfl, .inl ⟨rfl, _, SqL.of hrg'⟩, .ref pl, rfl, .inl ⟨rfl, _, SqL.of hlf'⟩, ?_⟩
      refine m_taken (kr := 0) (ms := pf :: pl :: ms) rfl (by simp [hm]) (Rc.mono ec) (v_lenS (e_ref rfl) (SqL.of hlf')) (by rw [List.length_map]; omega) (by rw [List.length_map]; omega) fun x H3 hx e3 R3 => ?_
      rw [List.length_map] at hx
      have hx' : x < lf.length := by omega
      have hlf3 := e3 _ _ (show cut H' [pr] pl = _ by rw [cut_out (by simpa using hlr)]; exact hlf')
      have hrg3 := e3 _ _ (show cut H' [pr] pf = _ by rw [cut_out (by simpa using hfr)]; exact hrg')
      refine ⟨pl, _, (x : Int), x, .int (lf[x] : Int), rfl, rfl, hlf3, by omega, by omega, PySem.StrLaws.seqIndex_nonneg (by omega) (by rw [List.length_map]; omega), by rw [List.getElem?_map, List.getElem?_eq_getElem hx']; rfl, ?_⟩
      have hpl1 := erase_perm hx'
      have hlen1 := hpl1.length_eq
      have hplen := hperm.length_eq
      rw [List.length_append] at hplen
      rw [List.length_cons] at hlen1
      refine ⟨pf, _, _, rfl, rfl, (upd_ne (fun z => hne z.symm)).trans hrg3, by rw [List.length_map]; exact Evl.sz_lt (by omega), ?_⟩
      have up : ∀ (o1 o2 : HO), Ex (cut H3 [pl, pf, pr]) (upd (upd H3 pl o1) pf o2) := fun o1 o2 => ex_cut_upd (ex_cut_upd cut_le (by simp)) (by simp)
      have st : Ex (cut Hc [pl, pf, pr]) (cut H3 [pl, pf, pr]) := ex_cut_in ((cut_sub (by simp)).trans ((ex_cut ec).trans e3))
      refine ⟨lf.eraseIdx x, rg ++ [lf[x]], _, rfl, ?_, ?_, ?_, by omega, (ex_cut_in ex1).trans (st.trans (up _ _)), (ex_cut_in ex2).trans (st.trans (up _ _)), ?_⟩
      · rw [upd_ne hne, upd_same]
        congr 2
        rw [map_erase]
      · rw [upd_same, List.map_append]; rfl
      · rw [List.append_assoc]
        exact (List.Perm.append_left rg hpl1).trans hperm
      · refine R3.cut ?_ ?_
        · rw [upd_ne (fun z => hfr z.symm), upd_ne (fun z => hlr z.symm)]
        · rw [cut_upd (by simp), cut_upd (by simp)]; exact Ex.refl _
    · subst hσ
      have hlf0 : lf = [] := by
        have : (rgD 0 (l.length : Int).toNat).length = l.length := by unfold rgD; simp
        rw [this] at hlen
        exact List.length_eq_zero_iff.mp (by omega)
      subst hlf0
      rw [List.append_nil] at hperm
      have eH : Ex (cut H [pr]) H' := fun a o h => by
        obtain ⟨z, h⟩ := cut_some h
        have n1 : a ≠ pl := ne_of_none h hpl
        have n2 : a ≠ pf := ne_of_none (e1 _ _ h) hpf
        exact ex2 _ _ (by rw [cut_out (by simp at z; simp [n1, n2, z])]; exact e2 _ _ (e1 _ _ h))
      have hprs : ∃ o, H' pr = some o := by obtain ⟨_, _, _, _, _, hh, _⟩ := Rc; exact ⟨_, hh⟩
      exact s_ret (e_ref rfl) fun v H4 e4 hv => by
        subst hv
        exact k _ rg H4 hperm (eH.trans e4) ((Rc.cut rfl (cut_sub (by simp; intro a ha; exact .inr (.inr ha)))).mono e4) (.lst (by rw [cut_out hpfm]; exact e4 _ _ hrg) dN_ints)
end
end T

set_option Elab.async false
set_option linter.all false
set_option maxHeartbeats 4000000
/-! M8: drawn webs. -/
namespace M
open PySem G
theorem dist_reach {W : Web} (h : W.Pre) {s : Nat} (hs : s < W.n) (reach : ∀ v, v < W.n → ∃ k, Wk W s k v) : ∃ d, IsD W s d := by
  have ex : ∀ v, ∃ k, (v < W.n → Wk W s k v ∧ ∀ m, Wk W s m v → k ≤ m) := fun v => by
    by_cases hv : v < W.n
    · obtain ⟨k, h1, h2⟩ := least (reach v hv)
      exact ⟨k, fun _ => ⟨h1, h2⟩⟩
    · exact ⟨0, fun z => absurd z hv⟩
  let d := fun v => Classical.choose (ex v)
  have hd : ∀ v, v < W.n → Wk W s (d v) v ∧ ∀ m, Wk W s m v → d v ≤ m := fun v hv => Classical.choose_spec (ex v) hv
  refine ⟨d, ?_, fun u v a => ?_, fun v hv e => ?_⟩
  · exact Nat.le_zero.mp ((hd s hs).2 0 .zero)
  · exact (hd v (adj_lt h a).2.1).2 _ (.succ (hd u (adj_lt h a).1).1 a)
  · have q := (hd v hv).1
    generalize hk : d v = k at q
    cases q with
    | zero => exact absurd rfl e
    | succ a hu =>
      rename_i k u
      refine ⟨u, by rw [adj_sym]; exact hu, ?_⟩
      have h1 := (hd u (adj_lt h hu).1).2 _ a
      have h2 := (hd v hv).2 _ (.succ (hd u (adj_lt h hu).1).1 hu)
      omega
/-- two fields in order -/
def mm (a b : Nat) : Nat × Nat := (min a b, max a b)
theorem mm_or (a b : Nat) : mm a b = (a, b) ∨ mm a b = (b, a) := by
  unfold mm
  by_cases h : a ≤ b
  · left; rw [Nat.min_eq_left h, Nat.max_eq_right h]
  · right; rw [Nat.min_eq_right (by omega), Nat.max_eq_left (by omega)]
theorem mm_lt {a b : Nat} (h : a ≠ b) : (mm a b).1 < (mm a b).2 := by unfold mm; show min a b < max a b; omega
inductive Tree (ns : List Nat) : Nat → List (Nat × Nat) → Prop
  | one : Tree ns 1 []
  | more {k : Nat} {E : List (Nat × Nat)} {j a b : Nat} : Tree ns k E → ns[k]? = some a → ns[j]? = some b → j < k → Tree ns (k + 1) (E ++ [mm a b])
theorem Tree.len {ns : List Nat} : ∀ {k : Nat} {E : List (Nat × Nat)}, Tree ns k E → E.length + 1 = k
  | _, _, .one => rfl
  | _, _, .more t _ _ _ => by have := t.len; rw [List.length_append, List.length_singleton]; omega
theorem Tree.mem {ns : List Nat} {k : Nat} {E : List (Nat × Nat)} (t : Tree ns k E) : ∀ p ∈ E, (∃ i, i < k ∧ ns[i]? = some p.1) ∧ (∃ i, i < k ∧ ns[i]? = some p.2) := by
  induction t with
  | one => intro p hp; cases hp
  | more t ha hb hj ih =>
    rename_i k E j a b
    intro p hp
    rcases List.mem_append.mp hp with hp | hp
    · obtain ⟨⟨i, h1, h2⟩, ⟨i', h3, h4⟩⟩ := ih p hp
      exact ⟨⟨i, by omega, h2⟩, ⟨i', by omega, h4⟩⟩
    · rw [List.mem_singleton.mp hp]
      rcases mm_or a b with e | e
      · rw [e]; exact ⟨⟨k, by omega, ha⟩, ⟨j, by omega, hb⟩⟩
      · rw [e]; exact ⟨⟨j, by omega, hb⟩, ⟨k, by omega, ha⟩⟩
theorem nodup_at {ns : List Nat} (h : ns.Nodup) {i j a : Nat} (h1 : ns[i]? = some a) (h2 : ns[j]? = some a) : i = j := by
  obtain ⟨l1, e1⟩ := List.getElem?_eq_some_iff.mp h1
  obtain ⟨l2, e2⟩ := List.getElem?_eq_some_iff.mp h2
  exact (List.getElem_inj h).mp (by rw [e1, e2])
theorem Tree.bnd {ns : List Nat} (hn : ns.Nodup) {k : Nat} {E : List (Nat × Nat)} (t : Tree ns k E) : (∀ p ∈ E, p.1 < p.2) ∧ E.Nodup := by
  induction t with
  | one => exact ⟨fun p hp => (by cases hp), List.nodup_nil⟩
  | more t ha hb hj ih =>
    rename_i k E j a b
    have hab : a ≠ b := fun z => by subst z; have := nodup_at hn ha hb; omega
    refine ⟨fun p hp => ?_, ?_⟩
    · rcases List.mem_append.mp hp with hp | hp
      · exact ih.1 p hp
      · rw [List.mem_singleton.mp hp]; exact mm_lt hab
    · refine List.nodup_append.mpr ⟨ih.2, by simp, fun p hp q hq => ?_⟩
      rw [List.mem_singleton.mp hq]
      intro e
      obtain ⟨⟨i, h1, h2⟩, ⟨i', h3, h4⟩⟩ := t.mem p hp
      rw [e] at h2 h4
      rcases mm_or a b with z | z
      · rw [z] at h2; have := nodup_at hn ha h2; omega
      · rw [z] at h4; have := nodup_at hn ha h4; omega
theorem Tree.par {ns : List Nat} (hn : ns.Nodup) {k : Nat} {E : List (Nat × Nat)} (t : Tree ns k E) : ∃ g : Nat → Nat, ∀ p ∈ E, (g p.1 + g p.2) % 2 = 1 := by
  induction t with
  | one => exact ⟨fun _ => 0, fun p hp => by cases hp⟩
  | more t ha hb hj ih =>
    rename_i k E j a b
    obtain ⟨g, hg⟩ := ih
    have hab : a ≠ b := fun z => by subst z; have := nodup_at hn ha hb; omega
    refine ⟨fun x => if x = a then g b + 1 else g x, fun p hp => ?_⟩
    rcases List.mem_append.mp hp with hp | hp
    · obtain ⟨⟨i, h1, h2⟩, ⟨i', h3, h4⟩⟩ := t.mem p hp
      have n1 : p.1 ≠ a := fun z => by rw [z] at h2; have := nodup_at hn ha h2; omega
      have n2 : p.2 ≠ a := fun z => by rw [z] at h4; have := nodup_at hn ha h4; omega
      show ((if p.1 = a then _ else _) + (if p.2 = a then _ else _)) % 2 = 1
      rw [if_neg n1, if_neg n2]; exact hg p hp
    · rw [List.mem_singleton.mp hp]
      have hba : ¬ b = a := fun z => hab z.symm
      rcases mm_or a b with z | z
      · rw [z]
        show ((if a = a then g b + 1 else g a) + (if b = a then g b + 1 else g b)) % 2 = 1
        rw [if_pos rfl, if_neg hba]; omega
      · rw [z]
        show ((if b = a then g b + 1 else g b) + (if a = a then g b + 1 else g a)) % 2 = 1
        rw [if_pos rfl, if_neg hba]; omega
theorem adj_mm {W : Web} {a b : Nat} (h : mm a b ∈ W.E) : W.adj a b = true := by
  rcases mm_or a b with z | z
  · rw [z] at h; exact decide_eq_true (.inl h)
  · rw [z] at h; exact decide_eq_true (.inr h)
theorem Tree.wk {ns : List Nat} {W : Web} {s : Nat} (h0 : ns[0]? = some s) {k : Nat} {E : List (Nat × Nat)} (t : Tree ns k E) : (∀ p ∈ E, p ∈ W.E) → ∀ i x, i < k → ns[i]? = some x → ∃ m, Wk W s m x := by
  induction t with
  | one =>
    intro _ i x hi hx
    have : i = 0 := by omega
    subst this
    rw [h0] at hx; cases hx; exact ⟨0, .zero⟩
  | more t ha hb hj ih =>
    rename_i k E j a b
    intro hE i x hi hx
    by_cases e : i = k
    · subst e
      rw [ha] at hx; cases hx
      obtain ⟨m, w⟩ := ih (fun p hp => hE p (List.mem_append_left _ hp)) j b hj hb
      exact ⟨m + 1, .succ w (by rw [adj_sym]; exact adj_mm (hE _ (List.mem_append_right _ List.mem_cons_self)))⟩
    · exact ih (fun p hp => hE p (List.mem_append_left _ hp)) i x (by omega) hx
/-- a tree with further hedges, in order, is a web -/
theorem Tree.ok {n : Nat} (hn : 1 ≤ n) (h6 : n ≤ 6) {ns : List Nat} (hp : ns.Perm (List.range n)) {E0 E : List (Nat × Nat)} (t : Tree ns n E0) (hE : ∀ p ∈ E0, p ∈ E) (bnd : ∀ p ∈ E, p.1 < p.2 ∧ p.2 < n) (nd : E.Nodup) {g : Nat → Nat} (hg : ∀ p ∈ E, (g p.1 + g p.2) % 2 = 1) (srt : E.Pairwise lexP) : Web.Ok ⟨n, E⟩ := by
  have hPre : Web.Pre ⟨n, E⟩ := ⟨hn, h6, bnd, nd⟩
  have hl : ns.length = n := by rw [hp.length_eq, List.length_range]
  have hnd : ns.Nodup := hp.nodup_iff.mpr List.nodup_range
  have h0l : 0 < ns.length := by omega
  obtain ⟨s, hs⟩ : ∃ s, ns[0]? = some s := ⟨ns[0], List.getElem?_eq_getElem h0l⟩
  have hsn : s < n := List.mem_range.mp (hp.mem_iff.mp (List.mem_of_getElem? hs))
  have reach : ∀ v, v < n → ∃ m, Wk ⟨n, E⟩ s m v := fun v hv => by
    obtain ⟨i, hi, e⟩ := List.getElem_of_mem (hp.mem_iff.mpr (List.mem_range.mpr hv))
    exact t.wk hs hE i v (by omega) (by rw [List.getElem?_eq_getElem hi, e])
  obtain ⟨d', D'⟩ := dist_reach hPre hsn reach
  obtain ⟨d, D⟩ := dist_ex hPre D' (s := 0) hn
  refine ⟨hPre, srt, d, D, fun p hpE => ?_⟩
  have par : ∀ k v, v < n → d v = k → (d v + g v + g 0) % 2 = 0 := fun k => by
    induction k with
    | zero =>
      intro v hv e
      by_cases z : v = 0
      · subst z; omega
      · obtain ⟨u, _, e1⟩ := D.back v hv z; omega
    | succ k ih =>
      intro v hv e
      have z : v ≠ 0 := fun z => by rw [z, D.s0] at e; cases e
      obtain ⟨u, hu, e1⟩ := D.back v hv z
      have h1 := ih u (adj_lt hPre hu).2.1 (by omega)
      have h2 : (g v + g u) % 2 = 1 := by
        rcases of_decide_eq_true hu with hu | hu
        · exact hg _ hu
        · have := hg _ hu; simp at this; omega
      omega
  have b := bnd p hpE
  have h1 := par _ p.1 (by omega) rfl
  have h2 := par _ p.2 b.2 rfl
  have h3 := hg p hpE
  omega
end M

set_option Elab.async false
set_option linter.all false
set_option maxRecDepth 100000
set_option maxHeartbeats 4000000
namespace T
open PySem PySem.Spec PyProof.Rows L2 RZ G M GX
open Evl (Ex EvT et_or et_not et_and)
section
variable {P : Program} {w : World} {K : PySem.W.Frag} {mg : Str → Option Value} {base : Heap} {f : Addr} {fd : FuncData}
theorem e_mm {σ : L2.St} {H : Hp} {ms : List Addr} {a b : Nat} {i j : Nat} (ha : σ[i]? = some (some (.int (a : Int)))) (hb : σ[j]? = some (some (.int (b : Int)))) (L : Live H ms) : ED ms (tTup (tCons (tCB (fun xs H Q => ∃ i j, xs = [.int i, .int j] ∧ Q (.int (if j < i then j else i)) H) (tCons (tVar i) (tCons (tVar j) tNil))) (tCons (tCB (fun xs H Q => ∃ i j, xs = [.int i, .int j] ∧ Q (.int (if j > i then j else i)) H) (tCons (tVar i) (tCons (tVar j) tNil))) tNil))) σ H (dP (mm a b)) :=
  e_is (e_tup (a_cons (e_min2 (e_var ha (.int _)) (e_var hb (.int _))) (a_cons (e_max2 (e_var ha (.int _)) (e_var hb (.int _))) a_nil)) (by simp) L) (by
    show PyData.tuple [.int (min (a : Int) (b : Int)), .int (max (a : Int) (b : Int))] = PyData.tuple [dN (min a b), dN (max a b)]
    rw [show dN (min a b) = PyData.int (min (a : Int) (b : Int)) by show PyData.int _ = _; congr 1; omega, show dN (max a b) = PyData.int (max (a : Int) (b : Int)) by show PyData.int _ = _; congr 1; omega])
def sp_tree (K : PySem.W.Frag) : Sp := fun vs H Q _ => ∃ (pr : Addr) (n : Nat) (ms : List Addr), vs = [.ref pr, .int (n : Int)] ∧ 1 ≤ n ∧ n ≤ 6 ∧ pr ∈ ms ∧ Live H ms ∧ Row K H ms pr ∧ ∀ v (ns : List Nat) (E : List (Nat × Nat)) H', ns.Perm (List.range n) → Tree ns n E → Ex (cut H [pr]) H' → Row K H' ms pr → Rp (cut H' ms) v (.list (E.map dP)) → Q v H'
abbrev s__law_tree : Stmt := topS 58
theorem sc__law_tree : FnScope ["_law_row", "_law_size", "_law_names", "_law_found", "_law_at", "_law_one", "_law_other"] ["_law_row", "_law_size"] (defScope s__law_tree) := ⟨rfl, rfl, rfl, by decide +kernel, rfl, by decide +kernel, by decide +kernel⟩
theorem ok__law_tree (F : Fun K "_law_tree" "_law_tree" s__law_tree f fd) (b : Blt mg) (c__law_mixed : Dfn P w K mg base 2 "_law_mixed" ["_law_row", "_law_some"] (sp_mixed K)) (c__law_pick : Dfn P w K mg base 2 "_law_pick" ["_law_row", "_law_things"] (sp_pick K)) (c__law_taken : Dfn P w K mg base 1 "_law_taken" ["_law_row", "_law_many"] (sp_taken K)) : FnOk P w K mg base CX0 3 f fd ["_law_row", "_law_size"] (sp_tree K) := by
  refine F.ok sc__law_tree (fun vs H Q E h => ?_) (fun cdv A outer s H vs Q E hr h => ?_)
  · obtain ⟨pr, n, ms, rfl, _⟩ := h; rfl
  · obtain ⟨pr, n, ms, rfl, hn, h6, hm, L, R, k⟩ := h
    have nd := sc__law_tree.nd
    refine ⟨_, pss_cons (ps_par (i := 2) (j := 3) rfl nd rfl rfl (by decide) rfl rfl (pa_cons (pe_own c__law_mixed hr (pa_cons (pv 0) (pa_cons (pe_listRg rfl (by rfl) b.list (prg_1 (by rfl) b.range (pv 1))) pa_nil))) (pa_cons (pe_lst pa_nil) pa_nil)) (by rfl)) (pss_cons (ps_for PassesOwn.never rfl (pi_range2 (by rfl) b.range (pa_cons (pe_int) (pa_cons (pv 1) pa_nil))) (pg_name (i := 4) nd rfl (Or.inl rfl)) (pss_cons (ps_par (i := 5) (j := 6) rfl nd rfl rfl (by decide) rfl rfl (pa_cons (pe_ix (ix_listK K rfl) (pv 2) (pv 4) (fun _ _ => rfl)) (pa_cons (pe_ix (ix_listK K rfl) (pv 2) (pe_own c__law_pick hr (pa_cons (pv 0) (pa_cons (pe_lst (pa_cons (pe_int) (pa_cons (pe_op op_sub (pv 4) (pe_int)) (pa_cons (pe_own c__law_taken hr (pa_cons (pv 0) (pa_cons (pv 4) pa_nil))) pa_nil)))) pa_nil))) (fun _ _ => rfl)) pa_nil)) (by rfl)) (pss_one (ps_expr (pe_bm PySem.F.plainAttrs_list PySem.F.slot_list_append PySem.F.type_list_append mt_append (pv 3) (pa_cons (pe_tup (pa_cons (pe_callB (call_min2 rfl) (by rfl) b.min (by decide +kernel) (pa_cons (pv 5) (pa_cons (pv 6) pa_nil))) (pa_cons (pe_callB (call_max2 rfl) (by rfl) b.max (by decide +kernel) (pa_cons (pv 5) (pa_cons (pv 6) pa_nil))) pa_nil))) pa_nil)))))) (pss_one (ps_ret (pv 3)))), ?_⟩
    refine ⟨.ref pr, rfl, .int (n : Int), rfl, (n : Int), rfl, ⟨by omega, by omega, by omega, by omega, by omega⟩, fun q hq => ?_⟩
    have hrg : rgV 0 (n : Int) = (List.range n).map fun (k : Nat) => V.int (k : Int) := by
      unfold rgV
      rw [show ((n : Int) - 0).toNat = n by omega]
      exact List.map_congr_left fun k _ => by rw [Int.zero_add]
    have eq1 : Ex H (upd H q (.lst (rgV 0 (n : Int)))) := Ex.new hq
    refine ⟨pr, .ref q, List.range n, ms, rfl, hm, L.mono eq1, R.mono eq1, rl_new hq L (by rw [hrg]; exact dN_ints), by rw [List.length_range]; omega, fun vn ns H1 hp e1 R1 rn => ?_⟩
    have e1' : Ex (cut H [pr]) H1 := (ex_cut eq1).trans e1
    have L1 : Live H1 ms := Live.row L e1' R1
    have hnl : ns.length = n := by rw [hp.length_eq, List.length_range]
    refine n_nil H1 (Ex.refl _) _ fun vf H2 e2 ⟨pf, hv, hpf, h2⟩ => ⟨vn, vf, rfl, ?_⟩
    subst hv
    have hpfm : pf ∉ ms := L1.out hpf
    have hfr : pf ≠ pr := fun z => hpfm (z ▸ hm)
    have hcm : Ex (cut H1 ms) (cut H2 (pf :: ms)) := fun a o h => by
      obtain ⟨z, h⟩ := cut_some h
      have n2 : a ≠ pf := ne_of_none h hpf
      rw [cut_out (by simp [n2, z])]; exact e2 _ _ h
    have hpr2 : H2 pr = H1 pr := by
      obtain ⟨_, _, _, _, _, hh, _⟩ := R1
      rw [hh]; exact e2 _ _ hh
    have R2 : Row K H2 (pf :: ms) pr := R1.cut hpr2 hcm
    have rn2 : Rp (cut H2 (pf :: ms)) vn (.list (ns.map dN)) := rn.mono hcm
    refine s_seqfor (ms := [pf, pr]) (src_rg2 (ms := [pf, pr]) (i := 1) (j := (n : Int)) (a_cons e_int (a_cons (e_var rfl (.int _)) a_nil)) (by omega) (by omega))
      (fun B i σ' H' => ∃ (E : List (Nat × Nat)) (xs : List V) (y4 y5 y6 : Option V), σ' = [some (.ref pr), some (.int (n : Int)), some vn, some (.ref pf), y4, y5, y6] ∧ Tree ns (i + 1) E ∧ H' pf = some (.lst xs) ∧ RpAll (cut H' (pf :: ms)) xs (E.map dP) ∧ Ex (cut B [pf, pr]) H' ∧ Ex (cut H2 [pf, pr]) H' ∧ Row K H' (pf :: ms) pr ∧ Live H' (pf :: ms) ∧ Rp (cut H' (pf :: ms)) vn (.list (ns.map dN)))
      (fun H3 e3 => ⟨[], [], _, _, _, rfl, .one, e3 _ _ h2, .nil, cut_le, cut_le.trans e3, R2.mono e3, (L1.mono (e2.trans e3)).cons (e3 _ _ h2), rp_keep e3 rn2⟩) (fun B i σ' H' _ _ ⟨_, _, _, _, _, _, _, _, _, h, _⟩ => h) (fun B i d v σ' Hc H' eB hd ⟨E, xs, y4, y5, y6, hσ, ht, hf, hE, ex1, ex2, Rc, Lc, rnc⟩ ec hrp => ?_) (fun B σ' H' eB ⟨E, xs, y4, y5, y6, hσ, ht, hf, hE, ex1, ex2, Rc, Lc, rnc⟩ => ?_)
    · subst hσ
      obtain ⟨hi, rfl⟩ := rgD_get hd
      have hv := (hrp [pf, pr] (ex_cut_in ex1) (fun m hm' => by rcases List.mem_cons.mp hm' with rfl | hm' <;> exact Lc _ (by simp at hm'; simp [*]))).int_of
      subst hv
      have hi' : 1 + i < ns.length := by omega
      have hat : ((1 : Int) + (i : Int)) = ((1 + i : Nat) : Int) := by omega
      rw [hat]
      obtain ⟨a, ha⟩ : ∃ a, ns[1 + i]? = some a := ⟨_, List.getElem?_eq_getElem hi'⟩
      have L' := Lc.mono ec
      have R' := Rc.mono ec
      have rn' := rp_keep ec rnc
      have hmm : pr ∈ pf :: ms := List.mem_cons_of_mem _ hm
      refine e_ixL (ms := pf :: ms) (σ := [some (.ref pr), some (.int (n : Int)), some vn, some (.ref pf), some (.int ((1 + i : Nat) : Int)), y5, y6]) (d := dN a) (e_var (k := 2) rfl rn') (e_var (k := 4) rfl (.int _)) (atI_nat (by rw [List.getElem?_map, ha]; rfl)) H' (Ex.refl _) _ fun w4 H4 e4 r4 => ?_
      cases r4.int_of
      refine ⟨vn, rfl, .ref pr, rfl, ?_⟩
      show tOp (rI0 fun i j => V.int (i - j)) (tVar 4) (tC (.int 1)) _ H4 _
      refine e_I0 (ms := []) (g := fun i j => i - j) (i := ((1 + i : Nat) : Int)) (j := 1) (e_var (k := 4) rfl (.int _)) e_int H4 (Ex.refl _) _ fun w6 H6 e6 r6 => ?_
      cases r6.int_of
      have e06 := e4.trans e6
      refine m_taken (kr := 0) (ms := pf :: ms) rfl hmm (R'.mono e06) (many := ((1 + i : Nat) : Int)) (EvP.val (ms := []) (e_var (k := 4) rfl (.int _))) (by omega) (by omega) fun x H7 hx e7 R7 => ?_
      have L7 := Live.row (L'.mono e06) e7 R7
      refine ⟨sz (by simp), fun q hq => ?_⟩
      have e8 : Ex H7 (upd H7 q (.lst [.int 0, .int (((1 + i : Nat) : Int) - 1), .int (x : Int)])) := Ex.new hq
      refine ⟨pr, .ref q, [.int 0, .int (((1 + i : Nat) : Int) - 1), .int (x : Int)], pf :: ms, rfl, hmm, R7.mono e8, rl_new hq L7 (.cons (.int _) (.cons (.int _) (.cons (.int _) .nil))), by simp, by simp, fun vj dj H9 hdj e9 R9 rj => ?_⟩
      have L9 := Live.row (L7.mono e8) e9 R9
      obtain ⟨j, hj, hjv⟩ : ∃ j : Nat, j < 1 + i ∧ dj = .int (j : Int) := by
        simp only [List.mem_cons, List.not_mem_nil, or_false] at hdj
        rcases hdj with e | e | e
        · exact ⟨0, by omega, e⟩
        · exact ⟨i, by omega, by rw [e]; congr 1; omega⟩
        · exact ⟨x, by omega, e⟩
      subst hjv
      cases rj.int_of
      have eP : Ex (cut H' [pr]) H9 := (ex_cut_in ((ex_cut e06).trans e7)).trans ((ex_cut e8).trans e9)
      have rn9 : Rp (cut H9 (pf :: ms)) vn (.list (ns.map dN)) := rp_row hmm eP rn'
      obtain ⟨b', hb⟩ : ∃ b', ns[j]? = some b' := ⟨_, List.getElem?_eq_getElem (by omega)⟩
      obtain ⟨an, xn, rfl, hxn, rxn⟩ := rn9.lst_of
      obtain ⟨vb, hvb, rvb⟩ := rxn.getD (i := j) (d := dN b') (by rw [List.getElem?_map, hb]; rfl)
      cases rvb.int_of
      refine ⟨an, xn, (j : Int), .int (b' : Int), rfl, rfl, SqL.of (cut_some hxn).2, atI_nat hvb, .int (a : Int), .int (b' : Int), rfl, ?_⟩
      have hf9 : H9 pf = some (.lst xs) := eP _ _ (by rw [cut_out (by simpa using hfr)]; exact ec _ _ hf)
      have hE9 : RpAll (cut H9 (pf :: ms)) xs (E.map dP) := hE.mono (ex_cut_in ((cut_sub (fun m hm' => by cases List.mem_singleton.mp hm'; exact hmm)).trans ((ex_cut ec).trans eP)))
      refine s_app (ms := pf :: ms) (d := dP (mm a b')) (e_ref rfl) hf9 (by simp) (e_mm (i := 5) (j := 6) rfl rfl L9) ?_ fun vE H10 e10 r10 => ?_
      · have := hE.len
        rw [List.length_map] at this
        have := ht.len
        omega
      · have c10 : cut (upd H10 pf (.lst (xs ++ [vE]))) (pf :: ms) = cut H10 (pf :: ms) := cut_upd (by simp)
        have st : Ex (cut Hc [pf, pr]) (upd H10 pf (.lst (xs ++ [vE]))) := ex_cut_upd ((cut_sub (by simp)).trans ((ex_cut ec).trans (eP.trans e10))) (by simp)
        refine ⟨E ++ [mm a b'], _, _, _, _, rfl, ?_, upd_same, ?_, (ex_cut_in ex1).trans st, (ex_cut_in ex2).trans st, ?_, (L9.mono e10).upd, ?_⟩
        · have := Tree.more ht (by rw [Nat.add_comm i 1]; exact ha) hb (by omega)
          exact this
        · rw [c10, List.map_append]
          exact (hE9.mono (ex_cut e10)).snoc r10
        · exact (R9.mono e10).cut (upd_ne (fun z => hfr z.symm)) (by rw [c10]; exact Ex.refl _)
        · rw [c10]; exact rp_keep e10 rn9
    · subst hσ
      rw [rgD_len] at ht
      have hk : ((n : Int) - 1).toNat + 1 = n := by omega
      rw [hk] at ht
      have eH : Ex (cut H [pr]) H' := fun a o h => by
        have h' := e1' _ _ h
        have n2 : a ≠ pf := ne_of_none h' hpf
        obtain ⟨z, _⟩ := cut_some h
        exact ex2 _ _ (by rw [cut_out (by simp at z; simp [n2, z])]; exact e2 _ _ h')
      exact s_ret (e_ref rfl) fun v H4 e4 hv => by
        subst hv
        exact k _ ns E H4 hp ht (eH.trans e4) ((Rc.cut rfl (cut_sub (by intro a ha; exact List.mem_cons_of_mem _ ha))).mono e4) (.lst (by rw [cut_out hpfm]; exact e4 _ _ hf) (hE.mono ((ex_cut e4).trans (cut_sub (by intro a ha; exact List.mem_cons_of_mem _ ha)))))
end
end T

set_option Elab.async false
set_option linter.all false
set_option maxRecDepth 100000
set_option maxHeartbeats 4000000
namespace T
open PySem PySem.Spec PyProof.Rows L2 RZ G M GX
open Evl (Ex EvT et_or et_not et_and)
section
variable {P : Program} {w : World} {K : PySem.W.Frag} {mg : Str → Option Value} {base : Heap} {f : Addr} {fd : FuncData}
theorem q_asgC {te : TE} {tz : TS} {D : Ends} {σ : L2.St} {H : Hp} {k : Nat} (h : te σ H fun v H1 => tz D (σ.set k (some v)) H1) : tSeq (tAsg te (gName k)) tz D σ H := h
theorem q_forC {te : TE} {g : TG} {tu tz : TS} {D : Ends} {σ : L2.St} {H : Hp} (h : te σ H fun v H1 => tSeq (tFor (iRng1 (tCons (tC v) tNil)) g tu) tz D σ H1) : tSeq (tFor (iRng1 (tCons te tNil)) g tu) tz D σ H := h
theorem q_parC {ta : TA} {tz : TS} {D : Ends} {σ : L2.St} {H : Hp} {k l : Nat} (h : ta σ H fun vs H1 => ∃ v w, vs = [v, w] ∧ tz D ((σ.set k (some v)).set l (some w)) H1) : tSeq (tPar k l ta) tz D σ H := h
def g2 (p : Nat × Nat) : List Int := [(p.1 : Int), (p.2 : Int)]
def i2 (l : List Int) : Nat × Nat := match l with
  | [a, b] => (a.toNat, b.toNat)
  | _ => (0, 0)
theorem i2_g2 (p : Nat × Nat) : i2 (g2 p) = p := by unfold i2 g2; simp
theorem sort_pairs {E : List (Nat × Nat)} {L : List (List Int)} (nd : E.Nodup) (hp : L.Perm (E.map g2)) (hs : L.Pairwise (fun x y => HT.lexLt y x = false)) : ∃ E' : List (Nat × Nat), E'.Perm E ∧ L = E'.map g2 ∧ E'.Pairwise lexP := by
  have h1 : (L.map i2).Perm E := by
    have := hp.map i2
    rw [List.map_map] at this
    rwa [show E.map (i2 ∘ g2) = E from (List.map_congr_left (g := id) (fun p _ => i2_g2 p)).trans (List.map_id E)] at this
  have h2 : L = (L.map i2).map g2 := by
    rw [List.map_map]
    rw [List.map_congr_left (g := id) (fun x hx => ?_), List.map_id]
    obtain ⟨p, _, rfl⟩ := List.mem_map.mp (hp.mem_iff.mp hx)
    show g2 (i2 (g2 p)) = g2 p
    rw [i2_g2]
  refine ⟨L.map i2, h1, h2, ?_⟩
  have nd' : (L.map i2).Nodup := h1.nodup_iff.mpr nd
  rw [h2, List.pairwise_map] at hs
  generalize L.map i2 = E' at hs nd'
  refine List.Pairwise.imp (fun {p q} h => ?_) (List.pairwise_and_iff.mpr ⟨hs, nd'⟩)
  obtain ⟨h, hne⟩ := h
  unfold g2 at h
  rw [HT.lexLt_cons, HT.lexLt_cons] at h
  unfold lexP
  by_cases e : q.1 = p.1
  · rw [if_pos (by omega)] at h
    by_cases e2 : q.2 = p.2
    · exact absurd (Prod.ext e.symm e2.symm) hne
    · rw [if_neg (by omega)] at h
      have := of_decide_eq_false h
      right; omega
  · rw [if_neg (by omega)] at h
    have := of_decide_eq_false h
    left; omega
theorem e_sortedE {σ : L2.St} {H : Hp} {ms : List Addr} {ta : TE} {E : List (Nat × Nat)} (h : ED ms ta σ H (.list (E.map dP))) (nd : E.Nodup) (L : Live H ms) : EvP (tCB (rSortX K) (tCons ta tNil)) σ H fun v H2 => ∃ E' : List (Nat × Nat), E'.Perm E ∧ E'.Pairwise lexP ∧ Rp (cut H2 ms) v (.list (E'.map dP)) := by
  have h' : ED ms ta σ H (.list ((E.map g2).map fun c => PyData.tuple (c.map PyData.int))) := by rw [List.map_map]; exact h
  refine (e_sortedX (m := 2) h' (by omega) (fun c hc => by obtain ⟨p, _, rfl⟩ := List.mem_map.mp hc; rfl) L).imp fun v H2 e ⟨L', p1, p2, p3⟩ => ?_
  obtain ⟨E', q1, rfl, q3⟩ := sort_pairs nd p1 p2
  rw [List.map_map] at p3
  exact ⟨E', q1, q3, p3⟩
theorem e_tupleS {σ : L2.St} {H : Hp} {ms : List Addr} {ta : TE} {S : List (Nat × Nat) → Prop} (h : EvP ta σ H fun v H2 => ∃ E', S E' ∧ Rp (cut H2 ms) v (.list (E'.map dP))) (L : Live H ms) : EvP (tCB (fun xs H Q => ∃ p ys, xs = [.ref p] ∧ ((SqL K H p ys ∧ ∀ l, H l = none → Q (.ref l) (upd H l (.tup ys))) ∨ (SqT K H p ys ∧ Q (.ref p) H))) (tCons ta tNil)) σ H fun v H2 => ∃ E', S E' ∧ Rp (cut H2 ms) v (.tuple (E'.map dP)) := fun H1 e Q q =>
  h H1 e _ fun x H2 e2 ⟨E', s, r⟩ => by
    obtain ⟨a, xs, rfl, ha, ra⟩ := r.lst_of
    exact ⟨a, xs, rfl, .inl ⟨SqL.of (cut_some ha).2, fun l hl => q _ _ (e2.trans (Ex.new hl)) ⟨E', s, rp_new hl (L.mono (e.trans e2)) ra⟩⟩⟩
theorem e_webT {σ : L2.St} {H : Hp} {ms : List Addr} {tb : TE} {S : List (Nat × Nat) → Prop} {k n : Nat} (hn : σ[k]? = some (some (.int (n : Int)))) (hb : EvP tb σ H fun v H2 => ∃ E', S E' ∧ Rp (cut H2 ms) v (.tuple (E'.map dP))) (L : Live H ms) : EvP (tTup (tCons (tVar k) (tCons tb tNil))) σ H fun v H2 => ∃ E', S E' ∧ Rp (cut H2 ms) v (dW ⟨n, E'⟩) := fun H1 e Q q =>
  ⟨.int n, hn, hb H1 e _ fun v H2 e2 ⟨E', s, r⟩ => ⟨sz (by simp), fun p hp => q _ _ (e2.trans (Ex.new hp)) ⟨E', s, rp_new hp (L.mono (e.trans e2)) (.cons (.int _) (.cons r .nil))⟩⟩⟩
/-- the tree with further hedges between fields of unlike distance -/
structure Ext (n : Nat) (E0 : List (Nat × Nat)) (g : Nat → Nat) (E : List (Nat × Nat)) : Prop where
  sub : ∀ p ∈ E0, p ∈ E
  bnd : ∀ p ∈ E, p.1 < p.2 ∧ p.2 < n
  nd : E.Nodup
  par : ∀ p ∈ E, (g p.1 + g p.2) % 2 = 1
theorem Ext.more {n : Nat} {E0 E : List (Nat × Nat)} {g : Nat → Nat} (h : Ext n E0 g E) {a b : Nat} (ha : a < n) (hb : b < n) (hg : (g a + g b) % 2 = 1) (hn : mm a b ∉ E) : Ext n E0 g (E ++ [mm a b]) := by
  have hab : a ≠ b := fun z => by subst z; omega
  refine ⟨fun p hp => List.mem_append_left _ (h.sub p hp), fun p hp => ?_, List.nodup_append.mpr ⟨h.nd, by simp, fun p hp q hq e => hn (by rw [← List.mem_singleton.mp hq, ← e]; exact hp)⟩, fun p hp => ?_⟩
  · rcases List.mem_append.mp hp with hp | hp
    · exact h.bnd p hp
    · rw [List.mem_singleton.mp hp]
      refine ⟨mm_lt hab, ?_⟩
      rcases mm_or a b with z | z
      · rw [z]; exact hb
      · rw [z]; exact ha
  · rcases List.mem_append.mp hp with hp | hp
    · exact h.par p hp
    · rw [List.mem_singleton.mp hp]
      rcases mm_or a b with z | z
      · rw [z]; exact hg
      · rw [z]; show (g b + g a) % 2 = 1; omega
theorem any_dP {E : List (Nat × Nat)} {p : Nat × Nat} : ((E.map dP).any fun z => PyData.eqv z (dP p)) = decide (p ∈ E) := by
  induction E with
  | nil => rfl
  | cons q E ih =>
    rw [List.map_cons, List.any_cons, ih]
    have : PyData.eqv (dP q) (dP p) = decide (p = q) := by
      have : p = q ↔ (q.1 = p.1 ∧ q.2 = p.2) := ⟨fun e => by rw [e]; exact ⟨rfl, rfl⟩, fun ⟨a, b⟩ => Prod.ext a.symm b.symm⟩
      simp [PyData.eqv, PyData.eqvAll, this]
      rw [Bool.eq_iff_iff]; simp; omega
    rw [this]
    by_cases e : p = q
    · simp [e]
    · simp [e]
def sp_webof (K : PySem.W.Frag) : Sp := fun vs H Q _ => ∃ (pr : Addr) (ms : List Addr), vs = [.ref pr, .int 6] ∧ pr ∈ ms ∧ Live H ms ∧ Row K H ms pr ∧ ∀ v (W : Web) H', W.Ok → Ex (cut H [pr]) H' → Row K H' ms pr → Rp (cut H' ms) v (dW W) → Q v H'
abbrev s__law_web : Stmt := topS 59
theorem sc__law_web : FnScope ["_law_row", "_law_most", "_law_size", "_law_hedges", "_law_told", "_law_web_here", "_law_step", "_law_one", "_law_other"] ["_law_row", "_law_most"] (defScope s__law_web) := ⟨rfl, rfl, rfl, by decide +kernel, rfl, by decide +kernel, by decide +kernel⟩
theorem ok__law_web (F : Fun K "_law_web" "_law_web" s__law_web f fd) (b : Blt mg) (c__law_tree : Dfn P w K mg base 3 "_law_tree" ["_law_row", "_law_size"] (sp_tree K)) (c__law_far : Dfn P w K mg base 2 "_law_far" ["_law_web_here", "_law_first"] sp_dist) (c__law_pick : Dfn P w K mg base 2 "_law_pick" ["_law_row", "_law_things"] (sp_pick K)) (c__law_taken : Dfn P w K mg base 1 "_law_taken" ["_law_row", "_law_many"] (sp_taken K)) : FnOk P w K mg base CX0 4 f fd ["_law_row", "_law_most"] (sp_webof K) := by
  refine F.ok sc__law_web (fun vs H Q E h => ?_) (fun cdv A outer s H vs Q E hr h => ?_)
  · obtain ⟨pr, ms, rfl, _⟩ := h; rfl
  · obtain ⟨pr, ms, rfl, hm, L, R, k⟩ := h
    have nd := sc__law_web.nd
    refine ⟨_, pss_cons (ps_set (i := 2) nd rfl (Or.inl rfl) (pe_op op_add (pe_int) (pe_own c__law_taken hr (pa_cons (pv 0) (pa_cons (pv 1) pa_nil))))) (pss_cons (ps_set (i := 3) nd rfl (Or.inl rfl) (pe_own c__law_tree hr (pa_cons (pv 0) (pa_cons (pv 2) pa_nil)))) (pss_cons (ps_par (i := 4) (j := 5) rfl nd rfl rfl (by decide) rfl rfl (pa_cons (pe_own c__law_far hr (pa_cons (pe_tup (pa_cons (pv 2) (pa_cons (pe_callTy (call_tupleK K rfl) (by rfl) b.tuple (by decide +kernel) (pa_cons (pe_callB (cr_sortedXK K rfl) (by rfl) b.sorted (by decide +kernel) (pa_cons (pv 3) pa_nil)) pa_nil)) pa_nil))) (pa_cons (pe_int) pa_nil))) (pa_cons (pe_callTy (call_listK K rfl) (by rfl) b.list (by decide +kernel) (pa_cons (pv 3) pa_nil)) pa_nil)) (by rfl)) (pss_cons (ps_for PassesOwn.never rfl (pi_range1 (by rfl) b.range (pa_cons (pe_own c__law_pick hr (pa_cons (pv 0) (pa_cons (pe_lst (pa_cons (pe_int) (pa_cons (pe_int) (pa_cons (pe_int) (pa_cons (pe_int) (pa_cons (pv 2) pa_nil)))))) pa_nil))) pa_nil)) (pg_name (i := 6) nd rfl (Or.inl rfl)) (pss_cons (ps_par (i := 7) (j := 8) rfl nd rfl rfl (by decide) rfl rfl (pa_cons (pe_own c__law_taken hr (pa_cons (pv 0) (pa_cons (pv 2) pa_nil))) (pa_cons (pe_own c__law_taken hr (pa_cons (pv 0) (pa_cons (pv 2) pa_nil))) pa_nil)) (by rfl)) (pss_one (ps_if ((pw_and (pt_cmpR op_eq (pe_op op_mod (pe_op op_sub (pe_ix (ix_listK K rfl) (pv 4) (pv 7) (fun _ _ => rfl)) (pe_ix (ix_listK K rfl) (pv 4) (pv 8) (fun _ _ => rfl))) (pe_int)) (pe_int) (nomark _)) (pw_and1 (pt_cmpR (op_notInDK K rfl hr.units65) (pe_tup (pa_cons (pe_callB (call_min2 rfl) (by rfl) b.min (by decide +kernel) (pa_cons (pv 7) (pa_cons (pv 8) pa_nil))) (pa_cons (pe_callB (call_max2 rfl) (by rfl) b.max (by decide +kernel) (pa_cons (pv 7) (pa_cons (pv 8) pa_nil))) pa_nil))) (pv 5) rfl))).pt) (pss_one (ps_expr (pe_bm PySem.F.plainAttrs_list PySem.F.slot_list_append PySem.F.type_list_append mt_append (pv 5) (pa_cons (pe_tup (pa_cons (pe_callB (call_min2 rfl) (by rfl) b.min (by decide +kernel) (pa_cons (pv 7) (pa_cons (pv 8) pa_nil))) (pa_cons (pe_callB (call_max2 rfl) (by rfl) b.max (by decide +kernel) (pa_cons (pv 7) (pa_cons (pv 8) pa_nil))) pa_nil))) pa_nil)))) (pss_nil))))) (pss_one (ps_ret (pe_tup (pa_cons (pv 2) (pa_cons (pe_callTy (call_tupleK K rfl) (by rfl) b.tuple (by decide +kernel) (pa_cons (pe_callB (cr_sortedXK K rfl) (by rfl) b.sorted (by decide +kernel) (pa_cons (pv 5) pa_nil)) pa_nil)) pa_nil)))))))), ?_⟩
    refine q_asgC ?_
    show tCall (sp_taken K) [] _ (tCons (tVar 0) (tCons (tVar 1) tNil)) _ H _
    refine m_taken (kr := 0) (many := 6) rfl hm R (EvP.val (ms := []) (e_var (k := 1) rfl (.int _))) (by omega) (by omega) fun x H1 hx e1 R1 => ?_
    have L1 := Live.row L e1 R1
    refine ⟨1, (x : Int), rfl, rfl, ?_⟩
    obtain ⟨n, hn⟩ : ∃ n : Nat, n = 1 + x := ⟨_, rfl⟩
    have hnx : (1 : Int) + (x : Int) = (n : Int) := by omega
    show tSeq _ _ _ [some (.ref pr), some (.int 6), some (.int ((1 : Int) + (x : Int))), none, none, none, none, none, none] H1
    rw [hnx]
    refine q_asgC ?_
    have hn1 : 1 ≤ n := by omega
    have hn6 : n ≤ 6 := by omega
    refine ⟨.ref pr, rfl, .int (n : Int), rfl, pr, n, ms, rfl, hn1, hn6, hm, L1, R1, fun vh ns E0 H2 hp ht e2 R2 rh => ?_⟩
    have L2' := Live.row L1 e2 R2
    have e12 : Ex (cut H [pr]) H2 := (ex_cut_in e1).trans e2
    have hnd : ns.Nodup := hp.nodup_iff.mpr List.nodup_range
    have tb := ht.bnd hnd
    have hlt : ∀ p ∈ E0, p.1 < n ∧ p.2 < n := fun p hpE => by
      obtain ⟨⟨i, _, h2⟩, ⟨j, _, h4⟩⟩ := ht.mem p hpE
      exact ⟨List.mem_range.mp (hp.mem_iff.mp (List.mem_of_getElem? h2)), List.mem_range.mp (hp.mem_iff.mp (List.mem_of_getElem? h4))⟩
    obtain ⟨g0, hg0⟩ := ht.par hnd
    have okOf : ∀ (E' E : List (Nat × Nat)), E'.Perm E → E'.Pairwise lexP → (∀ p ∈ E0, p ∈ E) → (∀ p ∈ E, p.1 < p.2 ∧ p.2 < n) → E.Nodup → (∃ g : Nat → Nat, ∀ p ∈ E, (g p.1 + g p.2) % 2 = 1) → Web.Ok ⟨n, E'⟩ := fun E' E q1 q2 q3 q4 q5 ⟨g, q6⟩ =>
      ht.ok hn1 hn6 hp (fun p hpE => q1.mem_iff.mpr (q3 p hpE)) (fun p hpE => q4 p (q1.mem_iff.mp hpE)) (q1.nodup_iff.mpr q5) (fun p hpE => q6 p (q1.mem_iff.mp hpE)) q2
    show tSeq _ _ _ [some (.ref pr), some (.int 6), some (.int (n : Int)), some vh, none, none, none, none, none] H2
    refine q_par (P1 := fun v H3 => ∃ E', (E'.Perm E0 ∧ E'.Pairwise lexP) ∧ Rp (cut H3 ms) v (dDist ⟨n, E'⟩ 0)) (P2 := fun v H3 u H4 => ∃ p xs, u = .ref p ∧ H3 p = none ∧ H4 p = some (.lst xs) ∧ RpAll (cut H4 (p :: ms)) xs (E0.map dP)) ?_ ?_ ?_
    · refine e_callC fun H3 e3 Q q => ?_
      refine e_webT (k := 2) (n := n) rfl (e_tupleS (S := fun E' => E'.Perm E0 ∧ E'.Pairwise lexP) ((e_sortedE (ms := ms) (e_var (k := 3) rfl rh) tb.2 L2').imp fun v H4 e4 ⟨E', a, b, c⟩ => ⟨E', ⟨a, b⟩, c⟩) L2') L2' H3 e3 _ fun v H4 e4 ⟨E', ⟨a, b⟩, c⟩ => ?_
      have ok := okOf E' E0 a b (fun p hp => hp) (fun p hp => ⟨tb.1 p hp, (hlt p hp).2⟩) tb.2 ⟨g0, hg0⟩
      exact ⟨[dW ⟨n, E'⟩, dN 0], dDist ⟨n, E'⟩ 0, ms, .cons c (.cons (.int _) .nil), L2'.mono (e3.trans e4), ⟨⟨n, E'⟩, 0, rfl, ok.pre, hn1, ⟨_, ok.dist hn1⟩, rfl⟩, fun w H5 e5 r5 => q w H5 (e4.trans e5) ⟨E', ⟨a, b⟩, r5⟩⟩
    · exact fun v H3 e3 p => n_listL (ms := ms) (e_var (k := 3) rfl (rp_keep e3 rh))
    rintro v u H3 H4 e3 ⟨E0', ⟨z1, z2⟩, rv⟩ e4 ⟨pw, xs, hu, hpw, h4, rx⟩
    have ok0 := okOf E0' E0 z1 z2 (fun p hp => hp) (fun p hp => ⟨tb.1 p hp, (hlt p hp).2⟩) tb.2 ⟨g0, hg0⟩
    obtain ⟨g, hg⟩ : ∃ g, g = Web.dist ⟨n, E0'⟩ 0 := ⟨_, rfl⟩
    have x0 : Ext n E0 g E0 := ⟨fun p hp => hp, fun p hp => ⟨tb.1 p hp, (hlt p hp).2⟩, tb.2, fun p hp => by rw [hg]; exact ok0.odd (decide_eq_true (.inl (z1.mem_iff.mpr hp)))⟩
    subst hu
    have L4 := L2'.mono (e3.trans e4)
    have L3 := L2'.mono e3
    have hpwm : pw ∉ ms := L3.out hpw
    have hwr : pw ≠ pr := fun z => hpwm (z ▸ hm)
    have hcm : Ex (cut H3 ms) (cut H4 (pw :: ms)) := fun a o h => by
      obtain ⟨z, h⟩ := cut_some h
      have n2 : a ≠ pw := ne_of_none h hpw
      rw [cut_out (by simp [n2, z])]; exact e4 _ _ h
    have R3 := R2.mono e3
    have hpr2 : H4 pr = H3 pr := by
      obtain ⟨_, _, _, _, _, hh, _⟩ := R3
      rw [hh]; exact e4 _ _ hh
    have R4 : Row K H4 (pw :: ms) pr := R3.cut hpr2 hcm
    have rv4 : Rp (cut H4 (pw :: ms)) v (dNs ((List.range n).map g)) := by rw [hg]; exact rv.mono hcm
    have hmm : pr ∈ pw :: ms := List.mem_cons_of_mem _ hm
    have L4w : Live H4 (pw :: ms) := L4.cons h4
    show tSeq (tFor (iRng1 _) _ _) _ _ [some (.ref pr), some (.int 6), some (.int (n : Int)), some vh, some v, some (.ref pw), none, none, none] H4
    refine q_forC ?_
    refine ⟨.ref pr, rfl, ?_⟩
    refine e_lst (ms := pw :: ms) (a_cons e_int (a_cons e_int (a_cons e_int (a_cons e_int (a_cons (e_var (k := 2) rfl (.int (n : Int))) a_nil))))) (by simp) L4w H4 (Ex.refl _) _ fun vl H5 e5 rl => ?_
    refine ⟨pr, vl, _, pw :: ms, rfl, hmm, R4.mono e5, rl, by simp, by simp, fun vj dj H6 hdj e6 R6 r6 => ?_⟩
    obtain ⟨m, hm6, hmv⟩ : ∃ m : Nat, m ≤ 6 ∧ dj = .int (m : Int) := by
      simp only [List.mem_cons, List.not_mem_nil, or_false] at hdj
      rcases hdj with e | e | e | e | e
      · exact ⟨0, by omega, e⟩
      · exact ⟨0, by omega, e⟩
      · exact ⟨1, by omega, e⟩
      · exact ⟨2, by omega, e⟩
      · exact ⟨n, by omega, e⟩
    subst hmv
    cases r6.int_of
    have e46 : Ex (cut H4 [pr]) H6 := (ex_cut e5).trans e6
    have h6w : H6 pw = some (.lst xs) := e46 _ _ (by rw [cut_out (by simpa using hwr)]; exact h4)
    have L6 := Live.row (L4w.mono e5) e6 R6
    have st0 : Ex (cut H4 [pw, pr]) H6 := (cut_sub (by simp)).trans e46
    have up6 : Ex (cut H4 (pw :: ms)) (cut H6 (pw :: ms)) := ex_cut_in ((cut_sub (fun m hm' => by cases List.mem_singleton.mp hm'; exact hmm)).trans e46)
    refine s_seqfor (ms := [pw, pr]) (src_rg1 (ms := [pw, pr]) (j := (m : Int)) (a_cons e_int a_nil) (by omega))
      (fun B i σ' H' => ∃ (E : List (Nat × Nat)) (xs : List V) (y6 y7 y8 : Option V), σ' = [some (.ref pr), some (.int 6), some (.int (n : Int)), some vh, some v, some (.ref pw), y6, y7, y8] ∧ Ext n E0 g E ∧ E.length ≤ E0.length + i ∧ H' pw = some (.lst xs) ∧ RpAll (cut H' (pw :: ms)) xs (E.map dP) ∧ Ex (cut B [pw, pr]) H' ∧ Ex (cut H4 [pw, pr]) H' ∧ Row K H' (pw :: ms) pr ∧ Live H' (pw :: ms) ∧ Rp (cut H' (pw :: ms)) v (dNs ((List.range n).map g)))
      (fun H7 e7 => ⟨E0, xs, _, _, _, rfl, x0, by omega, e7 _ _ h6w, rx.mono (up6.trans (ex_cut e7)), cut_le, st0.trans e7, R6.mono e7, L6.mono e7, rv4.mono (up6.trans (ex_cut e7))⟩) (fun B i σ' H' _ _ ⟨_, _, _, _, _, _, _, _, _, _, h, _⟩ => h) (fun B i d vi σ' Hc H' eB hd ⟨E, xs, y6, y7, y8, hσ, xE, hEl, hw, hE, ex1, ex2, Rc, Lc, rc⟩ ec hrp => ?_) (fun B σ' H' eB ⟨E, xs, y6, y7, y8, hσ, xE, hEl, hw, hE, ex1, ex2, Rc, Lc, rc⟩ => ?_)
    · subst hσ
      have hi := (rgD_get hd).1
      have L' := Lc.mono ec
      have R' := Rc.mono ec
      show tSeq _ _ _ [some (.ref pr), some (.int 6), some (.int (n : Int)), some vh, some v, some (.ref pw), some vi, y7, y8] H'
      refine q_parC ?_
      show tCall (sp_taken K) [] _ (tCons (tVar 0) (tCons (tVar 2) tNil)) _ H' _
      refine m_taken (kr := 0) (many := (n : Int)) rfl hmm R' (EvP.val (ms := []) (e_var (k := 2) rfl (.int _))) (by omega) (by omega) fun a H8 ha e8 R8 => ?_
      show tCall (sp_taken K) [] _ (tCons (tVar 0) (tCons (tVar 2) tNil)) _ H8 _
      refine m_taken (kr := 0) (many := (n : Int)) rfl hmm R8 (EvP.val (ms := []) (e_var (k := 2) rfl (.int _))) (by omega) (by omega) fun c H9 hc e9 R9 => ?_
      have e89 : Ex (cut H' [pr]) H9 := (ex_cut_in e8).trans e9
      have L9 := Live.row L' e89 R9
      refine ⟨.int (a : Int), .int (c : Int), rfl, ?_⟩
      have up9 : Ex (cut Hc (pw :: ms)) (cut H9 (pw :: ms)) := (ex_cut ec).trans (ex_cut_in ((cut_sub (fun m hm' => by cases List.mem_singleton.mp hm'; exact hmm)).trans e89))
      have hw9 : H9 pw = some (.lst xs) := e89 _ _ (by rw [cut_out (by simpa using hwr)]; exact ec _ _ hw)
      have hE9 := hE.mono up9
      have rc9 := rc.mono up9
      have gat : ∀ a : Nat, (a : Int) < n → atI ((nI ((List.range n).map g)).map PyData.int) (a : Int) = some (.int (g a : Int)) := fun a ha => atI_nat (by
        unfold nI
        rw [List.getElem?_map, List.getElem?_map, List.getElem?_map, List.getElem?_range (by omega)]; rfl)
      have sub9 : Ex (cut H9 (pw :: ms)) (cut H9 ms) := cut_sub (fun m hm' => List.mem_cons_of_mem _ hm')
      have Lm : Live H9 ms := fun m hm' => L9 m (List.mem_cons_of_mem _ hm')
      have rw9 : Rp (cut H9 ms) (.ref pw) (.list (E.map dP)) := .lst (by rw [cut_out hpwm]; exact hw9) (hE9.mono sub9)
      show tIfS _ _ _ _ [some (.ref pr), some (.int 6), some (.int (n : Int)), some vh, some v, some (.ref pw), some vi, some (.int (a : Int)), some (.int (c : Int))] H9
      have fin : ∀ (E2 : List (Nat × Nat)) (xs2 : List V) (H10 : Hp), Ext n E0 g E2 → E2.length ≤ E.length + 1 → H10 pw = some (.lst xs2) → RpAll (cut H10 (pw :: ms)) xs2 (E2.map dP) → Ex (cut H9 (pw :: ms)) (cut H10 (pw :: ms)) → Ex (cut H9 [pw, pr]) H10 → H10 pr = H9 pr → Live H10 (pw :: ms) → ∃ (E : List (Nat × Nat)) (xs : List V) (y6 y7 y8 : Option V), [some (V.ref pr), some (.int 6), some (.int (n : Int)), some vh, some v, some (.ref pw), some vi, some (.int (a : Int)), some (.int (c : Int))] = [some (.ref pr), some (.int 6), some (.int (n : Int)), some vh, some v, some (.ref pw), y6, y7, y8] ∧ Ext n E0 g E ∧ E.length ≤ E0.length + (i + 1) ∧ H10 pw = some (.lst xs) ∧ RpAll (cut H10 (pw :: ms)) xs (E.map dP) ∧ Ex (cut B [pw, pr]) H10 ∧ Ex (cut H4 [pw, pr]) H10 ∧ Row K H10 (pw :: ms) pr ∧ Live H10 (pw :: ms) ∧ Rp (cut H10 (pw :: ms)) v (dNs ((List.range n).map g)) := fun E2 xs2 H10 q1 q2 q3 q4 q5 q6 q7 q8 => by
        have st : Ex (cut Hc [pw, pr]) H10 := (ex_cut_in ((cut_sub (by simp)).trans ((ex_cut ec).trans e89))).trans q6
        exact ⟨E2, xs2, _, _, _, rfl, q1, by omega, q3, q4, (ex_cut_in ex1).trans st, (ex_cut_in ex2).trans st, R9.cut q7 q5, q8, rc9.mono q5⟩
      refine s_if (b := (decide (((g a : Int) - (g c : Int)) % 2 = 1)) && (!decide (mm a c ∈ E))) (et_and (t_T (e_eq (ms := pw :: ms) (e_IC (e_I0 (e_ixL (e_var (k := 4) rfl rc9) (e_var (k := 7) rfl (.int _)) (gat a ha)) (e_ixL (e_var (k := 4) rfl rc9) (e_var (k := 8) rfl (.int _)) (gat c hc))) e_int (by decide)) e_int)) fun _ => t_is (t_T (e_notInD (ms := ms) (e_mm (i := 7) (j := 8) rfl rfl Lm) (e_var (k := 5) rfl rw9) ?_ ?_)) (by rw [any_dP])) (fun hb H10 e10 => ?_) (fun hb H10 e10 => ?_)
      · exact shaped_P _
      · exact shaped_Ps _
      · rw [Bool.and_eq_true, decide_eq_true_eq, Bool.not_eq_true', decide_eq_false_iff_not] at hb
        have xm := xE.more (a := a) (b := c) (by omega) (by omega) (by omega) hb.2
        have hlen := hE.len
        rw [List.length_map] at hlen
        have htl := ht.len
        refine s_app (ms := pw :: ms) (d := dP (mm a c)) (e_ref rfl) (e10 _ _ hw9) (by simp) (e_mm (i := 7) (j := 8) rfl rfl (L9.mono e10)) (by omega) fun vE H11 e11 r11 => ?_
        have c11 : cut (upd H11 pw (.lst (xs ++ [vE]))) (pw :: ms) = cut H11 (pw :: ms) := cut_upd (by simp)
        refine fin (E ++ [mm a c]) _ _ xm (by simp) upd_same ?_ ?_ ?_ ?_ ?_
        · rw [c11, List.map_append]
          exact (hE9.mono (ex_cut (e10.trans e11))).snoc r11
        · rw [c11]; exact ex_cut (e10.trans e11)
        · exact ex_cut_upd (cut_le.trans (e10.trans e11)) (by simp)
        · rw [upd_ne (fun z => hwr z.symm)]
          obtain ⟨_, _, _, _, _, hh, _⟩ := R9
          rw [hh]; exact e11 _ _ (e10 _ _ hh)
        · exact (L9.mono (e10.trans e11)).upd
      · refine fin E xs H10 xE (by omega) (e10 _ _ hw9) (hE9.mono (ex_cut e10)) (ex_cut e10) (cut_le.trans e10) ?_ (L9.mono e10)
        obtain ⟨_, _, _, _, _, hh, _⟩ := R9
        rw [hh]; exact e10 _ _ hh
    · subst hσ
      have Lm : Live H' ms := fun m hm' => Lc m (List.mem_cons_of_mem _ hm')
      have subm : Ex (cut H' (pw :: ms)) (cut H' ms) := cut_sub (fun m hm' => List.mem_cons_of_mem _ hm')
      have rwm : Rp (cut H' ms) (.ref pw) (.list (E.map dP)) := .lst (by rw [cut_out hpwm]; exact hw) (hE.mono subm)
      have e34 := e3.trans e4
      have eH : Ex (cut H [pr]) H' := fun a o h => by
        have h' := e12 _ _ h
        have n2 : a ≠ pw := ne_of_none (e3 _ _ h') hpw
        obtain ⟨z, _⟩ := cut_some h
        exact ex2 _ _ (by rw [cut_out (by simp at z; simp [n2, z])]; exact e34 _ _ h')
      refine s_ret (e_webT (k := 2) (n := n) rfl (e_tupleS (S := fun E' => E'.Perm E ∧ E'.Pairwise lexP) ((e_sortedE (ms := ms) (e_var (k := 5) rfl rwm) xE.nd Lm).imp fun v H4 e4 ⟨E', a, b, c⟩ => ⟨E', ⟨a, b⟩, c⟩) Lm) Lm) fun v H7 e7 ⟨E', ⟨a, b⟩, c⟩ => ?_
      exact k v ⟨n, E'⟩ H7 (okOf E' E a b xE.sub xE.bnd xE.nd ⟨g, xE.par⟩) (eH.trans e7) ((Rc.cut rfl subm).mono e7) c
end
end T

set_option Elab.async false
set_option linter.all false
set_option maxHeartbeats 4000000
/-! M9: layings that are drawn. -/
namespace M
open PySem G
/-- a laying as a list -/
structure Layc (W : Web) (c : List Int) : Prop where
  len : c.length = W.n
  lay : Lay W (atc c)
/-- .. whose heights go with the distances from 0 -/
structure LP (W : Web) (ht : Int) (c : List Int) : Prop where
  layc : Layc W c
  par : ∀ v, v < W.n → (atc c v - ht - (W.dist 0 v : Int)) % 2 = 0
theorem Web.Ok.dpar {W : Web} (h : W.Ok) {f : Nat} (hf : f < W.n) : ∀ (k v : Nat), v < W.n → W.dist f v = k → (W.dist f v + W.dist 0 v + W.dist 0 f) % 2 = 0 := fun k => by
  have D := h.dist hf
  induction k with
  | zero =>
    intro v hv e
    by_cases z : v = f
    · subst z; rw [D.s0]; omega
    · obtain ⟨u, _, e1⟩ := D.back v hv z; omega
  | succ k ih =>
    intro v hv e
    have z : v ≠ f := fun z => by rw [z, D.s0] at e; cases e
    obtain ⟨u, hu, e1⟩ := D.back v hv z
    have h1 := ih u (adj_lt h.pre hu).2.1 (by omega)
    have h2 := h.odd hu
    omega
theorem Web.Ok.dstep {W : Web} (h : W.Ok) {f : Nat} (hf : f < W.n) {u v : Nat} (a : W.adj u v = true) : W.dist f v = W.dist f u + 1 ∨ W.dist f u = W.dist f v + 1 := by
  have D := h.dist hf
  have h1 := D.lip u v a
  have h2 := D.lip v u (by rw [adj_sym]; exact a)
  have l := adj_lt h.pre a
  have h3 := h.dpar hf _ u l.1 rfl
  have h4 := h.dpar hf _ v l.2.1 rfl
  have h5 := h.odd a
  omega
theorem atc_map {n : Nat} {g : Nat → Int} {v : Nat} (hv : v < n) : atc ((List.range n).map g) v = g v := by
  unfold atc
  rw [List.getD_eq_getElem?_getD, List.getElem?_map, List.getElem?_range hv]; rfl
theorem cone_up {W : Web} (h : W.Ok) {f : Nat} (hf : f < W.n) {ht x y : Int} (hx : x = ht + (W.dist 0 f : Int) + 2 * y) : LP W ht ((List.range W.n).map fun v => x + (W.dist f v : Int)) := by
  refine ⟨⟨by simp, fun u v a => ?_⟩, fun v hv => ?_⟩
  · have l := adj_lt h.pre a
    rw [atc_map l.1, atc_map l.2.1]
    have := h.dstep hf a
    omega
  · rw [atc_map hv]
    have := h.dpar hf _ v hv rfl
    omega
theorem cone_dn {W : Web} (h : W.Ok) {f : Nat} (hf : f < W.n) {ht x y : Int} (hx : x = ht + (W.dist 0 f : Int) + 2 * y) : LP W ht ((List.range W.n).map fun v => x - (W.dist f v : Int)) := by
  refine ⟨⟨by simp, fun u v a => ?_⟩, fun v hv => ?_⟩
  · have l := adj_lt h.pre a
    rw [atc_map l.1, atc_map l.2.1]
    have := h.dstep hf a
    omega
  · rw [atc_map hv]
    have := h.dpar hf _ v hv rfl
    omega
theorem atc_zip {g : Int → Int → Int} {a b : List Int} {v : Nat} (ha : v < a.length) (hb : v < b.length) : atc ((a.zip b).map fun p => g p.1 p.2) v = g (atc a v) (atc b v) := by
  unfold atc
  rw [List.getD_eq_getElem?_getD, List.getD_eq_getElem?_getD, List.getD_eq_getElem?_getD, List.getElem?_map, List.getElem?_eq_getElem ha, List.getElem?_eq_getElem hb, List.getElem?_eq_getElem (by rw [List.length_zip]; omega), List.getElem_zip]
  rfl
theorem LP.two {W : Web} (h : W.Ok) {ht : Int} {a b : List Int} (A : LP W ht a) (B : LP W ht b) (g : Int → Int → Int) (hg : g = min ∨ g = max) : LP W ht ((a.zip b).map fun p => g p.1 p.2) := by
  have la := A.layc.len
  have lb := B.layc.len
  have at_ : ∀ v, v < W.n → atc ((a.zip b).map fun p => g p.1 p.2) v = g (atc a v) (atc b v) := fun v hv => atc_zip (by omega) (by omega)
  refine ⟨⟨by rw [List.length_map, List.length_zip]; omega, fun u v e => ?_⟩, fun v hv => ?_⟩
  · have l := adj_lt h.pre e
    rw [at_ u l.1, at_ v l.2.1]
    have p1 := A.par u l.1
    have p2 := A.par v l.2.1
    have p3 := B.par u l.1
    have p4 := B.par v l.2.1
    have q1 := A.layc.lay u v e
    have q2 := B.layc.lay u v e
    rcases hg with rfl | rfl <;> omega
  · rw [at_ v hv]
    have p2 := A.par v hv
    have p4 := B.par v hv
    rcases hg with rfl | rfl
    · rcases Int.le_total (atc a v) (atc b v) with z | z
      · rw [Int.min_eq_left z]; exact p2
      · rw [Int.min_eq_right z]; exact p4
    · rcases Int.le_total (atc a v) (atc b v) with z | z
      · rw [Int.max_eq_right z]; exact p4
      · rw [Int.max_eq_left z]; exact p2
theorem Layc.up {W : Web} (h : W.Pre) {c : List Int} (L : Layc W c) {f : Nat} (hf : f < W.n) (hl : lowB W c f = true) : Layc W (c.set f (atc c f + 2)) := by
  have hc := L.len
  have low : ∀ u, W.adj f u = true → ¬ atc c u < atc c f := fun u a => by
    have := List.all_eq_true.mp hl u ((mem_nb h).mpr a)
    simpa using this
  refine ⟨by rw [List.length_set]; exact hc, fun u v a => ?_⟩
  have hne := (adj_lt h a).2.2
  have q := L.lay u v a
  rw [atc_set (by omega), atc_set (by omega)]
  by_cases z : v = f
  · subst z
    rw [if_pos rfl, if_neg hne]
    have := low u (by rw [adj_sym]; exact a)
    omega
  · rw [if_neg z]
    by_cases z2 : u = f
    · subst z2
      rw [if_pos rfl]
      have := low v a
      omega
    · rw [if_neg z2]; exact q
theorem Layc.dn {W : Web} (h : W.Pre) {c : List Int} (L : Layc W c) {f : Nat} (hf : f < W.n) (hl : highB W c f = true) : Layc W (c.set f (atc c f + (0 - 2))) := by
  have hc := L.len
  have high : ∀ u, W.adj f u = true → ¬ atc c f < atc c u := fun u a => by
    have := List.all_eq_true.mp hl u ((mem_nb h).mpr a)
    simpa using this
  refine ⟨by rw [List.length_set]; exact hc, fun u v a => ?_⟩
  have hne := (adj_lt h a).2.2
  have q := L.lay u v a
  rw [atc_set (by omega), atc_set (by omega)]
  by_cases z : v = f
  · subst z
    rw [if_pos rfl, if_neg hne]
    have := high u (by rw [adj_sym]; exact a)
    omega
  · rw [if_neg z]
    by_cases z2 : u = f
    · subst z2
      rw [if_pos rfl]
      have := high v a
      omega
    · rw [if_neg z2]; exact q
theorem argmin (g : Nat → Int) : ∀ n, 0 < n → ∃ f, f < n ∧ ∀ u, u < n → g f ≤ g u
  | 0, h => absurd h (by omega)
  | 1, _ => ⟨0, by omega, fun u hu => by rw [show u = 0 by omega]; omega⟩
  | n + 2, _ => by
    obtain ⟨f, hf, hm⟩ := argmin g (n + 1) (by omega)
    by_cases z : g (n + 1) < g f
    · refine ⟨n + 1, by omega, fun u hu => ?_⟩
      by_cases e : u = n + 1
      · subst e; omega
      · have := hm u (by omega); omega
    · refine ⟨f, by omega, fun u hu => ?_⟩
      by_cases e : u = n + 1
      · subst e; omega
      · exact hm u (by omega)
theorem low_ex {W : Web} (h : W.Pre) (c : List Int) : ∃ f, f < W.n ∧ lowB W c f = true := by
  obtain ⟨f, hf, hm⟩ := argmin (atc c) W.n h.pos
  refine ⟨f, hf, List.all_eq_true.mpr fun u hu => ?_⟩
  have := hm u (adj_lt h ((mem_nb h).mp hu)).2.1
  simp; omega
/-- heights that are not far apart -/
theorem Lay.near {W : Web} (h : W.Ok) {g : Nat → Int} (L : Lay W g) {f : Nat} (hf : f < W.n) : ∀ (k v : Nat), v < W.n → W.dist f v = k → g v - g f ≤ (k : Int) ∧ g f - g v ≤ (k : Int) := fun k => by
  have D := h.dist hf
  induction k with
  | zero =>
    intro v hv e
    by_cases z : v = f
    · subst z; omega
    · obtain ⟨u, _, e1⟩ := D.back v hv z; omega
  | succ k ih =>
    intro v hv e
    have z : v ≠ f := fun z => by rw [z, D.s0] at e; cases e
    obtain ⟨u, hu, e1⟩ := D.back v hv z
    have h1 := ih u (adj_lt h.pre hu).2.1 (by omega)
    have h2 := L v u hu
    omega
/-- heights to colors -/
theorem Layc.laid {W : Web} (h : W.Pre) {c : List Int} (L : Layc W c) : Lift W (c.map (· % 3)) (atc c) ∧ Col W (c.map (· % 3)) := by
  have hc := L.len
  have at_ : ∀ v, v < W.n → atc (c.map (· % 3)) v = atc c v % 3 := fun v hv => by
    unfold atc
    rw [List.getD_eq_getElem?_getD, List.getD_eq_getElem?_getD, List.getElem?_map, List.getElem?_eq_getElem (by omega)]; rfl
  refine ⟨⟨L.lay, fun v hv => (at_ v hv).symm⟩, ⟨by rw [List.length_map]; exact hc, fun x hx => ?_, fun u v a => ?_⟩⟩
  · obtain ⟨y, _, rfl⟩ := List.mem_map.mp hx
    omega
  · have l := adj_lt h a
    rw [at_ u l.1, at_ v l.2.1]
    have := L.lay u v a
    omega
end M

set_option Elab.async false
set_option linter.all false
set_option maxRecDepth 100000
set_option maxHeartbeats 4000000
namespace T
open PySem PySem.Spec PyProof.Rows L2 RZ G M GX
open Evl (Ex EvT et_or et_not et_and)
section
variable {P : Program} {w : World} {K : PySem.W.Frag} {mg : Str → Option Value} {base : Heap} {f : Addr} {fd : FuncData}
theorem q_asgG {te : TE} {g : TG} {tz : TS} {D : Ends} {σ : L2.St} {H : Hp} (h : te σ H fun v H1 => g v σ H1 (tz D)) : tSeq (tAsg te g) tz D σ H := h
theorem next_lay {W : Web} (h : W.Pre) {c d : List Int} (L : Layc W c) (hd : d ∈ ups2 W c ++ dns2 W c) : Layc W d := by
  rcases List.mem_append.mp hd with hd | hd
  · obtain ⟨f, hf, rfl⟩ := List.mem_map.mp hd
    obtain ⟨h1, h2⟩ := List.mem_filter.mp hf
    exact L.up h (List.mem_range.mp h1) h2
  · obtain ⟨f, hf, rfl⟩ := List.mem_map.mp hd
    obtain ⟨h1, h2⟩ := List.mem_filter.mp hf
    exact L.dn h (List.mem_range.mp h1) h2
theorem next_len {W : Web} (h : W.Pre) {c : List Int} : 0 < (ups2 W c ++ dns2 W c).length ∧ (ups2 W c ++ dns2 W c).length ≤ 12 := by
  have h6 := h.few
  have l1 := List.length_filter_le (lowB W c) (List.range W.n)
  have l2 := List.length_filter_le (highB W c) (List.range W.n)
  rw [List.length_range] at l1 l2
  obtain ⟨f, hf, hl⟩ := low_ex h c
  have : 0 < ((List.range W.n).filter (lowB W c)).length := List.length_pos_of_mem (List.mem_filter.mpr ⟨List.mem_range.mpr hf, hl⟩)
  unfold ups2 dns2
  rw [List.length_append, List.length_map, List.length_map]
  omega
def sp_laying2 (K : PySem.W.Frag) : Sp := fun vs H Q _ => ∃ (pr : Addr) (vw : V) (W : Web) (ht : Int) (ms : List Addr), vs = [.ref pr, vw, .int ht] ∧ W.Ok ∧ pr ∈ ms ∧ Live H ms ∧ Row K H ms pr ∧ Rp (cut H ms) vw (dW W) ∧ ∀ v (c : List Int) H', Layc W c → Ex (cut H [pr]) H' → Row K H' ms pr → Rp (cut H' ms) v (dC c) → Q v H'
abbrev s__law_laying : Stmt := topS 62
theorem sc__law_laying : FnScope ["_law_row", "_law_web_here", "_law_height", "_law_told", "_law_kind", "_law_found", "_law_step", "_law_field", "_law_here", "_law_away", "_law_some", "_law_laying_here", "_law_many", "_law_one", "_law_other"] ["_law_row", "_law_web_here", "_law_height"] (defScope s__law_laying) := ⟨rfl, rfl, rfl, by decide +kernel, rfl, by decide +kernel, by decide +kernel⟩
theorem ok__law_laying (F : Fun K "_law_laying" "_law_laying" s__law_laying f fd) (b : Blt mg) (c__law_far : Dfn P w K mg base 2 "_law_far" ["_law_web_here", "_law_first"] sp_dist) (c__law_next : Dfn P w K mg base 3 "_law_next" ["_law_web_here", "_law_laying_here"] sp_next) (c__law_pick : Dfn P w K mg base 2 "_law_pick" ["_law_row", "_law_things"] (sp_pick K)) (c__law_taken : Dfn P w K mg base 1 "_law_taken" ["_law_row", "_law_many"] (sp_taken K)) : FnOk P w K mg base CX0 4 f fd ["_law_row", "_law_web_here", "_law_height"] (sp_laying2 K) := by
  refine F.ok sc__law_laying (fun vs H Q E h => ?_) (fun cdv A outer s H vs Q E hr h => ?_)
  · obtain ⟨pr, vw, W, ht, ms, rfl, _⟩ := h; rfl
  · obtain ⟨pr, vw, W, ht, ms, rfl, hW, hm, L, R, rw_, k⟩ := h
    have nd := sc__law_laying.nd
    refine ⟨_, pss_cons (ps_asg (pe_tup (pa_cons (pe_own c__law_far hr (pa_cons (pv 1) (pa_cons (pe_int) pa_nil))) (pa_cons (pe_own c__law_taken hr (pa_cons (pv 0) (pa_cons (pe_int) pa_nil))) (pa_cons (pe_non) pa_nil)))) (pg_tupK (n := 3) K rfl rfl (pgs_cons (pg_name (i := 3) nd rfl (Or.inl rfl)) (pgs_cons (pg_name (i := 4) nd rfl (Or.inr rfl)) (pgs_cons (pg_name (i := 5) nd rfl (Or.inl rfl)) (pgs_nil)))))) (pss_cons (ps_for PassesOwn.never rfl (pi_range1 (by rfl) b.range (pa_cons (pe_op op_add (pe_int) (pe_own c__law_taken hr (pa_cons (pv 0) (pa_cons (pe_int) pa_nil)))) pa_nil)) (pg_name (i := 6) nd rfl (Or.inl rfl)) (pss_cons (ps_set (i := 7) nd rfl (Or.inl rfl) (pe_own c__law_taken hr (pa_cons (pv 0) (pa_cons (pe_ix (ix_tupK K rfl) (pv 1) (pe_int) (fun _ _ => rfl)) pa_nil)))) (pss_cons (ps_set (i := 8) nd rfl (Or.inr rfl) (pe_op op_add (pe_op op_add (pv 2) (pe_ix (ix_listK K rfl) (pv 3) (pv 7) (fun _ _ => rfl))) (pe_op op_mul (pe_int) (pe_op op_sub (pe_own c__law_taken hr (pa_cons (pv 0) (pa_cons (pe_int) pa_nil))) (pe_int))))) (pss_cons (ps_set (i := 9) nd rfl (Or.inl rfl) (pe_own c__law_far hr (pa_cons (pv 1) (pa_cons (pv 7) pa_nil)))) (pss_cons (ps_set (i := 10) nd rfl (Or.inl rfl) (pe_ifExp (pt_cmpR op_eq (pv 4) (pe_int) (nomark _)) (pe_lc (own := [("_law_many", 12)]) rfl nd (pi_listK K rfl (pv 9)) (blkOk_by (own := [("_law_many", 12)]) (N := ["_law_row", "_law_web_here", "_law_height", "_law_told", "_law_kind", "_law_found", "_law_step", "_law_field", "_law_here", "_law_away", "_law_some", "_law_laying_here", "_law_many", "_law_one", "_law_other"]) (sc := (defScope s__law_laying)) (by decide +kernel)) (fun _ _ _ _ _ => pg_name (i := 12) nd rfl (Or.inl rfl)) (fun _ _ _ _ _ => pts_nil) (fun _ _ _ _ _ => pe_op op_add (pv 8) (pv 12))) (pe_lc (own := [("_law_many", 12)]) rfl nd (pi_listK K rfl (pv 9)) (blkOk_by (own := [("_law_many", 12)]) (N := ["_law_row", "_law_web_here", "_law_height", "_law_told", "_law_kind", "_law_found", "_law_step", "_law_field", "_law_here", "_law_away", "_law_some", "_law_laying_here", "_law_many", "_law_one", "_law_other"]) (sc := (defScope s__law_laying)) (by decide +kernel)) (fun _ _ _ _ _ => pg_name (i := 12) nd rfl (Or.inl rfl)) (fun _ _ _ _ _ => pts_nil) (fun _ _ _ _ _ => pe_op op_sub (pv 8) (pv 12))))) (pss_one (ps_if (pt_cmpR op_isN (pv 5) pe_non (nomark _)) (pss_one (ps_set (i := 5) nd rfl (Or.inl rfl) (pv 10))) (pss_one (ps_setLc (i := 5) (own := [("_law_one", 13), ("_law_other", 14)]) rfl nd rfl rfl (sw_true rfl rfl rfl (by decide +kernel)) (pi_zipK K rfl (by rfl) b.zip (pa_cons (pv 5) (pa_cons (pv 10) pa_nil))) (blkOk_by (own := [("_law_one", 13), ("_law_other", 14)]) (N := ["_law_row", "_law_web_here", "_law_height", "_law_told", "_law_kind", "_law_found", "_law_step", "_law_field", "_law_here", "_law_away", "_law_some", "_law_laying_here", "_law_many", "_law_one", "_law_other"]) (sc := (defScope s__law_laying)) (by decide +kernel)) (fun _ _ _ _ _ => pg_tupK (n := 2) K rfl rfl (pgs_cons (pg_name (i := 13) nd rfl (Or.inl rfl)) (pgs_cons (pg_name (i := 14) nd rfl (Or.inl rfl)) (pgs_nil)))) (fun _ _ _ _ _ => pts_nil) (fun _ _ _ _ _ => pe_ifExp (pt_cmpR op_eq (pv 4) (pe_int) (nomark _)) (pe_callB (call_min2 rfl) (by rfl) b.min (by decide +kernel) (pa_cons (pv 13) (pa_cons (pv 14) pa_nil))) (pe_callB (call_max2 rfl) (by rfl) b.max (by decide +kernel) (pa_cons (pv 13) (pa_cons (pv 14) pa_nil))))))))))))) (pss_cons (ps_set (i := 11) nd rfl (Or.inl rfl) (pe_callTy (call_tupleK K rfl) (by rfl) b.tuple (by decide +kernel) (pa_cons (pv 5) pa_nil))) (pss_cons (ps_for PassesOwn.never rfl (pi_range1 (by rfl) b.range (pa_cons (pe_own c__law_taken hr (pa_cons (pv 0) (pa_cons (pe_int) pa_nil))) pa_nil)) (pg_name (i := 6) nd rfl (Or.inl rfl)) (pss_one (ps_set (i := 11) nd rfl (Or.inl rfl) (pe_own c__law_pick hr (pa_cons (pv 0) (pa_cons (pe_own c__law_next hr (pa_cons (pv 1) (pa_cons (pv 11) pa_nil))) pa_nil)))))) (pss_one (ps_ret (pv 11)))))), ?_⟩
    have hn := hW.pre.few
    have hp := hW.pre.pos
    refine q_asgG ?_
    refine e_call (a_cons (e_var (k := 1) rfl rw_) (a_cons e_int a_nil)) L ⟨W, 0, rfl, hW.pre, hp, ⟨_, hW.dist hp⟩, rfl⟩ H (Ex.refl _) _ fun vt H1 e1 rt => ?_
    have L1 := L.mono e1
    have R1 := R.mono e1
    show tCall (sp_taken K) [] _ (tCons (tVar 0) (tCons (tC (.int 2)) tNil)) _ H1 _
    refine m_taken (kr := 0) (many := 2) rfl hm R1 (EvP.val (ms := []) e_int) (by omega) (by omega) fun kd H2 hkd e2 R2 => ?_
    have L2' := Live.row L1 e2 R2
    refine ⟨sz (by simp), fun q hq => ⟨q, _, rfl, SqT.of upd_same, rfl, _, _, rfl, _, _, rfl, _, _, rfl, rfl, ?_⟩⟩
    have eq3 : Ex H2 (upd H2 q (.tup [vt, .int (kd : Int), .non])) := Ex.new hq
    generalize upd H2 q (.tup [vt, .int (kd : Int), .non]) = H3 at *
    have L3 := L2'.mono eq3
    have R3 := R2.mono eq3
    have e03 : Ex (cut H [pr]) H3 := (ex_cut_in ((ex_cut e1).trans e2)).trans ((ex_cut eq3).trans cut_le)
    have upm : ∀ {Ha Hb : Hp}, Ex (cut Ha [pr]) Hb → Ex (cut Ha ms) (cut Hb ms) := fun e => ex_cut_in ((cut_sub (fun m hm' => by cases List.mem_singleton.mp hm'; exact hm)).trans e)
    have rw3 := rw_.mono (upm e03)
    have rt3 : Rp (cut H3 ms) vt (dDist W 0) := (rt.mono (upm e2)).mono (ex_cut eq3)
    show tSeq (tFor (iRng1 _) _ _) _ _ [some (.ref pr), some vw, some (.int ht), some vt, some (.int (kd : Int)), some .non, none, none, none, none, none, none, none, none, none] H3
    refine q_forC ?_
    show tCall (sp_taken K) [] _ (tCons (tVar 0) (tCons (tC (.int 3)) tNil)) _ H3 _
    refine m_taken (kr := 0) (many := 3) rfl hm R3 (EvP.val (ms := []) e_int) (by omega) (by omega) fun m H4 hm3 e4 R4 => ?_
    have L4 := Live.row L3 e4 R4
    refine ⟨1, (m : Int), rfl, rfl, ?_⟩
    show tSeq (tFor (iRng1 (tCons (tC (.int ((1 : Int) + (m : Int)))) tNil)) _ _) _ _ [some (.ref pr), some vw, some (.int ht), some vt, some (.int (kd : Int)), some .non, none, none, none, none, none, none, none, none, none] H4
    refine s_seqfor (ms := [pr]) (src_rg1 (ms := [pr]) (a_cons e_int a_nil) (by omega))
      (fun B i σ' H' => ∃ (vf : V) (y6 y7 y8 y9 y10 : Option V), σ' = [some (.ref pr), some vw, some (.int ht), some vt, some (.int (kd : Int)), some vf, y6, y7, y8, y9, y10, none, none, none, none] ∧ ((i = 0 ∧ vf = .non) ∨ ∃ c, LP W ht c ∧ Rp (cut H' ms) vf (dIs c)) ∧ Ex (cut B [pr]) H' ∧ Ex (cut H [pr]) H' ∧ Row K H' ms pr ∧ Live H' ms ∧ Rp (cut H' ms) vw (dW W) ∧ Rp (cut H' ms) vt (dDist W 0))
      (fun H5 e5 => ⟨_, _, _, _, _, _, rfl, .inl ⟨rfl, rfl⟩, cut_le, ((ex_cut_in e03).trans e4).trans e5, R4.mono e5, L4.mono e5, (rw3.mono (upm e4)).mono (ex_cut e5), (rt3.mono (upm e4)).mono (ex_cut e5)⟩) (fun B i σ' H' _ _ ⟨_, _, _, _, _, _, _, _, h, _⟩ => h) (fun B i d vi σ' Hc H' eB hd ⟨vf, y6, y7, y8, y9, y10, hσ, hf, ex1, ex2, Rc, Lc, rwc, rtc⟩ ec hrp => ?_) (fun B σ' H' eB ⟨vf, y6, y7, y8, y9, y10, hσ, hf, ex1, ex2, Rc, Lc, rwc, rtc⟩ => ?_)
    · subst hσ
      have L' := Lc.mono ec
      have R' := Rc.mono ec
      have rw' := rp_keep ec rwc
      have rt' := rp_keep ec rtc
      show tSeq _ _ _ [some (.ref pr), some vw, some (.int ht), some vt, some (.int (kd : Int)), some vf, some vi, y7, y8, y9, y10, none, none, none, none] H'
      refine q_asgC ?_
      show tCall (sp_taken K) [] _ (tCons (tVar 0) (tCons (tOp (rIxT K) (tVar 1) (tC (.int 0))) tNil)) _ H' _
      refine m_taken (kr := 0) (many := (W.n : Int)) rfl hm R' (EvP.val (ms := ms) (e_ixT (e_var (k := 1) rfl rw') e_int rfl)) (by omega) (by omega) fun a H8 ha e8 R8 => ?_
      have L8 := Live.row L' e8 R8
      have rw8 := rw'.mono (upm e8)
      have rt8 := rt'.mono (upm e8)
      have han : a < W.n := by omega
      show tSeq _ _ _ [some (.ref pr), some vw, some (.int ht), some vt, some (.int (kd : Int)), some vf, some vi, some (.int (a : Int)), y8, y9, y10, none, none, none, none] H8
      refine q_asgC ?_
      have gat : atI ((nI ((List.range W.n).map (W.dist 0))).map PyData.int) (a : Int) = some (.int (W.dist 0 a : Int)) := atI_nat (by
        unfold nI
        rw [List.getElem?_map, List.getElem?_map, List.getElem?_map, List.getElem?_range (by omega)]; rfl)
      refine e_I0 (ms := ms) (g := fun i j => i + j) (e_var (k := 2) rfl (.int ht)) (e_ixL (e_var (k := 3) rfl rt8) (e_var (k := 7) rfl (.int _)) gat) H8 (Ex.refl _) _ fun vx H9 e9 rx => ?_
      cases rx.int_of
      show tCall (sp_taken K) [] _ (tCons (tVar 0) (tCons (tC (.int 5)) tNil)) _ H9 _
      refine m_taken (kr := 0) (many := 5) rfl hm (R8.mono e9) (EvP.val (ms := []) e_int) (by omega) (by omega) fun z H10 hz e10 R10 => ?_
      have e8_10 : Ex (cut H8 [pr]) H10 := (ex_cut e9).trans e10
      have L10 := Live.row L8 e8_10 R10
      have rw10 := rw8.mono (upm e8_10)
      refine ⟨(z : Int), 2, rfl, rfl, 2, (z : Int) - 2, rfl, rfl, by first | exact .inl ⟨by decide, by decide⟩ | exact .inr ⟨by omega, by omega⟩, _, _, rfl, rfl, ?_⟩
      obtain ⟨x, hx⟩ : ∃ x, x = ht + (W.dist 0 a : Int) + 2 * ((z : Int) - 2) := ⟨_, rfl⟩
      show tSeq _ _ _ [some (.ref pr), some vw, some (.int ht), some vt, some (.int (kd : Int)), some vf, some vi, some (.int (a : Int)), some (.int (ht + (W.dist 0 a : Int) + 2 * ((z : Int) - 2))), y9, y10, none, none, none, none] H10
      rw [← hx]
      refine q_asg (e_call (a_cons (e_var (k := 1) rfl rw10) (a_cons (e_var (k := 7) rfl (.int _)) a_nil)) L10 ⟨W, a, rfl, hW.pre, han, ⟨_, hW.dist han⟩, rfl⟩) fun va H11 e11 ra => ?_
      have L11 := L10.mono e11
      show tSeq _ _ _ [some (.ref pr), some vw, some (.int ht), some vt, some (.int (kd : Int)), some vf, some vi, some (.int (a : Int)), some (.int x), some va, y10, none, none, none, none] H11
      have st : Ex (cut H' [pr]) H11 := ((ex_cut_in e8).trans e8_10).trans e11
      have R11 := R10.mono e11
      have rw11 := rp_keep e11 rw10
      have rt11 := rt8.mono (upm (e8_10.trans e11))
      have hf11 : (i = 0 ∧ vf = .non) ∨ ∃ c, LP W ht c ∧ Rp (cut H11 ms) vf (dIs c) := hf.imp id fun ⟨c, h1, h2⟩ => ⟨c, h1, h2.mono ((ex_cut ec).trans (upm st))⟩
      have stB : ∀ {H12 : Hp}, Ex H11 H12 → Ex (cut B [pr]) H12 ∧ Ex (cut H [pr]) H12 := fun e => ⟨((ex_cut_in ex1).trans ((ex_cut ec).trans st)).trans e, ((ex_cut_in ex2).trans ((ex_cut ec).trans st)).trans e⟩
      refine q_asg (P := fun v H2 => ∃ c, LP W ht c ∧ Rp (cut H2 ms) v (dIs c)) (e_if (b := decide ((kd : Int) = 0)) (t_T (e_eq (ms := ms) (e_var (k := 4) rfl (.int _)) e_int)) (fun _ => EvP.imp (e_is (d2 := dIs ((List.range W.n).map fun v => x + (W.dist a v : Int))) (e_mapT (ms := ms) (xs := List.range W.n) (enc := fun v => dN (W.dist a v)) (fun v => .int (x + (W.dist a v : Int))) (src_list (e_is (e_var (k := 9) rfl ra) (by show PyData.list _ = PyData.list _; rw [dNs_eq, List.map_map]; rfl))) (by simp; omega) L11 fun ms' b v H12 hb e12 ec12 L12 rv => ⟨[some (.ref pr), some vw, some (.int ht), some vt, some (.int (kd : Int)), some vf, some vi, some (.int (a : Int)), some (.int x), some va, y10, none, some v, none, none], fun Q q => q, rfl, ?_⟩) (by show PyData.list _ = PyData.list _; rw [List.map_map]; rfl)) fun v H12 e12 r => ⟨_, cone_up hW han hx, r⟩) (fun _ => EvP.imp (e_is (d2 := dIs ((List.range W.n).map fun v => x - (W.dist a v : Int))) (e_mapT (ms := ms) (xs := List.range W.n) (enc := fun v => dN (W.dist a v)) (fun v => .int (x - (W.dist a v : Int))) (src_list (e_is (e_var (k := 9) rfl ra) (by show PyData.list _ = PyData.list _; rw [dNs_eq, List.map_map]; rfl))) (by simp; omega) L11 fun ms' b v H12 hb e12 ec12 L12 rv => ⟨[some (.ref pr), some vw, some (.int ht), some vt, some (.int (kd : Int)), some vf, some vi, some (.int (a : Int)), some (.int x), some va, y10, none, some v, none, none], fun Q q => q, rfl, ?_⟩) (by show PyData.list _ = PyData.list _; rw [List.map_map]; rfl)) fun v H12 e12 r => ⟨_, cone_dn hW han hx, r⟩)) fun vs H12 e12 ⟨cs, hcs, rs⟩ => ?_
      · exact e_I0 (e_var (k := 8) rfl (.int _)) (e_var (k := 12) rfl rv)
      · exact e_I0 (e_var (k := 8) rfl (.int _)) (e_var (k := 12) rfl rv)
      have L12 := L11.mono e12
      show tIfS _ _ _ _ [some (.ref pr), some vw, some (.int ht), some vt, some (.int (kd : Int)), some vf, some vi, some (.int (a : Int)), some (.int x), some va, some vs, none, none, none, none] H12
      rcases hf11 with ⟨_, rfl⟩ | ⟨c, hc, rf⟩
      · refine s_if (b := true) (t_is (e_isN_t (ms := ms) (e_var (k := 5) rfl .non)) rfl) (fun _ H13 e13 => ?_) (fun h => by cases h)
        refine G.s_asg (e_var (k := 10) rfl (rp_keep e13 rs)) fun v H14 e14 r => ?_
        exact ⟨v, _, _, _, _, _, rfl, .inr ⟨cs, hcs, r⟩, (stB ((e12.trans e13).trans e14)).1, (stB ((e12.trans e13).trans e14)).2, R11.mono ((e12.trans e13).trans e14), L12.mono (e13.trans e14), rp_keep ((e12.trans e13).trans e14) rw11, rp_keep ((e12.trans e13).trans e14) rt11⟩
      · refine s_if (b := false) (t_is (e_isN_t (ms := ms) (e_var (k := 5) rfl (rp_keep e12 rf))) rfl) (fun h => by cases h) (fun _ H13 e13 => ?_)
        obtain ⟨g, hg, hg0, hg1⟩ : ∃ g : Int → Int → Int, (g = min ∨ g = max) ∧ ((kd : Int) = 0 → g = min) ∧ (¬ (kd : Int) = 0 → g = max) := by
          by_cases z : (kd : Int) = 0
          · exact ⟨min, .inl rfl, fun _ => rfl, fun h => absurd z h⟩
          · exact ⟨max, .inr rfl, fun h => absurd h z, fun _ => rfl⟩
        have lc := hc.layc.len
        have ls := hcs.layc.len
        refine G.s_asg (P := fun v H2 => Rp (cut H2 ms) v (dIs ((c.zip cs).map fun p => g p.1 p.2))) (e_is (e_mapT (ms := ms) (xs := c.zip cs) (enc := fun p => .tuple [.int p.1, .int p.2]) (fun p => .int (g p.1 p.2)) ?_ (by rw [List.length_zip]; omega) (L12.mono e13) fun ms' b v H14 hb e14 ec14 L14 rv => ?_) (by show PyData.list _ = PyData.list _; rw [List.map_map]; rfl)) fun v H14 e14 r => ⟨v, _, _, _, _, _, rfl, .inr ⟨_, hc.two hW hcs g hg, r⟩, (stB ((e12.trans e13).trans e14)).1, (stB ((e12.trans e13).trans e14)).2, R11.mono ((e12.trans e13).trans e14), L12.mono (e13.trans e14), rp_keep ((e12.trans e13).trans e14) rw11, rp_keep ((e12.trans e13).trans e14) rt11⟩
        · have ez : zipD (c.map PyData.int) (cs.map PyData.int) = (c.zip cs).map fun p => PyData.tuple [.int p.1, .int p.2] := by
            unfold zipD
            rw [List.zip_map, List.map_map]; rfl
          rw [← ez]
          exact src_zipAL (a_cons (e_var (k := 5) rfl (rp_keep (e12.trans e13) rf)) (a_cons (e_var (k := 10) rfl (rp_keep e13 rs)) a_nil))
        · obtain ⟨x1, x2, r1, r2, hgg⟩ := g_tup2 (ma := 13) (mb := 14) cut_le rv
          cases r1.int_of
          cases r2.int_of
          refine ⟨[some (.ref pr), some vw, some (.int ht), some vt, some (.int (kd : Int)), some vf, some vi, some (.int (a : Int)), some (.int x), some va, some vs, none, none, some (.int b.1), some (.int b.2)], fun Q q => hgg _ Q q, rfl, e_if (b := decide ((kd : Int) = 0)) (t_T (e_eq (ms := ms') (e_var (k := 4) rfl (.int _)) e_int)) (fun h => ?_) (fun h => ?_)⟩
          · rw [hg0 (of_decide_eq_true h)]; exact e_min2 (e_var (k := 13) rfl (.int _)) (e_var (k := 14) rfl (.int _))
          · rw [hg1 (of_decide_eq_false h)]; exact e_max2 (e_var (k := 13) rfl (.int _)) (e_var (k := 14) rfl (.int _))
    · subst hσ
      rw [rgD_len] at hf
      obtain ⟨c, hc, rf⟩ : ∃ c, LP W ht c ∧ Rp (cut H' ms) vf (dIs c) := by
        rcases hf with ⟨h, _⟩ | h
        · omega
        · exact h
      show tSeq _ _ _ [some (.ref pr), some vw, some (.int ht), some vt, some (.int (kd : Int)), some vf, y6, y7, y8, y9, y10, none, none, none, none] H'
      refine q_asg (e_tupleL (e_var (k := 5) rfl rf) Lc) fun vl H5 e5 rl => ?_
      have L5 := Lc.mono e5
      have R5 := Rc.mono e5
      show tSeq (tFor (iRng1 _) _ _) _ _ [some (.ref pr), some vw, some (.int ht), some vt, some (.int (kd : Int)), some vf, y6, y7, y8, y9, y10, some vl, none, none, none] H5
      refine q_forC ?_
      show tCall (sp_taken K) [] _ (tCons (tVar 0) (tCons (tC (.int 5)) tNil)) _ H5 _
      refine m_taken (kr := 0) (many := 5) rfl hm R5 (EvP.val (ms := []) e_int) (by omega) (by omega) fun m2 H6 hm5 e6 R6 => ?_
      have L6 := Live.row L5 e6 R6
      show tSeq (tFor (iRng1 (tCons (tC (.int (m2 : Int))) tNil)) _ _) _ _ [some (.ref pr), some vw, some (.int ht), some vt, some (.int (kd : Int)), some vf, y6, y7, y8, y9, y10, some vl, none, none, none] H6
      refine s_seqfor (ms := [pr]) (src_rg1 (ms := [pr]) (a_cons e_int a_nil) (by omega))
        (fun B i σ' H' => ∃ (vl : V) (y6 : Option V) (c : List Int), σ' = [some (.ref pr), some vw, some (.int ht), some vt, some (.int (kd : Int)), some vf, y6, y7, y8, y9, y10, some vl, none, none, none] ∧ Layc W c ∧ Rp (cut H' ms) vl (dC c) ∧ Ex (cut B [pr]) H' ∧ Ex (cut H [pr]) H' ∧ Row K H' ms pr ∧ Live H' ms ∧ Rp (cut H' ms) vw (dW W))
        (fun H7 e7 => ⟨_, _, c, rfl, hc.layc, (rl.mono (upm e6)).mono (ex_cut e7), cut_le, ((ex_cut_in (ex2.trans e5)).trans e6).trans e7, R6.mono e7, L6.mono e7, ((rp_keep e5 rwc).mono (upm e6)).mono (ex_cut e7)⟩) (fun B i σ' H' _ _ ⟨_, _, _, _, _, _, h, _⟩ => h) (fun B i d vi σ' Hc H' eB hd ⟨vl, y6, c, hσ, hc, rlc, ex1, ex2, Rc, Lc, rwc⟩ ec hrp => ?_) (fun B σ' H' eB ⟨vl, y6, c, hσ, hc, rlc, ex1, ex2, Rc, Lc, rwc⟩ => ?_)
      · subst hσ
        have L' := Lc.mono ec
        have R' := Rc.mono ec
        show tAsg _ _ _ [some (.ref pr), some vw, some (.int ht), some vt, some (.int (kd : Int)), some vf, some vi, y7, y8, y9, y10, some vl, none, none, none] H'
        refine ⟨.ref pr, rfl, ?_⟩
        refine e_callr (ms := ms) (S := fun d => ∃ L : List (List Int), d = .list (L.map dC) ∧ L.Perm (ups2 W c ++ dns2 W c)) (a_cons (e_var (k := 1) rfl (rp_keep ec rwc)) (a_cons (e_var (k := 11) rfl (rp_keep ec rlc)) a_nil)) L' ⟨W, c, rfl, hW.pre, hc.len, rfl⟩ H' (Ex.refl _) _ fun vn H8 e8 ⟨dd, ⟨Ls, hdd, hperm⟩, rn⟩ => ?_
        subst hdd
        have nl := next_len hW.pre (c := c)
        have pl := hperm.length_eq
        refine ⟨pr, vn, Ls.map dC, ms, rfl, hm, R'.mono e8, rn, by rw [List.length_map]; omega, by rw [List.length_map]; omega, fun v d H9 hdm e9 R9 rv => ?_⟩
        obtain ⟨c2, hc2, rfl⟩ := List.mem_map.mp hdm
        have e89 : Ex (cut H' [pr]) H9 := (ex_cut e8).trans e9
        exact ⟨v, _, c2, rfl, next_lay hW.pre hc (hperm.mem_iff.mp hc2), rv, ((ex_cut_in ex1).trans ((ex_cut ec).trans e89)), ((ex_cut_in ex2).trans ((ex_cut ec).trans e89)), R9, Live.row (L'.mono e8) e9 R9, (rp_keep ec rwc).mono (upm e89)⟩
      · subst hσ
        exact s_ret (e_var (k := 11) rfl rlc) fun v H7 e7 r => k v c H7 hc (ex2.trans e7) (Rc.mono e7) r
end
end T

set_option Elab.async false
set_option linter.all false
set_option maxRecDepth 100000
set_option maxHeartbeats 4000000
namespace T
open PySem PySem.Spec PyProof.Rows L2 RZ G M GX
open Evl (Ex EvT et_or et_not et_and)
section
variable {P : Program} {w : World} {K : PySem.W.Frag} {mg : Str → Option Value} {base : Heap} {f : Addr} {fd : FuncData}
abbrev s__law_alike : Stmt := topS 56
theorem sc__law_alike : FnScope ["_law_found", "_law_due", "_law_k"] ["_law_found", "_law_due"] (defScope s__law_alike) := ⟨rfl, rfl, rfl, by decide +kernel, rfl, by decide +kernel, by decide +kernel⟩
def sp_no : Sp := fun _ _ _ _ => False
theorem ok__law_alike0 (F : Fun K "_law_alike" "_law_alike" s__law_alike f fd) : FnOk P w K mg base CX0 1 f fd ["_law_found", "_law_due"] sp_no := by
  refine F.ok sc__law_alike (fun vs H Q E h => False.elim h) (fun cdv A outer s H vs Q E hr h => False.elim h)
def sp_alikeI : Sp := PSm fun ds d => ∃ i : Int, ds = [.int i, .int i] ∧ d = .bool true
theorem ok__law_alikeI (F : Fun K "_law_alike" "_law_alike" s__law_alike f fd) (b : Blt mg) (c__law_alike : Dfn P w K mg base 1 "_law_alike" ["_law_found", "_law_due"] sp_no) : FnOk P w K mg base CX0 2 f fd ["_law_found", "_law_due"] sp_alikeI := by
  refine F.ok sc__law_alike (fun vs H Q E h => ?_) (fun cdv A outer s H vs Q E hr h => ?_)
  · obtain ⟨ds, d, ms, r, _, ⟨i, rfl, _⟩, _⟩ := h; exact r.len
  · obtain ⟨ds, d, ms, r, L, ⟨i, rfl, rfl⟩, k⟩ := h
    have nd := sc__law_alike.nd
    refine ⟨_, pss_cons (ps_if (pt_val (pe_callB (call_isiTK K rfl) (by rfl) b.isinstance (by decide +kernel) (pa_cons (pv 1) (pa_cons (pe_tup (pa_cons (pe_bltn (v := .ty "tuple") (by rfl) b.tuple (by decide +kernel) rfl) (pa_cons (pe_bltn (v := .ty "list") (by rfl) b.list (by decide +kernel) rfl) pa_nil))) pa_nil)))) (pss_cons (ps_if ((pw_or (pt_not (pt_val (pe_callB (call_isiTK K rfl) (by rfl) b.isinstance (by decide +kernel) (pa_cons (pv 0) (pa_cons (pe_tup (pa_cons (pe_bltn (v := .ty "tuple") (by rfl) b.tuple (by decide +kernel) rfl) (pa_cons (pe_bltn (v := .ty "list") (by rfl) b.list (by decide +kernel) rfl) pa_nil))) pa_nil))))) (pw_or1 (pt_cmpR op_ne (pe_callB (call_isiK' K rfl) (by rfl) b.isinstance (by decide +kernel) (pa_cons (pv 0) (pa_cons (pe_bltn (v := .ty "list") (by rfl) b.list (by decide +kernel) rfl) pa_nil))) (pe_callB (call_isiK' K rfl) (by rfl) b.isinstance (by decide +kernel) (pa_cons (pv 1) (pa_cons (pe_bltn (v := .ty "list") (by rfl) b.list (by decide +kernel) rfl) pa_nil))) (nomark _)))).pt) (pss_one (ps_ret (pe_bl))) (pss_nil)) (pss_cons (ps_if (pt_cmpR op_ne (pe_callB (call_lenK K rfl) (by rfl) b.len (by decide +kernel) (pa_cons (pv 0) pa_nil)) (pe_callB (call_lenK K rfl) (by rfl) b.len (by decide +kernel) (pa_cons (pv 1) pa_nil)) (nomark _)) (pss_one (ps_ret (pe_bl))) (pss_nil)) (pss_one (ps_ret (pe_cmpR (op_eqDK K rfl hr.units) (pe_lc (own := [("_law_k", 2)]) rfl nd (pi_range1 (by rfl) b.range (pa_cons (pe_callB (call_lenK K rfl) (by rfl) b.len (by decide +kernel) (pa_cons (pv 1) pa_nil)) pa_nil)) (blkOk_by (own := [("_law_k", 2)]) (N := ["_law_found", "_law_due", "_law_k"]) (sc := (defScope s__law_alike)) (by decide +kernel)) (fun _ _ _ _ _ => pg_name (i := 2) nd rfl (Or.inl rfl)) (fun _ _ _ _ _ => pts_one (pt_not (pt_val (pe_own c__law_alike hr (pa_cons (pe_ix (ix_tupK K rfl) (pv 0) (pv 2) (fun _ _ => rfl)) (pa_cons (pe_ix (ix_tupK K rfl) (pv 1) (pv 2) (fun _ _ => rfl)) pa_nil)))))) (fun _ _ _ _ _ => pv 2)) (pe_lst pa_nil) (nomark _)))))) (pss_nil)) (pss_cons (ps_if ((pw_or (pt_cmpR op_isN (pv 1) pe_non (nomark _)) (pw_or1 (pt_val (pe_callB (call_isiK' K rfl) (by rfl) b.isinstance (by decide +kernel) (pa_cons (pv 1) (pa_cons (pe_bltn (v := .ty "str") (by rfl) b.str (by decide +kernel) rfl) pa_nil)))))).pt) (pss_one (ps_ret (pe_and (pe_cmpR op_eq (pv 0) (pv 1) (nomark _)) (pe_one (pe_cmpR op_eq (pe_callB (call_isiK' K rfl) (by rfl) b.isinstance (by decide +kernel) (pa_cons (pv 0) (pa_cons (pe_bltn (v := .ty "str") (by rfl) b.str (by decide +kernel) rfl) pa_nil))) (pe_callB (call_isiK' K rfl) (by rfl) b.isinstance (by decide +kernel) (pa_cons (pv 1) (pa_cons (pe_bltn (v := .ty "str") (by rfl) b.str (by decide +kernel) rfl) pa_nil))) (nomark _)))))) (pss_nil)) (pss_one (ps_ret (pe_and (pe_callB (call_isiK' K rfl) (by rfl) b.isinstance (by decide +kernel) (pa_cons (pv 0) (pa_cons (pe_bltn (v := .ty "int") (by rfl) b.int (by decide +kernel) rfl) pa_nil))) (pe_and (pe_cmpR op_eq (pe_callB (call_isiK' K rfl) (by rfl) b.isinstance (by decide +kernel) (pa_cons (pv 0) (pa_cons (pe_bltn (v := .ty "bool") (by rfl) b.bool (by decide +kernel) rfl) pa_nil))) (pe_callB (call_isiK' K rfl) (by rfl) b.isinstance (by decide +kernel) (pa_cons (pv 1) (pa_cons (pe_bltn (v := .ty "bool") (by rfl) b.bool (by decide +kernel) rfl) pa_nil))) (nomark _)) (pe_one (pe_cmpR op_eq (pv 0) (pv 1) (nomark _)))))))), ?_⟩
    obtain ⟨v1, v2, rfl, r1, r2⟩ := r.two
    refine q_if (b := false) (t_is (t_B (e_isiT (b1 := false) (b2 := false) (ms := ms) (e_var rfl r2) (.int _) (by decide +kernel) (by decide +kernel))) rfl) (fun h => by cases h) (fun _ H1 e1 => ?_)
    replace r1 := rp_keep e1 r1
    replace r2 := rp_keep e1 r2
    refine q_no (t_is (et_or (t_T (e_isN (ms := ms) (e_var rfl r2))) fun _ => t_B (e_isi (b := false) (ms := ms) (e_var rfl r2) (.int _) (by decide +kernel))) rfl) fun H2 e2 => ?_
    replace r1 := rp_keep e2 r1
    replace r2 := rp_keep e2 r2
    refine s_ret (e_is (e_andV (ms := ms) (e_isi (b := true) (e_var rfl r1) (.int _) (by decide +kernel)) fun _ => e_andV (e_eqB (e_isi (b := false) (e_var rfl r1) (.int _) (by decide +kernel)) (e_isi (b := false) (e_var rfl r2) (.int _) (by decide +kernel))) fun _ => e_eq (e_var rfl r1) (e_var rfl r2)) (by simp)) fun v H3 e3 p => k v H3 ((e1.trans e2).trans e3) p
def sp_alikeT : Sp := PSm fun ds d => ∃ i j : Int, ds = [.tuple [.int i, .int j], .tuple [.int i, .int j]] ∧ d = .bool true
theorem ok__law_alikeT (F : Fun K "_law_alike" "_law_alike" s__law_alike f fd) (b : Blt mg) (c__law_alike : Dfn P w K mg base 2 "_law_alike" ["_law_found", "_law_due"] sp_alikeI) : FnOk P w K mg base CX0 3 f fd ["_law_found", "_law_due"] sp_alikeT := by
  refine F.ok sc__law_alike (fun vs H Q E h => ?_) (fun cdv A outer s H vs Q E hr h => ?_)
  · obtain ⟨ds, d, ms, r, _, ⟨i, j, rfl, _⟩, _⟩ := h; exact r.len
  · obtain ⟨ds, d, ms, r, L, ⟨i, j, rfl, rfl⟩, k⟩ := h
    have nd := sc__law_alike.nd
    refine ⟨_, pss_cons (ps_if (pt_val (pe_callB (call_isiTK K rfl) (by rfl) b.isinstance (by decide +kernel) (pa_cons (pv 1) (pa_cons (pe_tup (pa_cons (pe_bltn (v := .ty "tuple") (by rfl) b.tuple (by decide +kernel) rfl) (pa_cons (pe_bltn (v := .ty "list") (by rfl) b.list (by decide +kernel) rfl) pa_nil))) pa_nil)))) (pss_cons (ps_if ((pw_or (pt_not (pt_val (pe_callB (call_isiTK K rfl) (by rfl) b.isinstance (by decide +kernel) (pa_cons (pv 0) (pa_cons (pe_tup (pa_cons (pe_bltn (v := .ty "tuple") (by rfl) b.tuple (by decide +kernel) rfl) (pa_cons (pe_bltn (v := .ty "list") (by rfl) b.list (by decide +kernel) rfl) pa_nil))) pa_nil))))) (pw_or1 (pt_cmpR op_ne (pe_callB (call_isiK' K rfl) (by rfl) b.isinstance (by decide +kernel) (pa_cons (pv 0) (pa_cons (pe_bltn (v := .ty "list") (by rfl) b.list (by decide +kernel) rfl) pa_nil))) (pe_callB (call_isiK' K rfl) (by rfl) b.isinstance (by decide +kernel) (pa_cons (pv 1) (pa_cons (pe_bltn (v := .ty "list") (by rfl) b.list (by decide +kernel) rfl) pa_nil))) (nomark _)))).pt) (pss_one (ps_ret (pe_bl))) (pss_nil)) (pss_cons (ps_if (pt_cmpR op_ne (pe_callB (call_lenK K rfl) (by rfl) b.len (by decide +kernel) (pa_cons (pv 0) pa_nil)) (pe_callB (call_lenK K rfl) (by rfl) b.len (by decide +kernel) (pa_cons (pv 1) pa_nil)) (nomark _)) (pss_one (ps_ret (pe_bl))) (pss_nil)) (pss_one (ps_ret (pe_cmpR (op_eqDK K rfl hr.units) (pe_lc (own := [("_law_k", 2)]) rfl nd (pi_range1 (by rfl) b.range (pa_cons (pe_callB (call_lenK K rfl) (by rfl) b.len (by decide +kernel) (pa_cons (pv 1) pa_nil)) pa_nil)) (blkOk_by (own := [("_law_k", 2)]) (N := ["_law_found", "_law_due", "_law_k"]) (sc := (defScope s__law_alike)) (by decide +kernel)) (fun _ _ _ _ _ => pg_name (i := 2) nd rfl (Or.inl rfl)) (fun _ _ _ _ _ => pts_one (pt_not (pt_val (pe_own c__law_alike hr (pa_cons (pe_ix (ix_tupK K rfl) (pv 0) (pv 2) (fun _ _ => rfl)) (pa_cons (pe_ix (ix_tupK K rfl) (pv 1) (pv 2) (fun _ _ => rfl)) pa_nil)))))) (fun _ _ _ _ _ => pv 2)) (pe_lst pa_nil) (nomark _)))))) (pss_nil)) (pss_cons (ps_if ((pw_or (pt_cmpR op_isN (pv 1) pe_non (nomark _)) (pw_or1 (pt_val (pe_callB (call_isiK' K rfl) (by rfl) b.isinstance (by decide +kernel) (pa_cons (pv 1) (pa_cons (pe_bltn (v := .ty "str") (by rfl) b.str (by decide +kernel) rfl) pa_nil)))))).pt) (pss_one (ps_ret (pe_and (pe_cmpR op_eq (pv 0) (pv 1) (nomark _)) (pe_one (pe_cmpR op_eq (pe_callB (call_isiK' K rfl) (by rfl) b.isinstance (by decide +kernel) (pa_cons (pv 0) (pa_cons (pe_bltn (v := .ty "str") (by rfl) b.str (by decide +kernel) rfl) pa_nil))) (pe_callB (call_isiK' K rfl) (by rfl) b.isinstance (by decide +kernel) (pa_cons (pv 1) (pa_cons (pe_bltn (v := .ty "str") (by rfl) b.str (by decide +kernel) rfl) pa_nil))) (nomark _)))))) (pss_nil)) (pss_one (ps_ret (pe_and (pe_callB (call_isiK' K rfl) (by rfl) b.isinstance (by decide +kernel) (pa_cons (pv 0) (pa_cons (pe_bltn (v := .ty "int") (by rfl) b.int (by decide +kernel) rfl) pa_nil))) (pe_and (pe_cmpR op_eq (pe_callB (call_isiK' K rfl) (by rfl) b.isinstance (by decide +kernel) (pa_cons (pv 0) (pa_cons (pe_bltn (v := .ty "bool") (by rfl) b.bool (by decide +kernel) rfl) pa_nil))) (pe_callB (call_isiK' K rfl) (by rfl) b.isinstance (by decide +kernel) (pa_cons (pv 1) (pa_cons (pe_bltn (v := .ty "bool") (by rfl) b.bool (by decide +kernel) rfl) pa_nil))) (nomark _)) (pe_one (pe_cmpR op_eq (pv 0) (pv 1) (nomark _)))))))), ?_⟩
    obtain ⟨v1, v2, rfl, r1, r2⟩ := r.two
    refine q_if (b := true) (t_is (t_B (e_isiT (b1 := true) (b2 := false) (ms := ms) (e_var rfl r2) (.tup _) (by decide +kernel) (by decide +kernel))) rfl) (fun _ H1 e1 => ?_) (fun h => by cases h)
    replace r1 := rp_keep e1 r1
    replace r2 := rp_keep e1 r2
    refine q_no (t_is (et_or (et_not (t_B (e_isiT (b1 := true) (b2 := false) (ms := ms) (e_var rfl r1) (.tup _) (by decide +kernel) (by decide +kernel)))) fun _ => t_T (e_neB (ms := ms) (e_isi (b := false) (e_var rfl r1) (.tup _) (by decide +kernel)) (e_isi (b := false) (e_var rfl r2) (.tup _) (by decide +kernel)))) rfl) fun H2 e2 => ?_
    replace r1 := rp_keep e2 r1
    replace r2 := rp_keep e2 r2
    refine q_no (t_is (t_T (e_ne (ms := ms) (e_lenT (e_var rfl r1)) (e_lenT (e_var rfl r2)))) (by simp)) fun H3 e3 => ?_
    replace r1 := rp_keep e3 r1
    replace r2 := rp_keep e3 r2
    have L3 := ((L.mono e1).mono e2).mono e3
    refine s_ret (e_is (e_eqDp (ms := ms) (d1 := .list []) (e_is (e_lc (ms := ms) (ds := rgD 0 2) (fun _ => false) (fun d => d) (src_rg1 (j := 2) (a_cons (e_lenT (e_var rfl r2)) a_nil) (by omega)) (by rw [rgD_len]; omega) L3 fun ms' d v H4 hd e4 ec L4 rv => ?_) (by rw [List.filter_eq_nil_iff.mpr (fun _ _ => by simp)]; rfl)) (e_lst a_nil (by simp) L3) shaped_nil shaped_nil) (by simp [PyData.eqv, PyData.eqvAll])) fun v H4 e4 p => k v H4 (((e1.trans e2).trans e3).trans e4) p
    obtain ⟨n, hn, rfl⟩ := rgD_mem hd
    refine ⟨[some v1, some v2, some v], fun Q q => q, rfl, ?_, fun h => by cases h⟩
    obtain ⟨x, hx⟩ : ∃ x : Int, atI [PyData.int i, PyData.int j] (0 + (n : Int)) = some (.int x) := by
      rw [Int.zero_add]
      have : n = 0 ∨ n = 1 := by omega
      rcases this with rfl | rfl
      · exact ⟨i, rfl⟩
      · exact ⟨j, rfl⟩
    exact t_is (et_not (t_B (e_call (a_cons (e_ixT (e_var rfl (r1.mono ec)) (e_var rfl rv) hx) (a_cons (e_ixT (e_var rfl (r2.mono ec)) (e_var rfl rv) hx) a_nil)) L4 ⟨x, rfl, rfl⟩))) rfl
end
end T

set_option Elab.async false
set_option linter.all false
set_option maxHeartbeats 4000000
/-! M10: parts: members, order. -/
namespace M
open PySem G L2
theorem ahd_lt {W : Web} {v u : Nat} (h : u ∈ W.ahd v) : u < v := by
  unfold Web.ahd at h
  have := (List.mem_filter.mp h).2
  simpa using this
theorem atc_snoc {d : List Int} {x : Int} {v : Nat} (h : v < d.length) : atc (d ++ [x]) v = atc d v := by
  unfold atc
  rw [List.getD_eq_getElem?_getD, List.getD_eq_getElem?_getD, List.getElem?_append_left h]
theorem atc_last {d : List Int} {x : Int} : atc (d ++ [x]) d.length = x := by
  unfold atc
  rw [List.getD_eq_getElem?_getD, List.getElem?_append_right (Nat.le_refl _), Nat.sub_self]; rfl
theorem take_last {c : List Int} {k : Nat} (h : c.length = k + 1) : c = c.take k ++ [atc c k] := by
  have hk : k < c.length := by omega
  rw [show atc c k = c[k] by unfold atc; rw [List.getD_eq_getElem?_getD, List.getElem?_eq_getElem hk]; rfl]
  rw [List.take_append_getElem hk, List.take_of_length_le (by omega)]
theorem parts_mem {W : Web} {cf : Nat → (Nat → Int) → List Int} (L : Local W cf) : ∀ (k : Nat) (c : List Int), c ∈ parts cf k ↔ (c.length = k ∧ ∀ v, v < k → atc c v ∈ cf v (atc c)) := fun k => by
  induction k with
  | zero =>
    intro c
    show c ∈ [[]] ↔ _
    rw [List.mem_singleton]
    exact ⟨fun e => ⟨by rw [e]; rfl, fun v hv => by omega⟩, fun h => List.length_eq_zero_iff.mp h.1⟩
  | succ k ih =>
    intro c
    show c ∈ (parts cf k).flatMap _ ↔ _
    rw [List.mem_flatMap]
    constructor
    · rintro ⟨d, hd, hc⟩
      obtain ⟨x, hx, rfl⟩ := List.mem_map.mp hc
      obtain ⟨hl, hv⟩ := (ih d).mp hd
      subst hl
      refine ⟨by rw [List.length_append, List.length_singleton], fun v hvk => ?_⟩
      have e : ∀ v, v ≤ d.length → cf v (atc (d ++ [x])) = cf v (atc d) := fun v hv => L v _ _ fun u hu => atc_snoc (by have := ahd_lt hu; omega)
      by_cases z : v = d.length
      · subst z
        rw [e _ (Nat.le_refl _), atc_last]; exact hx
      · rw [e v (by omega), atc_snoc (by omega)]; exact hv v (by omega)
    · rintro ⟨hl, hv⟩
      have et := take_last hl
      have hlt : (c.take k).length = k := by rw [List.length_take]; omega
      have a : ∀ v, v < k → atc c v = atc (c.take k) v := fun v hv => by
        conv => lhs; rw [et]
        exact atc_snoc (by omega)
      have e : ∀ v, v ≤ k → cf v (atc c) = cf v (atc (c.take k)) := fun v hv => L v _ _ fun u hu => a u (by have := ahd_lt hu; omega)
      refine ⟨c.take k, (ih _).mpr ⟨hlt, fun v hvk => by rw [← a v hvk, ← e v (by omega)]; exact hv v (by omega)⟩, List.mem_map.mpr ⟨atc c k, by rw [← e k (Nat.le_refl _)]; exact hv k (by omega), et.symm⟩⟩
/-! ### order -/
theorem lexLt_snoc : ∀ {d e : List Int} {x y : Int}, d.length = e.length → HT.lexLt d e = true → HT.lexLt (d ++ [x]) (e ++ [y]) = true
  | [], [], _, _, _, h => by rw [HT.lexLt_nil_nil] at h; cases h
  | [], _ :: _, _, _, l, _ => by cases l
  | _ :: _, [], _, _, l, _ => by cases l
  | a :: d, b :: e, x, y, l, h => by
    rw [HT.lexLt_cons] at h
    rw [List.cons_append, List.cons_append, HT.lexLt_cons]
    by_cases z : a = b
    · rw [if_pos z] at h ⊢
      exact lexLt_snoc (by simpa using l) h
    · rw [if_neg z] at h ⊢; exact h
theorem lexLt_last : ∀ {d : List Int} {x y : Int}, x < y → HT.lexLt (d ++ [x]) (d ++ [y]) = true
  | [], x, y, h => by
    show HT.lexLt [x] [y] = true
    rw [HT.lexLt_cons, if_neg (by omega)]
    exact decide_eq_true h
  | a :: d, x, y, h => by
    rw [List.cons_append, List.cons_append, HT.lexLt_cons, if_pos rfl]
    exact lexLt_last h
theorem lexLt_irr : ∀ d : List Int, HT.lexLt d d = false
  | [] => rfl
  | a :: d => by rw [HT.lexLt_cons, if_pos rfl]; exact lexLt_irr d
theorem lexLt_tot : ∀ {d e : List Int}, HT.lexLt d e = false → HT.lexLt e d = false → d = e
  | [], [], _, _ => rfl
  | [], _ :: _, h, _ => by cases h
  | _ :: _, [], _, h => by cases h
  | a :: d, b :: e, h1, h2 => by
    rw [HT.lexLt_cons] at h1 h2
    by_cases z : a = b
    · subst z
      rw [if_pos rfl] at h1 h2
      rw [lexLt_tot h1 h2]
    · rw [if_neg z] at h1
      rw [if_neg (fun q => z q.symm)] at h2
      have := of_decide_eq_false h1
      have := of_decide_eq_false h2
      omega
theorem lexLt_asym : ∀ {d e : List Int}, HT.lexLt d e = true → HT.lexLt e d = false
  | [], [], h => by cases h
  | [], _ :: _, _ => rfl
  | _ :: _, [], h => by cases h
  | a :: d, b :: e, h => by
    rw [HT.lexLt_cons] at h ⊢
    by_cases z : a = b
    · subst z
      rw [if_pos rfl] at h ⊢
      exact lexLt_asym h
    · rw [if_neg z] at h
      rw [if_neg (fun q => z q.symm)]
      have := of_decide_eq_true h
      exact decide_eq_false (by omega)
theorem parts_sorted {cf : Nat → (Nat → Int) → List Int} (hs : ∀ k f, (cf k f).Pairwise (· < ·)) : ∀ k, (parts cf k).Pairwise fun x y => HT.lexLt x y = true
  | 0 => List.pairwise_singleton _ _
  | k + 1 => by
    refine List.pairwise_flatMap.mpr ⟨fun d _ => ?_, ?_⟩
    · rw [List.pairwise_map]
      exact (hs k (atc d)).imp fun h => lexLt_last h
    · refine List.Pairwise.imp_of_mem (fun {d e} hd he h x hx y hy => ?_) (parts_sorted hs k)
      obtain ⟨a, _, rfl⟩ := List.mem_map.mp hx
      obtain ⟨b, _, rfl⟩ := List.mem_map.mp hy
      exact lexLt_snoc (by rw [parts_len hd, parts_len he]) h
theorem sorted_nodup {L : List (List Int)} (h : L.Pairwise fun x y => HT.lexLt x y = true) : L.Nodup := h.imp fun {a b} h e => by
  subst e; rw [lexLt_irr] at h; cases h
/-- one order alone -/
theorem sorted_uniq {L L' : List (List Int)} (h : L.Pairwise fun x y => HT.lexLt x y = true) (h' : L'.Pairwise fun x y => HT.lexLt y x = false) (p : L'.Perm L) : L' = L :=
  List.Perm.eq_of_pairwise (fun a b _ _ h1 h2 => lexLt_tot h2 h1) h' (h.imp fun h => lexLt_asym h) p
theorem candC_sorted {W : Web} (k : Nat) (f : Nat → Int) : (candC W k f).Pairwise (· < ·) := by
  unfold candC
  refine List.Pairwise.filter _ ?_
  decide
end M

set_option Elab.async false
set_option linter.all false
set_option maxHeartbeats 4000000
/-! M11: all colorings; the laid ones, counted. -/
namespace M
open PySem G L2
theorem mem_candC {W : Web} {k : Nat} {f : Nat → Int} {x : Int} : x ∈ candC W k f ↔ (0 ≤ x ∧ x ≤ 2) ∧ ∀ u ∈ W.ahd k, f u ≠ x := by
  unfold candC
  rw [List.mem_filter]
  refine and_congr ⟨fun h => ?_, fun h => ?_⟩ ?_
  · obtain ⟨a, ha, rfl⟩ := List.mem_map.mp h
    have := List.mem_range.mp ha
    omega
  · exact List.mem_map.mpr ⟨x.toNat, List.mem_range.mpr (by omega), by omega⟩
  · simp
theorem mem_ahd {W : Web} (h : W.Pre) {u v : Nat} : u ∈ W.ahd v ↔ (W.adj v u = true ∧ u < v) := by
  unfold Web.ahd
  rw [List.mem_filter, mem_nb h, decide_eq_true_eq]
theorem atc_mem {c : List Int} {v : Nat} (h : v < c.length) : atc c v ∈ c := by
  unfold atc
  rw [List.getD_eq_getElem?_getD, List.getElem?_eq_getElem h]
  exact List.getElem_mem h
theorem mem_atc {c : List Int} {x : Int} (h : x ∈ c) : ∃ v, v < c.length ∧ atc c v = x := by
  obtain ⟨v, hv, e⟩ := List.getElem_of_mem h
  exact ⟨v, hv, by unfold atc; rw [List.getD_eq_getElem?_getD, List.getElem?_eq_getElem hv]; exact e⟩
theorem all_col {W : Web} (h : W.Pre) {c : List Int} : c ∈ parts (candC W) W.n ↔ Col W c := by
  rw [parts_mem candC_local]
  constructor
  · rintro ⟨hl, hv⟩
    have ne : ∀ u v, W.adj u v = true → u < v → atc c u ≠ atc c v := fun u v a l => (mem_candC.mp (hv v (adj_lt h a).2.1)).2 u ((mem_ahd h).mpr ⟨by rw [adj_sym]; exact a, l⟩)
    refine ⟨hl, fun x hx => ?_, fun u v a => ?_⟩
    · obtain ⟨v, hvl, rfl⟩ := mem_atc hx
      exact (mem_candC.mp (hv v (by omega))).1
    · have l := adj_lt h a
      rcases Nat.lt_or_ge u v with z | z
      · exact ne u v a z
      · exact fun e => ne v u (by rw [adj_sym]; exact a) (by omega) e.symm
  · intro C
    refine ⟨C.len, fun v hv => mem_candC.mpr ⟨C.rng _ (atc_mem (by rw [C.len]; exact hv)), fun u hu => C.ne u v ?_⟩⟩
    rw [adj_sym]; exact ((mem_ahd h).mp hu).1
end M

set_option Elab.async false
set_option linter.all false
set_option maxHeartbeats 4000000
/-! M12: layings as the tables make them. -/
namespace M
open PySem G L2
theorem mem_cst {hv : Nat → Int} {x : Int} : ∀ (l : List Nat) (o : Option (List Int)) (r : List Int), l.foldl (cst hv) o = some r → (x ∈ r ↔ ((∀ l0, o = some l0 → x ∈ l0) ∧ (∀ u ∈ l, x = hv u - 1 ∨ x = hv u + 1)))
  | [], o, r, h => by
    have h : o = some r := h
    subst h
    exact ⟨fun m => ⟨fun l0 e => (by cases e; exact m), fun u hu => (by cases hu)⟩, fun m => m.1 r rfl⟩
  | a :: l, o, r, h => by
    have ih := mem_cst l (cst hv o a) r h (x := x)
    rw [ih]
    constructor
    · rintro ⟨h1, h2⟩
      have h3 := h1 _ rfl
      cases o with
      | none =>
        refine ⟨fun l0 e => (by cases e), fun u hu => ?_⟩
        rcases List.mem_cons.mp hu with rfl | hu
        · simpa using h3
        · exact h2 u hu
      | some l0 =>
        obtain ⟨q1, q2⟩ := List.mem_filter.mp h3
        refine ⟨fun l1 e => (by cases e; exact q1), fun u hu => ?_⟩
        rcases List.mem_cons.mp hu with rfl | hu
        · simpa using q2
        · exact h2 u hu
    · rintro ⟨h1, h2⟩
      refine ⟨fun l1 e => ?_, fun u hu => h2 u (List.mem_cons_of_mem _ hu)⟩
      have h3 := h2 a List.mem_cons_self
      unfold cst at e
      cases o with
      | none => cases e; simpa using h3
      | some l0 => cases e; exact List.mem_filter.mpr ⟨h1 l0 rfl, by simpa using h3⟩
theorem cst_some {hv : Nat → Int} : ∀ (l : List Nat) (o : Option (List Int)), l ≠ [] → ∃ r, l.foldl (cst hv) o = some r
  | [], _, h => absurd rfl h
  | [a], o, _ => ⟨_, rfl⟩
  | a :: b :: l, o, _ => cst_some (b :: l) (cst hv o a) (by simp)
theorem mem_rg2 {lo hi x : Int} (h : lo ≤ hi) : x ∈ rg2 lo hi ↔ (lo ≤ x ∧ x ≤ hi + 1 ∧ (x - lo) % 2 = 0 ∧ (x - lo) / 2 ≤ (hi - lo) / 2) := by
  unfold rg2
  rw [List.mem_map]
  constructor
  · rintro ⟨k, hk, rfl⟩
    have := List.mem_range.mp hk
    omega
  · rintro ⟨h1, h2, h3, h4⟩
    exact ⟨((x - lo) / 2).toNat, List.mem_range.mpr (by omega), by omega⟩
theorem mem_cand {W : Web} {lo hi : List Int} {f : Nat} {hv : Nat → Int} {x : Int} (h : atc lo f ≤ atc hi f) : x ∈ cand W lo hi f hv ↔ ((atc lo f ≤ x ∧ x ≤ atc hi f) ∧ (W.ahd f = [] → (x - atc lo f) % 2 = 0) ∧ ∀ u ∈ W.ahd f, x = hv u - 1 ∨ x = hv u + 1) := by
  unfold cand
  rw [List.mem_filter, Bool.and_eq_true, decide_eq_true_eq, decide_eq_true_eq]
  by_cases z : W.ahd f = []
  · rw [z]
    show x ∈ rg2 _ _ ∧ _ ↔ _
    rw [mem_rg2 h]
    constructor
    · rintro ⟨h1, h2⟩
      exact ⟨h2, fun _ => h1.2.2.1, fun u hu => (by cases hu)⟩
    · rintro ⟨h1, h2, _⟩
      have := h2 rfl
      exact ⟨⟨h1.1, by omega, this, by omega⟩, h1⟩
  · obtain ⟨r, e⟩ := cst_some (hv := hv) (W.ahd f) none z
    rw [e]
    show x ∈ r ∧ _ ↔ _
    rw [mem_cst _ _ _ e]
    constructor
    · rintro ⟨h1, h2⟩
      exact ⟨h2, fun q => absurd q z, h1.2⟩
    · rintro ⟨h1, _, h3⟩
      exact ⟨⟨fun l0 e => (by cases e), h3⟩, h1⟩
theorem cst_sorted {hv : Nat → Int} : ∀ (l : List Nat) (o : Option (List Int)) (r : List Int), (∀ l0, o = some l0 → l0.Pairwise (· < ·)) → l.foldl (cst hv) o = some r → r.Pairwise (· < ·)
  | [], o, r, h0, h => h0 r h
  | a :: l, o, r, h0, h => cst_sorted l (cst hv o a) r (fun l0 e => by
    unfold cst at e
    cases o with
    | none => cases e; simp; omega
    | some l1 => cases e; exact (h0 l1 rfl).filter _) h
theorem cand_sorted {W : Web} {lo hi : List Int} (f : Nat) (hv : Nat → Int) : (cand W lo hi f hv).Pairwise (· < ·) := by
  unfold cand
  refine List.Pairwise.filter _ ?_
  cases e : (W.ahd f).foldl (cst hv) none with
  | none =>
    show (rg2 _ _).Pairwise _
    unfold rg2
    rw [List.pairwise_map]
    exact List.pairwise_lt_range.imp fun h => by omega
  | some r => exact cst_sorted _ _ _ (fun l0 e => by cases e) e
end M

set_option Elab.async false
set_option linter.all false
set_option maxHeartbeats 4000000
/-! M13: the laid colorings, counted. -/
namespace M
open PySem G L2
theorem Lay.par {W : Web} (h : W.Ok) {g : Nat → Int} (L : Lay W g) : ∀ (k v : Nat), v < W.n → W.dist 0 v = k → (g v - g 0 - (k : Int)) % 2 = 0 := fun k => by
  have D := h.dist h.pre.pos
  induction k with
  | zero =>
    intro v hv e
    by_cases z : v = 0
    · subst z; omega
    · obtain ⟨u, _, e1⟩ := D.back v hv z; omega
  | succ k ih =>
    intro v hv e
    have z : v ≠ 0 := fun z => by rw [z, D.s0] at e; cases e
    obtain ⟨u, hu, e1⟩ := D.back v hv z
    have h1 := ih u (adj_lt h.pre hu).2.1 (by omega)
    have h2 := L v u hu
    omega
theorem lay_mem {W : Web} (h : W.Ok) {lo hi : List Int} (hlo : ∀ v, v < W.n → atc lo v = -(W.dist 0 v : Int)) (hhi : ∀ v, v < W.n → atc hi v = (W.dist 0 v : Int)) {c : List Int} : c ∈ parts (cand W lo hi) W.n ↔ Layc W c ∧ atc c 0 = 0 := by
  have hp := h.pre.pos
  have D := h.dist hp
  have D0 := D.s0
  rw [parts_mem cand_local]
  have mc : ∀ v, v < W.n → ∀ (f : Nat → Int) (x : Int), x ∈ cand W lo hi v f ↔ _ := fun v hv f x => mem_cand (W := W) (f := v) (hv := f) (x := x) (by rw [hlo v hv, hhi v hv]; omega)
  constructor
  · rintro ⟨hl, hv⟩
    have st : ∀ u v, W.adj u v = true → u < v → atc c v - atc c u = 1 ∨ atc c v - atc c u = -1 := fun u v a l => by
      have q := ((mc v (adj_lt h.pre a).2.1 _ _).mp (hv v (adj_lt h.pre a).2.1)).2.2 u ((mem_ahd h.pre).mpr ⟨by rw [adj_sym]; exact a, l⟩)
      omega
    refine ⟨⟨hl, fun u v a => ?_⟩, ?_⟩
    · have l := adj_lt h.pre a
      rcases Nat.lt_or_ge u v with z | z
      · exact st u v a z
      · have := st v u (by rw [adj_sym]; exact a) (by omega)
        omega
    · have q := ((mc 0 hp _ _).mp (hv 0 hp)).1
      rw [hlo 0 hp, hhi 0 hp, D0] at q
      omega
  · rintro ⟨L, h0⟩
    refine ⟨L.len, fun v hv => (mc v hv _ _).mpr ?_⟩
    have q := L.lay.near h hp _ v hv rfl
    have p := L.lay.par h _ v hv rfl
    rw [hlo v hv, hhi v hv]
    refine ⟨by omega, fun _ => by omega, fun u hu => ?_⟩
    have := L.lay u v (by rw [adj_sym]; exact ((mem_ahd h.pre).mp hu).1)
    omega
theorem atc_ext {c d : List Int} (hl : c.length = d.length) (h : ∀ v, v < c.length → atc c v = atc d v) : c = d :=
  List.ext_getElem hl fun v h1 h2 => by
    have := h v h1
    unfold atc at this
    rw [List.getD_eq_getElem?_getD, List.getD_eq_getElem?_getD, List.getElem?_eq_getElem h1, List.getElem?_eq_getElem h2] at this
    exact this
theorem atc_mapl {g : Int → Int} {c : List Int} {v : Nat} (h : v < c.length) : atc (c.map g) v = g (atc c v) := by
  unfold atc
  rw [List.getD_eq_getElem?_getD, List.getD_eq_getElem?_getD, List.getElem?_map, List.getElem?_eq_getElem h]; rfl
/-- one lift alone, from the height at 0 -/
theorem lift_uniq {W : Web} (h : W.Ok) {g g' : Nat → Int} (L : Lay W g) (L' : Lay W g') (h0 : g 0 = g' 0) (hm : ∀ v, v < W.n → g v % 3 = g' v % 3) : ∀ (k v : Nat), v < W.n → W.dist 0 v = k → g v = g' v := fun k => by
  have D := h.dist h.pre.pos
  induction k with
  | zero =>
    intro v hv e
    by_cases z : v = 0
    · subst z; exact h0
    · obtain ⟨u, _, e1⟩ := D.back v hv z; omega
  | succ k ih =>
    intro v hv e
    have z : v ≠ 0 := fun z => by rw [z, D.s0] at e; cases e
    obtain ⟨u, hu, e1⟩ := D.back v hv z
    have h1 := ih u (adj_lt h.pre hu).2.1 (by omega)
    have h2 := L v u hu
    have h3 := L' v u hu
    have h4 := hm v hv
    omega
def shf (s : Int) (c : List Int) : List Int := c.map fun y => (y + s) % 3
theorem shf_len {s : Int} {c : List Int} : (shf s c).length = c.length := by unfold shf; rw [List.length_map]
theorem shf_at {s : Int} {c : List Int} {v : Nat} (h : v < c.length) : atc (shf s c) v = (atc c v + s) % 3 := atc_mapl h
theorem laid_count {W : Web} (h : W.Ok) {lo hi : List Int} (hlo : ∀ v, v < W.n → atc lo v = -(W.dist 0 v : Int)) (hhi : ∀ v, v < W.n → atc hi v = (W.dist 0 v : Int)) {Y : List (List Int)} (hY : Y.Nodup) (hm : ∀ c, c ∈ Y ↔ (Col W c ∧ Laid W c)) : Y.length = 3 * (parts (cand W lo hi) W.n).length := by
  have hp := h.pre.pos
  let X := (parts (cand W lo hi) W.n).flatMap fun c => [(0 : Int), 1, 2].map fun s => shf s c
  have hX : X.Nodup := by
    refine List.pairwise_flatMap.mpr ⟨fun c hc => ?_, ?_⟩
    · have L := (lay_mem h hlo hhi).mp hc
      rw [List.pairwise_map]
      have key : ∀ s s' : Int, (0 ≤ s ∧ s ≤ 2) → (0 ≤ s' ∧ s' ≤ 2) → s ≠ s' → shf s c ≠ shf s' c := fun s s' b1 b2 ne e => by
        have := congrArg (fun d => atc d 0) e
        replace this : atc (shf s c) 0 = atc (shf s' c) 0 := this
        rw [shf_at (by rw [L.1.len]; exact hp), shf_at (by rw [L.1.len]; exact hp), L.2] at this
        omega
      refine List.Pairwise.cons ?_ (List.Pairwise.cons ?_ (List.pairwise_singleton _ _))
      · intro s hs
        simp at hs
        exact key 0 s (by omega) (by omega) (by omega)
      · intro s hs
        simp at hs
        exact key 1 s (by omega) (by omega) (by omega)
    · refine List.Pairwise.imp_of_mem (fun {c d} hc hd ne x hx y hy e => ?_) (sorted_nodup (parts_sorted cand_sorted W.n))
      have Lc := (lay_mem h hlo hhi).mp hc
      have Ld := (lay_mem h hlo hhi).mp hd
      obtain ⟨s, hs, rfl⟩ := List.mem_map.mp hx
      obtain ⟨s', hs', rfl⟩ := List.mem_map.mp hy
      have hs : 0 ≤ s ∧ s ≤ 2 := by simp at hs; omega
      have hs' : 0 ≤ s' ∧ s' ≤ 2 := by simp at hs'; omega
      have at_ : ∀ v, v < W.n → (atc c v + s) % 3 = (atc d v + s') % 3 := fun v hv => by
        rw [← shf_at (s := s) (by rw [Lc.1.len]; exact hv), ← shf_at (s := s') (by rw [Ld.1.len]; exact hv), e]
      have a0 := at_ 0 hp
      rw [Lc.2, Ld.2] at a0
      have hss : s = s' := by omega
      subst hss
      refine ne (atc_ext (by rw [Lc.1.len, Ld.1.len]) fun v hv => ?_)
      rw [Lc.1.len] at hv
      exact lift_uniq h Lc.1.lay Ld.1.lay (by rw [Lc.2, Ld.2]) (fun v hv => by have := at_ v hv; omega) _ v hv rfl
  have hXm : ∀ c, c ∈ X ↔ (Col W c ∧ Laid W c) := fun c => by
    constructor
    · intro hc
      obtain ⟨d, hd, hc⟩ := List.mem_flatMap.mp hc
      obtain ⟨s, hs, rfl⟩ := List.mem_map.mp hc
      have L := ((lay_mem h hlo hhi).mp hd).1
      have at_ : ∀ v, v < W.n → atc (shf s d) v = (atc d v + s) % 3 := fun v hv => shf_at (by rw [L.len]; exact hv)
      refine ⟨⟨by rw [shf_len, L.len], fun x hx => ?_, fun u v a => ?_⟩, fun v => atc d v + s, fun u v a => by have := L.lay u v a; omega, fun v hv => (at_ v hv).symm⟩
      · obtain ⟨y, _, rfl⟩ := List.mem_map.mp hx
        omega
      · have l := adj_lt h.pre a
        rw [at_ u l.1, at_ v l.2.1]
        have := L.lay u v a
        omega
    · rintro ⟨C, g, L⟩
      have hc0 := C.rng _ (atc_mem (c := c) (v := 0) (by rw [C.len]; exact hp))
      have at_ : ∀ v, v < W.n → atc ((List.range W.n).map fun v => g v - g 0) v = g v - g 0 := fun v hv => atc_map hv
      refine List.mem_flatMap.mpr ⟨(List.range W.n).map fun v => g v - g 0, (lay_mem h hlo hhi).mpr ⟨⟨by simp, fun u v a => ?_⟩, by rw [at_ 0 hp]; omega⟩, List.mem_map.mpr ⟨atc c 0, by simp; omega, ?_⟩⟩
      · have l := adj_lt h.pre a
        rw [at_ u l.1, at_ v l.2.1]
        have := L.lay u v a
        omega
      · refine atc_ext (by rw [shf_len, C.len]; simp) fun v hv => ?_
        rw [shf_len] at hv
        simp at hv
        rw [shf_at (by simpa using hv), at_ v hv]
        have h1 := L.mod v hv
        have h2 := L.mod 0 hp
        have h3 := C.rng _ (atc_mem (c := c) (v := v) (by rw [C.len]; exact hv))
        omega
  have perm : Y.Perm X := (List.perm_ext_iff_of_nodup hY hX).mpr fun c => by rw [hm, hXm]
  rw [perm.length_eq]
  show ((parts (cand W lo hi) W.n).flatMap fun c => [(0 : Int), 1, 2].map fun s => shf s c).length = _
  generalize parts (cand W lo hi) W.n = Z
  induction Z with
  | nil => rfl
  | cons a Z ih => rw [List.flatMap_cons, List.length_append, ih, List.length_map, List.length_cons]; simp; omega
end M

set_option Elab.async false
set_option linter.all false
set_option maxHeartbeats 4000000
/-! M14: recolorings. -/
namespace M
open PySem G L2
theorem dk_sub : ∀ (l a : List Int), (∀ x ∈ a, x ∈ l.foldl dkA a) ∧ (∀ x ∈ l, x ∈ l.foldl dkA a) ∧ ∀ x ∈ l.foldl dkA a, x ∈ a ∨ x ∈ l
  | [], a => ⟨fun x h => h, fun x h => (by cases h), fun x h => .inl h⟩
  | k :: l, a => by
    obtain ⟨h1, h2, h3⟩ := dk_sub l (dkA a k)
    have e : ∀ x, x ∈ dkA a k ↔ (x ∈ a ∨ x = k) := fun x => by
      unfold dkA
      by_cases z : k ∈ a
      · rw [if_pos z]
        exact ⟨.inl, fun q => q.elim id fun q => by rw [q]; exact z⟩
      · rw [if_neg z, List.mem_append, List.mem_singleton]
    refine ⟨fun x hx => h1 x ((e x).mpr (.inl hx)), fun x hx => ?_, fun x hx => ?_⟩
    · rcases List.mem_cons.mp hx with rfl | hx
      · exact h1 x ((e x).mpr (.inr rfl))
      · exact h2 x hx
    · rcases h3 x hx with q | q
      · exact ((e x).mp q).imp id fun q => by rw [q]; exact List.mem_cons_self
      · exact .inr (List.mem_cons_of_mem _ q)
theorem dk_same {x : Int} : ∀ l : List Int, (∀ y ∈ l, y = x) → l.foldl dkA [x] = [x]
  | [], _ => rfl
  | k :: l, h => by
    have hk := h k List.mem_cons_self
    subst hk
    show l.foldl dkA (dkA [k] k) = [k]
    rw [show dkA [k] k = [k] by unfold dkA; rw [if_pos List.mem_cons_self]]
    exact dk_same l fun y hy => h y (List.mem_cons_of_mem _ hy)
theorem dk_one {l : List Int} {x : Int} : dk l = [x] ↔ (l ≠ [] ∧ ∀ y ∈ l, y = x) := by
  unfold dk
  constructor
  · intro h
    obtain ⟨_, h2, h3⟩ := dk_sub l []
    rw [h] at h2 h3
    refine ⟨fun e => ?_, fun y hy => List.mem_singleton.mp (h2 y hy)⟩
    rcases h3 x List.mem_cons_self with q | q
    · cases q
    · rw [e] at q; cases q
  · rintro ⟨h1, h2⟩
    cases l with
    | nil => exact absurd rfl h1
    | cons k l =>
      have hk := h2 k List.mem_cons_self
      subst hk
      exact dk_same l fun y hy => h2 y (List.mem_cons_of_mem _ hy)
/-- f may be recolored to what is left beside x -/
structure Can (W : Web) (c : List Int) (f : Nat) (x : Int) : Prop where
  some : ∃ u, W.adj f u = true
  all : ∀ u, W.adj f u = true → atc c u = x
theorem rec_some {W : Web} (h : W.Pre) {c d : List Int} {f : Nat} : recO W c f = some d ↔ ∃ x, Can W c f x ∧ d = c.set f (3 - atc c f - x) := by
  have key : ∀ x, dk ((W.nb f).map (atc c)) = [x] ↔ Can W c f x := fun x => by
    rw [dk_one]
    constructor
    · rintro ⟨h1, h2⟩
      have : ∃ u, u ∈ W.nb f := by
        cases e : W.nb f with
        | nil => rw [e] at h1; exact absurd rfl h1
        | cons u r => exact ⟨u, List.mem_cons_self⟩
      obtain ⟨u, hu⟩ := this
      exact ⟨⟨u, (mem_nb h).mp hu⟩, fun u a => h2 _ (List.mem_map.mpr ⟨u, (mem_nb h).mpr a, rfl⟩)⟩
    · rintro ⟨⟨u, hu⟩, ha⟩
      refine ⟨fun e => ?_, fun y hy => ?_⟩
      · have : atc c u ∈ (W.nb f).map (atc c) := List.mem_map.mpr ⟨u, (mem_nb h).mpr hu, rfl⟩
        rw [e] at this; cases this
      · obtain ⟨u, hu, rfl⟩ := List.mem_map.mp hy
        exact ha u ((mem_nb h).mp hu)
  unfold recO
  constructor
  · intro e
    split at e
    · next x hx => exact ⟨x, (key x).mp hx, (Option.some.inj e).symm⟩
    · cases e
  · rintro ⟨x, C, rfl⟩
    rw [(key x).mpr C]
theorem Can.col {W : Web} (h : W.Pre) {c : List Int} (C : Col W c) {f : Nat} (hf : f < W.n) {x : Int} (k : Can W c f x) : Col W (c.set f (3 - atc c f - x)) ∧ (0 ≤ x ∧ x ≤ 2) ∧ atc c f ≠ x := by
  have hl := C.len
  obtain ⟨u, hu⟩ := k.some
  have hx := k.all u hu
  have r1 := C.rng _ (atc_mem (c := c) (v := u) (by rw [hl]; exact (adj_lt h hu).2.1))
  have r2 := C.rng _ (atc_mem (c := c) (v := f) (by rw [hl]; exact hf))
  have ne := C.ne f u hu
  refine ⟨⟨by rw [List.length_set]; exact hl, fun y hy => ?_, fun a b ab => ?_⟩, by omega, by omega⟩
  · rcases List.mem_or_eq_of_mem_set hy with q | q
    · exact C.rng y q
    · omega
  · rw [atc_set (by omega), atc_set (by omega)]
    have := C.ne a b ab
    have hab := (adj_lt h ab).2.2
    by_cases z : a = f
    · subst z
      rw [if_pos rfl, if_neg (fun q => hab q.symm)]
      have := k.all b ab
      omega
    · rw [if_neg z]
      by_cases z2 : b = f
      · subst z2
        rw [if_pos rfl]
        have := k.all a (by rw [adj_sym]; exact ab)
        omega
      · rw [if_neg z2]; exact this
/-- and back -/
theorem Can.back {W : Web} (h : W.Pre) {c : List Int} (C : Col W c) {f : Nat} (hf : f < W.n) {x : Int} (k : Can W c f x) : Can W (c.set f (3 - atc c f - x)) f x ∧ (c.set f (3 - atc c f - x)).set f (3 - atc (c.set f (3 - atc c f - x)) f - x) = c := by
  have hl := C.len
  refine ⟨⟨k.some, fun u a => ?_⟩, ?_⟩
  · rw [atc_set (by omega), if_neg (fun z => (adj_lt h a).2.2 z.symm)]; exact k.all u a
  · rw [atc_set (by omega), if_pos rfl, List.set_set]
    refine atc_ext (by rw [List.length_set]) fun v hv => ?_
    rw [atc_set (by omega)]
    by_cases z : v = f
    · subst z; rw [if_pos rfl]; omega
    · rw [if_neg z]
/-- a lift goes along -/
theorem Can.lift {W : Web} (h : W.Pre) {c : List Int} (C : Col W c) {f : Nat} (hf : f < W.n) {x : Int} (k : Can W c f x) {g : Nat → Int} (L : Lift W c g) : ∃ s : Int, (s = 2 ∨ s = -2) ∧ Lift W (c.set f (3 - atc c f - x)) fun v => if v = f then g v + s else g v := by
  have hl := C.len
  obtain ⟨u0, hu0⟩ := k.some
  have hx0 := k.all u0 hu0
  have m0 := L.mod u0 (adj_lt h hu0).2.1
  have mf := L.mod f hf
  have near : ∀ u, W.adj f u = true → g u = g u0 := fun u a => by
    have q1 := L.lay f u a
    have q2 := L.lay f u0 hu0
    have m := L.mod u (adj_lt h a).2.1
    have := k.all u a
    omega
  have q0 := L.lay f u0 hu0
  refine ⟨2 * (g u0 - g f), by omega, fun a b ab => ?_, fun v hv => ?_⟩
  · have q := L.lay a b ab
    have hab := (adj_lt h ab).2.2
    by_cases z : a = f
    · subst z
      have hn := near b ab
      show (if b = a then _ else _) - (if a = a then _ else _) = 1 ∨ (if b = a then _ else _) - (if a = a then _ else _) = -1
      rw [if_pos rfl, if_neg (fun q => hab q.symm)]
      omega
    · by_cases z2 : b = f
      · subst z2
        have hn := near a (by rw [adj_sym]; exact ab)
        show (if b = b then _ else _) - (if a = b then _ else _) = 1 ∨ (if b = b then _ else _) - (if a = b then _ else _) = -1
        rw [if_pos rfl, if_neg z]
        omega
      · show (if b = f then _ else _) - (if a = f then _ else _) = 1 ∨ (if b = f then _ else _) - (if a = f then _ else _) = -1
        rw [if_neg z, if_neg z2]; exact q
  · rw [atc_set (by omega)]
    by_cases z : v = f
    · subst z
      show (if v = v then _ else _) % 3 = _
      rw [if_pos rfl, if_pos rfl]
      have r := C.rng _ (atc_mem (c := c) (v := u0) (by rw [hl]; exact (adj_lt h hu0).2.1))
      have r2 := C.rng _ (atc_mem (c := c) (v := v) (by rw [hl]; exact hv))
      omega
    · show (if v = f then _ else _) % 3 = _
      rw [if_neg z, if_neg z]; exact L.mod v hv
end M

set_option Elab.async false
set_option linter.all false
set_option maxHeartbeats 4000000
/-! M15: how far a coloring lies from another. -/
namespace M
open PySem G L2
/-- heights apart, all told -/
def apart (n : Nat) (g h : Nat → Int) : Nat := ((List.range n).map fun v => (g v - h v).natAbs).sum
theorem apart_succ {n : Nat} {g h : Nat → Int} : apart (n + 1) g h = apart n g h + (g n - h n).natAbs := by
  unfold apart
  rw [List.range_succ, List.map_append, List.sum_append]; simp
theorem apart_at {g h h' : Nat → Int} {f : Nat} (he : ∀ v, v ≠ f → h' v = h v) : ∀ n, (n ≤ f → apart n g h' = apart n g h) ∧ (f < n → apart n g h' + (g f - h f).natAbs = apart n g h + (g f - h' f).natAbs)
  | 0 => ⟨fun _ => rfl, fun z => by omega⟩
  | n + 1 => by
    obtain ⟨h1, h2⟩ := apart_at he n
    rw [apart_succ, apart_succ]
    refine ⟨fun z => ?_, fun z => ?_⟩
    · rw [h1 (by omega), he n (by omega)]
    · by_cases e : n = f
      · subst e
        rw [h1 (Nat.le_refl _)]; omega
      · have := h2 (by omega)
        rw [he n e]; omega
theorem apart_zero {g h : Nat → Int} : ∀ n, apart n g h = 0 → ∀ v, v < n → g v = h v
  | 0, _, v, hv => by omega
  | n + 1, e, v, hv => by
    rw [apart_succ] at e
    by_cases z : v = n
    · subst z; omega
    · exact apart_zero n (by omega) v (by omega)
theorem argmax (p : Nat → Prop) (h : Nat → Int) : ∀ n, (∃ v, v < n ∧ p v) → ∃ f, f < n ∧ p f ∧ ∀ u, u < n → p u → h u ≤ h f
  | 0, ⟨v, hv, _⟩ => by omega
  | n + 1, ⟨v, hv, pv⟩ => by
    by_cases q : ∃ v, v < n ∧ p v
    · obtain ⟨f, hf, pf, hm⟩ := argmax p h n q
      by_cases z : p n ∧ h f < h n
      · refine ⟨n, by omega, z.1, fun u hu pu => ?_⟩
        by_cases e : u = n
        · subst e; omega
        · have := hm u (by omega) pu; omega
      · refine ⟨f, by omega, pf, fun u hu pu => ?_⟩
        by_cases e : u = n
        · subst e
          have : ¬ h f < h u := fun w => z ⟨pu, w⟩
          omega
        · exact hm u (by omega) pu
    · have e : v = n := Decidable.byContradiction fun z => q ⟨v, by omega, pv⟩
      subst e
      refine ⟨v, by omega, pv, fun u hu pu => ?_⟩
      have : u = v := Decidable.byContradiction fun z => q ⟨u, by omega, pu⟩
      subst this; omega
theorem nb_ex {W : Web} (h : W.Ok) (h2 : 2 ≤ W.n) {f : Nat} (hf : f < W.n) : ∃ u, W.adj f u = true := by
  by_cases z : f = 0
  · subst z
    have D := h.dist (s := 1) (by omega)
    obtain ⟨u, hu, _⟩ := D.back 0 hf (by omega)
    exact ⟨u, hu⟩
  · have D := h.dist (s := 0) (by omega)
    obtain ⟨u, hu, _⟩ := D.back f hf z
    exact ⟨u, hu⟩
/-- all neighbors on one side: f goes over to that side -/
theorem turn_over {W : Web} (h : W.Ok) (h2 : 2 ≤ W.n) {c : List Int} (C : Col W c) {g : Nat → Int} (L : Lift W c g) {f : Nat} (hf : f < W.n) {e : Int} (he : e = 1 ∨ e = -1) (hn : ∀ u, W.adj f u = true → g u = g f + e) : ∃ d, recO W c f = some d ∧ Lift W d fun v => if v = f then g v + 2 * e else g v := by
  have hl := C.len
  have k : Can W c f ((g f + e) % 3) := ⟨nb_ex h h2 hf, fun u a => by rw [← hn u a]; exact (L.mod u (adj_lt h.pre a).2.1).symm⟩
  refine ⟨_, (rec_some h.pre).mpr ⟨_, k, rfl⟩, fun a b ab => ?_, fun v hv => ?_⟩
  · have q := L.lay a b ab
    have hab := (adj_lt h.pre ab).2.2
    by_cases z : a = f
    · subst z
      have := hn b ab
      show (if b = a then _ else _) - (if a = a then _ else _) = 1 ∨ (if b = a then _ else _) - (if a = a then _ else _) = -1
      rw [if_pos rfl, if_neg (fun q => hab q.symm)]
      omega
    · by_cases z2 : b = f
      · subst z2
        have := hn a (by rw [adj_sym]; exact ab)
        show (if b = b then _ else _) - (if a = b then _ else _) = 1 ∨ (if b = b then _ else _) - (if a = b then _ else _) = -1
        rw [if_pos rfl, if_neg z]
        omega
      · show (if b = f then _ else _) - (if a = f then _ else _) = 1 ∨ (if b = f then _ else _) - (if a = f then _ else _) = -1
        rw [if_neg z, if_neg z2]; exact q
  · have m := L.mod f hf
    rw [atc_set (by omega)]
    by_cases z : v = f
    · subst z
      show (if v = v then _ else _) % 3 = _
      rw [if_pos rfl, if_pos rfl]
      omega
    · show (if v = f then _ else _) % 3 = _
      rw [if_neg z, if_neg z]; exact L.mod v hv
/-- some recoloring comes nearer -/
theorem nearer {W : Web} (h : W.Ok) (h2 : 2 ≤ W.n) {c : List Int} (C : Col W c) {g k : Nat → Int} (G : Lay W g) (L : Lift W c k) (hp : ∀ v, v < W.n → (g v - k v) % 2 = 0) {m : Nat} (hm : apart W.n g k = 2 * (m + 1)) : ∃ f d k', f < W.n ∧ recO W c f = some d ∧ Lift W d k' ∧ apart W.n g k' = 2 * m ∧ ∀ v, v < W.n → (g v - k' v) % 2 = 0 := by
  have ex : ∃ f e, f < W.n ∧ (e = 1 ∨ e = -1) ∧ (∀ u, W.adj f u = true → k u = k f + e) ∧ 2 ≤ (g f - k f) * e := by
    by_cases up : ∃ v, v < W.n ∧ g v < k v
    · obtain ⟨f, hf, pf, hx⟩ := argmax (fun v => g v < k v) k W.n up
      have := hp f hf
      refine ⟨f, -1, hf, .inr rfl, fun u a => ?_, by omega⟩
      have q := L.lay f u a
      have q2 := G f u a
      have := hx u (adj_lt h.pre a).2.1
      omega
    · by_cases dn : ∃ v, v < W.n ∧ k v < g v
      · obtain ⟨f, hf, pf, hx⟩ := argmax (fun v => k v < g v) (fun v => - k v) W.n dn
        have := hp f hf
        refine ⟨f, 1, hf, .inl rfl, fun u a => ?_, by omega⟩
        have q := L.lay f u a
        have q2 := G f u a
        have := hx u (adj_lt h.pre a).2.1
        omega
      · exfalso
        have : ∀ n, n ≤ W.n → apart n g k = 0 := fun n => by
          induction n with
          | zero => intro _; rfl
          | succ n ih =>
            intro hn
            rw [apart_succ, ih (by omega)]
            have a1 : ¬ g n < k n := fun z => up ⟨n, by omega, z⟩
            have a2 : ¬ k n < g n := fun z => dn ⟨n, by omega, z⟩
            omega
        rw [this _ (Nat.le_refl _)] at hm
        omega
  obtain ⟨f, e, hf, he, hn, hb⟩ := ex
  obtain ⟨d, hd, L'⟩ := turn_over h h2 C L hf he hn
  refine ⟨f, d, _, hf, hd, L', ?_, fun v hv => ?_⟩
  · have := (apart_at (g := g) (h := k) (h' := fun v => if v = f then k v + 2 * e else k v) (f := f) (fun v hv => if_neg hv) W.n).2 hf
    simp only [if_true] at this
    rcases he with rfl | rfl <;> omega
  · have := hp v hv
    by_cases z : v = f
    · subst z
      show (g v - (if v = v then _ else _)) % 2 = 0
      rw [if_pos rfl]
      rcases he with rfl | rfl <;> omega
    · show (g v - (if v = f then _ else _)) % 2 = 0
      rw [if_neg z]; exact this
end M

set_option Elab.async false
set_option linter.all false
set_option maxHeartbeats 4000000
/-! M16: the distance as the least over lifts. -/
namespace M
open PySem G L2
/-- m recolorings along some lift -/
def Far (W : Web) (g : Nat → Int) (c : List Int) (m : Nat) : Prop := ∃ k, Lift W c k ∧ (∀ v, v < W.n → (g v - k v) % 2 = 0) ∧ apart W.n g k = 2 * m
def Dst (W : Web) (g : Nat → Int) (c : List Int) (m : Nat) : Prop := Far W g c m ∧ ∀ m', Far W g c m' → m ≤ m'
theorem apart_even {g k : Nat → Int} : ∀ n, (∀ v, v < n → (g v - k v) % 2 = 0) → ∃ m, apart n g k = 2 * m
  | 0, _ => ⟨0, rfl⟩
  | n + 1, h => by
    obtain ⟨m, e⟩ := apart_even n fun v hv => h v (by omega)
    have := h n (by omega)
    refine ⟨m + (g n - k n).natAbs / 2, ?_⟩
    rw [apart_succ, e]; omega
theorem dst_ex {W : Web} (h : W.Ok) {g : Nat → Int} (G : Lay W g) {c : List Int} (L : Laid W c) : ∃ m, Dst W g c m := by
  obtain ⟨k, L⟩ := L
  have P : ∀ s : Int, (g 0 - (k 0 + s * 3)) % 2 = 0 → ∃ m, Far W g c m := fun s hs => by
    have hp : ∀ v, v < W.n → (g v - (k v + s * 3)) % 2 = 0 := fun v hv => by
      have a := G.par h _ v hv rfl
      have b := L.lay.par h _ v hv rfl
      omega
    obtain ⟨m, e⟩ := apart_even W.n hp (k := fun v => k v + s * 3)
    exact ⟨m, fun v => k v + s * 3, ⟨fun u v a => by have := L.lay u v a; omega, fun v hv => by have := L.mod v hv; omega⟩, hp, e⟩
  have : ∃ m, Far W g c m := by
    rcases (show (g 0 - k 0) % 2 = 0 ∨ (g 0 - k 0) % 2 = 1 by omega) with z | z
    · exact P 0 (by omega)
    · exact P 1 (by omega)
  obtain ⟨m, h1, h2⟩ := least this
  exact ⟨m, h1, h2⟩
theorem Dst.uniq {W : Web} {g : Nat → Int} {c : List Int} {m m' : Nat} (a : Dst W g c m) (b : Dst W g c m') : m = m' := Nat.le_antisymm (a.2 _ b.1) (b.2 _ a.1)
/-- one recoloring: one further at most -/
theorem far_step {W : Web} (h : W.Ok) {g : Nat → Int} {c d : List Int} (C : Col W c) {f : Nat} (hf : f < W.n) (e : recO W c f = some d) {m : Nat} (F : Far W g c m) : ∃ m', Far W g d m' ∧ m' ≤ m + 1 := by
  obtain ⟨x, k, rfl⟩ := (rec_some h.pre).mp e
  obtain ⟨q, L, hp, ha⟩ := F
  obtain ⟨s, hs, L'⟩ := k.lift h.pre C hf L
  have hp' : ∀ v, v < W.n → (g v - (if v = f then q v + s else q v)) % 2 = 0 := fun v hv => by
    have := hp v hv
    by_cases z : v = f
    · rw [if_pos z]; rcases hs with rfl | rfl <;> omega
    · rw [if_neg z]; exact this
  obtain ⟨m', e'⟩ := apart_even W.n hp' (k := fun v => if v = f then q v + s else q v)
  refine ⟨m', ⟨_, L', hp', e'⟩, ?_⟩
  have := (apart_at (g := g) (h := q) (h' := fun v => if v = f then q v + s else q v) (f := f) (fun v hv => if_neg hv) W.n).2 hf
  simp only [if_true] at this
  rcases hs with rfl | rfl <;> omega
theorem dst_zero {W : Web} {g : Nat → Int} {c0 c : List Int} (C0 : Lift W c0 g) (l0 : c0.length = W.n) (C : Col W c) : Dst W g c 0 ↔ c = c0 := by
  constructor
  · rintro ⟨⟨k, L, _, e⟩, _⟩
    have z := apart_zero W.n e
    refine atc_ext (by rw [C.len, l0]) fun v hv => ?_
    rw [C.len] at hv
    rw [← L.mod v hv, ← C0.mod v hv, z v hv]
  · rintro rfl
    refine ⟨⟨g, C0, fun v _ => by omega, ?_⟩, fun m' _ => Nat.zero_le _⟩
    have : ∀ n, apart n g g = 0 := fun n => by
      induction n with
      | zero => rfl
      | succ n ih => rw [apart_succ, ih]; omega
    rw [this]
/-- from afar some recoloring is one nearer -/
theorem dst_down {W : Web} (h : W.Ok) (h2 : 2 ≤ W.n) {g : Nat → Int} (G : Lay W g) {c : List Int} (C : Col W c) {m : Nat} (D : Dst W g c (m + 1)) : ∃ f d, f < W.n ∧ recO W c f = some d ∧ Dst W g d m := by
  obtain ⟨⟨k, L, hp, ha⟩, hmin⟩ := D
  obtain ⟨f, d, k', hf, hd, L', ha', hp'⟩ := nearer h h2 C G L hp ha
  refine ⟨f, d, hf, hd, ⟨k', L', hp', ha'⟩, fun m' F => ?_⟩
  obtain ⟨x, kk, rfl⟩ := (rec_some h.pre).mp hd
  obtain ⟨Cd, _⟩ := kk.col h.pre C hf
  obtain ⟨bk, eb⟩ := kk.back h.pre C hf
  have hb : recO W (c.set f (3 - atc c f - x)) f = some c := (rec_some h.pre).mpr ⟨x, bk, eb.symm⟩
  obtain ⟨m2, F2, hle⟩ := far_step h Cd hf hb F
  have := hmin _ F2
  omega
end M

set_option Elab.async false
set_option linter.all false
set_option maxHeartbeats 4000000
/-! M17: the distance that the program reckons is the distance. -/
namespace M
open PySem G L2
theorem apart_congr {g k g' k' : Nat → Int} : ∀ n, (∀ v, v < n → (g v - k v).natAbs = (g' v - k' v).natAbs) → apart n g k = apart n g' k'
  | 0, _ => rfl
  | n + 1, h => by rw [apart_succ, apart_succ, apart_congr n fun v hv => h v (by omega), h n (by omega)]
theorem cdF_apart {W : Web} {g h : Nat → Int} (k : Nat) : cdF W g h k = ((apart W.n g fun v => h v + ((k : Int) - 40) * 3 : Nat) : Int) / 2 := by
  unfold cdF apart
  congr 1
  generalize W.n = n
  induction n with
  | zero => rfl
  | succ n ih =>
    rw [List.range_succ, List.map_append, List.sum_append, List.map_append, List.sum_append, ih]
    simp
    unfold ab
    split <;> omega
theorem fold_min {F : Nat → Int} : ∀ (l : List Nat) (o : Option Int), (∀ b, o = some b → True) → (l ≠ [] ∨ o ≠ none) → ∃ m, l.foldl (cst2 F) o = some m ∧ (o = some m ∨ ∃ k ∈ l, F k = m) ∧ (∀ b, o = some b → m ≤ b) ∧ ∀ k ∈ l, m ≤ F k
  | [], o, _, h => by
    cases o with
    | none => rcases h with h | h <;> exact absurd rfl h
    | some b => exact ⟨b, rfl, .inl rfl, fun b' e => (by cases e; exact Int.le_refl _), fun k hk => (by cases hk)⟩
  | a :: l, o, _, _ => by
    obtain ⟨m, h1, h2, h3, h4⟩ := fold_min (F := F) l (cst2 F o a) (fun _ _ => trivial) (.inr (by unfold cst2; simp))
    cases o with
    | none =>
      have h3 := h3 (F a) rfl
      refine ⟨m, h1, .inr ?_, fun b e => (by cases e), fun k hk => ?_⟩
      · rcases h2 with h2 | ⟨k, hk, e⟩
        · exact ⟨a, List.mem_cons_self, Option.some.inj h2⟩
        · exact ⟨k, List.mem_cons_of_mem _ hk, e⟩
      · rcases List.mem_cons.mp hk with rfl | hk
        · exact h3
        · exact h4 k hk
    | some b0 =>
      have h3 := h3 (min b0 (F a)) rfl
      refine ⟨m, h1, ?_, fun b e => (by cases e; omega), fun k hk => ?_⟩
      · rcases h2 with h2 | ⟨k, hk, e⟩
        · have h2 : min b0 (F a) = m := Option.some.inj h2
          rcases Int.le_total b0 (F a) with z | z
          · rw [Int.min_eq_left z] at h2; exact .inl (by rw [h2])
          · rw [Int.min_eq_right z] at h2; exact .inr ⟨a, List.mem_cons_self, h2⟩
        · exact .inr ⟨k, List.mem_cons_of_mem _ hk, e⟩
      · rcases List.mem_cons.mp hk with rfl | hk
        · omega
        · exact h4 k hk
theorem apart_le {g k : Nat → Int} {B : Nat} : ∀ n, (∀ v, v < n → (g v - k v).natAbs ≤ B) → apart n g k ≤ n * B
  | 0, _ => by show 0 ≤ _; omega
  | n + 1, h => by
    have := apart_le n fun v hv => h v (by omega)
    have := h n (by omega)
    rw [apart_succ, Nat.add_mul]; omega
theorem apart_ge {g k : Nat → Int} {v : Nat} : ∀ n, v < n → (g v - k v).natAbs ≤ apart n g k
  | 0, h => by omega
  | n + 1, h => by
    rw [apart_succ]
    by_cases z : v = n
    · subst z; omega
    · have := apart_ge (g := g) (k := k) n (show v < n by omega); omega
theorem cdB_dst {W : Web} (h : W.Ok) {c c' : List Int} {g hv : Nat → Int} (G : Lift W c g) (L : Lift W c' hv) (g0 : 0 ≤ g 0 ∧ g 0 ≤ 2) (h0 : 0 ≤ hv 0 ∧ hv 0 ≤ 2) {m : Nat} (D : Dst W g c' m) : cdB W g hv 81 = some (m : Int) := by
  have hp := h.pre.pos
  have h6 := h.pre.few
  have far : ∀ k : Nat, cdK g hv k = true → ∃ mk : Nat, Far W g c' mk ∧ cdF W g hv k = (mk : Int) ∧ apart W.n g (fun v => hv v + ((k : Int) - 40) * 3) = 2 * mk := fun k hk => by
    unfold cdK at hk
    have hk := of_decide_eq_true hk
    have hpar : ∀ v, v < W.n → (g v - (hv v + ((k : Int) - 40) * 3)) % 2 = 0 := fun v hvn => by
      have a := G.lay.par h _ v hvn rfl
      have b := L.lay.par h _ v hvn rfl
      omega
    obtain ⟨mk, e⟩ := apart_even W.n hpar (k := fun v => hv v + ((k : Int) - 40) * 3)
    refine ⟨mk, ⟨_, ⟨fun u v a => by have := L.lay u v a; omega, fun v hvn => by have := L.mod v hvn; omega⟩, hpar, e⟩, ?_, e⟩
    rw [cdF_apart, e]; omega
  obtain ⟨k0, hk0, hk0m, hk0l⟩ : ∃ k0 : Nat, cdK g hv k0 = true ∧ 40 ≤ k0 ∧ k0 ≤ 41 := by
    rcases (show (hv 0 - g 0) % 2 = 0 ∨ (hv 0 - g 0) % 2 = 1 by omega) with z | z
    · exact ⟨40, decide_eq_true (by omega), by omega, by omega⟩
    · exact ⟨41, decide_eq_true (by omega), by omega, by omega⟩
  have hmem0 : k0 ∈ (List.range 81).filter (cdK g hv) := List.mem_filter.mpr ⟨List.mem_range.mpr (by omega), hk0⟩
  obtain ⟨r, e1, e2, _, e4⟩ := fold_min (F := cdF W g hv) ((List.range 81).filter (cdK g hv)) none (fun _ _ => trivial) (.inl (fun z => by rw [z] at hmem0; cases hmem0))
  have e0 : cdB W g hv 81 = some r := e1
  rw [e0]
  congr 1
  have ge : (m : Int) ≤ r := by
    rcases e2 with e2 | ⟨k, hk, e2⟩
    · cases e2
    · obtain ⟨mk, F, e3, _⟩ := far k (List.mem_filter.mp hk).2
      have := D.2 _ F
      omega
  have le : r ≤ (m : Int) := by
    obtain ⟨⟨q, Q, qp, qa⟩, hmin⟩ := D
    have q0 := Q.mod 0 hp
    have l0 := L.mod 0 hp
    obtain ⟨j, hj⟩ : ∃ j : Int, q 0 = hv 0 + j * 3 := ⟨(q 0 - hv 0) / 3, by omega⟩
    have qe : ∀ v, v < W.n → q v = hv v + j * 3 := fun v hvn => lift_uniq h Q.lay (g' := fun v => hv v + j * 3) (fun u v a => by have := L.lay u v a; show hv v + j * 3 - (hv u + j * 3) = 1 ∨ hv v + j * 3 - (hv u + j * 3) = -1; omega) hj (fun v hvn => by have a := Q.mod v hvn; have b := L.mod v hvn; show q v % 3 = (hv v + j * 3) % 3; omega) _ v hvn rfl
    by_cases hw : -40 ≤ j ∧ j ≤ 40
    · have hk : cdK g hv (j + 40).toNat = true := decide_eq_true (by have := qp 0 hp; omega)
      have hmem : (j + 40).toNat ∈ (List.range 81).filter (cdK g hv) := List.mem_filter.mpr ⟨List.mem_range.mpr (by omega), hk⟩
      have h4 := e4 _ hmem
      obtain ⟨mk, F, e3, ea⟩ := far _ hk
      have : apart W.n g q = apart W.n g (fun v => hv v + (((j + 40).toNat : Int) - 40) * 3) := apart_congr _ fun v hvn => by
        rw [qe v hvn]
        congr 2
        omega
      omega
    · exfalso
      have b0 := apart_ge (g := g) (k := q) W.n hp
      obtain ⟨mk, F, e3, ea⟩ := far k0 hk0
      have hle := hmin _ F
      have up : apart W.n g (fun v => hv v + ((k0 : Int) - 40) * 3) ≤ W.n * 17 := apart_le _ fun v hvn => by
        have a := G.lay.near h hp _ v hvn rfl
        have b := L.lay.near h hp _ v hvn rfl
        have s := (h.dist hp).small h.pre hvn
        omega
      have : W.n * 17 ≤ 102 := by omega
      omega
  omega
end M

set_option Elab.async false
set_option linter.all false
set_option maxHeartbeats 4000000
/-! M18: turns under recolorings; laid colorings by their turns. -/
namespace M
open PySem G L2
theorem rec_turns {W : Web} (h : W.Ok) {c d : List Int} (C : Col W c) {f : Nat} (hf : f < W.n) (e : recO W c f = some d) : Col W d ∧ ∀ r ∈ W.rnds, trn d r = trn c r := by
  obtain ⟨x, k, rfl⟩ := (rec_some h.pre).mp e
  have Cd := (k.col h.pre C hf).1
  exact ⟨Cd, h.trn_rec C Cd hf ⟨fun u hu => by rw [atc_set (by rw [C.len]; exact hf), if_neg hu], k.all⟩⟩
theorem laid_iff {W : Web} (h : W.Ok) {c : List Int} (C : Col W c) : (W.rnds.all fun r => decide (trn c r = 0)) = true ↔ Laid W c := by
  rw [List.all_eq_true]
  constructor
  · intro a
    exact h.laid_trn C fun r hr => of_decide_eq_true (a r hr)
  · intro L r hr
    exact decide_eq_true (h.trn_laid L r hr)
end M

set_option Elab.async false
set_option linter.all false
set_option maxHeartbeats 4000000
/-! M19: the rims of the law. -/
namespace M
open PySem G L2
def Near (W : Web) (c d : List Int) : Prop := ∃ f, f < W.n ∧ recO W c f = some d
theorem Near.symm {W : Web} (h : W.Ok) {c d : List Int} (C : Col W c) (N : Near W c d) : Near W d c := by
  obtain ⟨f, hf, e⟩ := N
  obtain ⟨x, k, rfl⟩ := (rec_some h.pre).mp e
  obtain ⟨bk, eb⟩ := k.back h.pre C hf
  exact ⟨f, hf, (rec_some h.pre).mpr ⟨x, bk, eb.symm⟩⟩
theorem Near.col {W : Web} (h : W.Ok) {c d : List Int} (C : Col W c) (N : Near W c d) : Col W d := by
  obtain ⟨f, hf, e⟩ := N
  exact (rec_turns h C hf e).1
theorem Far.laid {W : Web} {g : Nat → Int} {c : List Int} {m : Nat} (F : Far W g c m) : Laid W c := by
  obtain ⟨k, L, _⟩ := F
  exact ⟨k, L⟩
theorem Near.dst {W : Web} (h : W.Ok) {g : Nat → Int} (G : Lay W g) {c d : List Int} (C : Col W c) (N : Near W c d) {m : Nat} (D : Dst W g c m) : ∃ m', Dst W g d m' ∧ m' ≤ m + 1 := by
  obtain ⟨f, hf, e⟩ := N
  obtain ⟨m1, F, le⟩ := far_step h C hf e D.1
  obtain ⟨m2, D2⟩ := dst_ex h G F.laid
  exact ⟨m2, D2, by have := D2.2 _ F; omega⟩
end M

set_option Elab.async false
set_option linter.all false
set_option maxHeartbeats 4000000
/-! M20: rim by rim. -/
namespace M
open PySem G L2
abbrev FL := List (List Int × Nat)
structure RimB (W : Web) (g : Nat → Int) (F : FL) (rim : List (List Int)) (k : Nat) : Prop where
  nd : (F.map (·.1)).Nodup
  sound : ∀ p ∈ F, Col W p.1 ∧ Dst W g p.1 p.2 ∧ p.2 ≤ k
  full : ∀ c m, Col W c → Dst W g c m → m ≤ k → (c, m) ∈ F
  rimIn : ∀ c ∈ rim, Col W c ∧ Dst W g c k
  rimAll : ∀ c, Col W c → Dst W g c k → c ∈ rim
structure RimJ (W : Web) (g : Nat → Int) (F : FL) (later : List (List Int)) (k : Nat) (seen : List Int → Prop) : Prop where
  nd : (F.map (·.1)).Nodup
  sound : ∀ p ∈ F, Col W p.1 ∧ Dst W g p.1 p.2 ∧ (p.2 ≤ k ∨ (p.2 = k + 1 ∧ p.1 ∈ later))
  full : ∀ c m, Col W c → Dst W g c m → m ≤ k → (c, m) ∈ F
  latIn : ∀ c ∈ later, Col W c ∧ Dst W g c (k + 1)
  done : ∀ d, seen d → d ∈ F.map (·.1)
theorem RimB.into {W : Web} {g : Nat → Int} {F : FL} {rim : List (List Int)} {k : Nat} (h : RimB W g F rim k) : RimJ W g F [] k fun _ => False :=
  ⟨h.nd, fun p hp => ⟨(h.sound p hp).1, (h.sound p hp).2.1, .inl (h.sound p hp).2.2⟩, h.full, fun c hc => (by cases hc), fun d hd => hd.elim⟩
theorem RimJ.skip {W : Web} {g : Nat → Int} {F : FL} {later : List (List Int)} {k : Nat} {seen seen' : List Int → Prop} (h : RimJ W g F later k seen) (hs : ∀ d, seen' d → seen d ∨ d ∈ F.map (·.1)) : RimJ W g F later k seen' :=
  ⟨h.nd, h.sound, h.full, h.latIn, fun d hd => (hs d hd).elim (h.done d) id⟩
theorem RimJ.add {W : Web} (hW : W.Ok) {g : Nat → Int} (G : Lay W g) {F : FL} {later : List (List Int)} {k : Nat} {seen seen' : List Int → Prop} (h : RimJ W g F later k seen) {c d : List Int} (C : Col W c) (D : Dst W g c k) (N : Near W c d) (hn : d ∉ F.map (·.1)) (hs : ∀ x, seen' x → seen x ∨ x = d) : RimJ W g (F ++ [(d, k + 1)]) (later ++ [d]) k seen' := by
  have Cd := N.col hW C
  obtain ⟨m, Dm, hm⟩ := N.dst hW G C D
  have hk : m = k + 1 := by
    rcases Nat.lt_or_ge k m with z | z
    · omega
    · exact absurd (List.mem_map.mpr ⟨_, h.full d m Cd Dm z, rfl⟩) hn
  subst hk
  refine ⟨?_, fun p hp => ?_, fun x m a b e => List.mem_append_left _ (h.full x m a b e), fun x hx => ?_, fun x hx => ?_⟩
  · rw [List.map_append]
    exact List.nodup_append.mpr ⟨h.nd, by simp, fun a ha b hb e => hn (by simp at hb; rw [← hb, ← e]; exact ha)⟩
  · rcases List.mem_append.mp hp with hp | hp
    · obtain ⟨a, b, e⟩ := h.sound p hp
      exact ⟨a, b, e.imp id fun q => ⟨q.1, List.mem_append_left _ q.2⟩⟩
    · rw [List.mem_singleton.mp hp]
      exact ⟨Cd, Dm, .inr ⟨rfl, by simp⟩⟩
  · rcases List.mem_append.mp hx with hx | hx
    · exact h.latIn x hx
    · rw [List.mem_singleton.mp hx]; exact ⟨Cd, Dm⟩
  · rw [List.map_append]
    rcases hs x hx with q | q
    · exact List.mem_append_left _ (h.done x q)
    · exact List.mem_append_right _ (by simp [q])
theorem RimJ.out {W : Web} (hW : W.Ok) (h2 : 2 ≤ W.n) {g : Nat → Int} (G : Lay W g) {F : FL} {rim later : List (List Int)} {k : Nat} (hr : ∀ c, Col W c → Dst W g c k → c ∈ rim) {seen : List Int → Prop} (h : RimJ W g F later k seen) (hs : ∀ c ∈ rim, ∀ d, Near W c d → seen d) : RimB W g F later (k + 1) := by
  have key : ∀ c, Col W c → Dst W g c (k + 1) → (c, k + 1) ∈ F ∧ c ∈ later := fun c C D => by
    obtain ⟨f, d, hf, e, Dd⟩ := dst_down hW h2 G C D
    have N : Near W c d := ⟨f, hf, e⟩
    have hc := h.done c (hs d (hr d (N.col hW C) Dd) c (N.symm hW C))
    obtain ⟨p, hp, hpc⟩ := List.mem_map.mp hc
    obtain ⟨a, b, e⟩ := h.sound p hp
    have hpc : p.1 = c := hpc
    rw [hpc] at b
    have := b.uniq D
    rcases e with e | e
    · omega
    · refine ⟨?_, by rw [← hpc]; exact e.2⟩
      rw [← hpc, ← this]; exact hp
  refine ⟨h.nd, fun p hp => ?_, fun c m C D hm => ?_, h.latIn, fun c C D => (key c C D).2⟩
  · obtain ⟨a, b, e⟩ := h.sound p hp
    exact ⟨a, b, by omega⟩
  · rcases Nat.lt_or_ge k m with z | z
    · have : m = k + 1 := by omega
      subst this
      exact (key c C D).1
    · exact h.full c m C D z
theorem RimB.all {W : Web} (hW : W.Ok) (h2 : 2 ≤ W.n) {g : Nat → Int} (G : Lay W g) {F : FL} {k : Nat} (h : RimB W g F [] k) {c : List Int} (C : Col W c) {m : Nat} (D : Dst W g c m) : (c, m) ∈ F := by
  have : ∀ j c, Col W c → Dst W g c (k + j) → False := fun j => by
    induction j with
    | zero => intro c C D; have := h.rimAll c C D; cases this
    | succ j ih =>
      intro c C D
      obtain ⟨f, d, hf, e, Dd⟩ := dst_down hW h2 G C (m := k + j) D
      exact ih d (Near.col hW C ⟨f, hf, e⟩) Dd
  rcases Nat.lt_or_ge m k with z | z
  · exact h.full c m C D (by omega)
  · exact (this (m - k) c C (by rw [show k + (m - k) = m by omega]; exact D)).elim
end M

set_option Elab.async false
set_option linter.all false
set_option maxHeartbeats 4000000
/-! M21: the law's rims for any number of fields; all colorings, the laid ones, the tables of the law. -/
namespace M
open PySem G L2
structure RX (W : Web) (g : Nat → Int) (F : FL) (rim : List (List Int)) (k : Nat) : Prop where
  nd : (F.map (·.1)).Nodup
  col : ∀ p ∈ F, Col W p.1
  rims : ∀ c ∈ rim, Col W c
  few : rim.length ≤ F.length
  full : 2 ≤ W.n → RimB W g F rim k
structure RY (W : Web) (g : Nat → Int) (F : FL) (later : List (List Int)) (k : Nat) (seen : List Int → Prop) : Prop where
  nd : (F.map (·.1)).Nodup
  col : ∀ p ∈ F, Col W p.1
  lat : ∀ c ∈ later, Col W c
  few : later.length ≤ F.length
  full : 2 ≤ W.n → RimJ W g F later k seen
theorem RX.start {W : Web} {g : Nat → Int} {c0 : List Int} (L : Lift W c0 g) (C : Col W c0) : RX W g [(c0, 0)] [c0] 0 :=
  ⟨by simp, fun p hp => by rw [List.mem_singleton.mp hp]; exact C, fun c hc => by rw [List.mem_singleton.mp hc]; exact C, by simp, fun _ => by
    have z : ∀ c, Col W c → (Dst W g c 0 ↔ c = c0) := fun c Cc => dst_zero L C.len Cc
    refine ⟨by simp, fun p hp => ?_, fun c m Cc D hm => ?_, fun c hc => ?_, fun c Cc D => ?_⟩
    · rw [List.mem_singleton.mp hp]; exact ⟨C, (z _ C).mpr rfl, Nat.le_refl _⟩
    · have : m = 0 := by omega
      subst this
      rw [(z _ Cc).mp D]; simp
    · rw [List.mem_singleton.mp hc]; exact ⟨C, (z _ C).mpr rfl⟩
    · rw [(z _ Cc).mp D]; simp⟩
theorem RX.into {W : Web} {g : Nat → Int} {F : FL} {rim : List (List Int)} {k : Nat} (h : RX W g F rim k) : RY W g F [] k fun _ => False :=
  ⟨h.nd, h.col, fun c hc => (by cases hc), by simp, fun n => (h.full n).into⟩
theorem RY.skip {W : Web} {g : Nat → Int} {F : FL} {later : List (List Int)} {k : Nat} {seen seen' : List Int → Prop} (h : RY W g F later k seen) (hs : ∀ d, seen' d → seen d ∨ d ∈ F.map (·.1)) : RY W g F later k seen' :=
  ⟨h.nd, h.col, h.lat, h.few, fun n => (h.full n).skip hs⟩
theorem RY.add {W : Web} (hW : W.Ok) {g : Nat → Int} (G : Lay W g) {F : FL} {later : List (List Int)} {k : Nat} {seen seen' : List Int → Prop} (h : RY W g F later k seen) {c d : List Int} (C : Col W c) (D : 2 ≤ W.n → Dst W g c k) (N : Near W c d) (hn : d ∉ F.map (·.1)) (hs : ∀ x, seen' x → seen x ∨ x = d) : RY W g (F ++ [(d, k + 1)]) (later ++ [d]) k seen' := by
  have Cd := N.col hW C
  refine ⟨?_, fun p hp => ?_, fun x hx => ?_, ?_, fun n => (h.full n).add hW G C (D n) N hn hs⟩
  · rw [List.map_append]
    exact List.nodup_append.mpr ⟨h.nd, by simp, fun a ha b hb e => hn (by simp at hb; rw [← hb, ← e]; exact ha)⟩
  · rcases List.mem_append.mp hp with hp | hp
    · exact h.col p hp
    · rw [List.mem_singleton.mp hp]; exact Cd
  · rcases List.mem_append.mp hx with hx | hx
    · exact h.lat x hx
    · rw [List.mem_singleton.mp hx]; exact Cd
  · have := h.few; simp; omega
theorem RY.out {W : Web} (hW : W.Ok) {g : Nat → Int} (G : Lay W g) {F0 F : FL} {rim later : List (List Int)} {k : Nat} (hr : RX W g F0 rim k) {seen : List Int → Prop} (h : RY W g F later k seen) (hs : ∀ c ∈ rim, ∀ d, Near W c d → seen d) : RX W g F later (k + 1) :=
  ⟨h.nd, h.col, h.lat, h.few, fun n => (h.full n).out hW n G (hr.full n).rimAll hs⟩
/-! ### all colorings -/
theorem candC_three {W : Web} (k : Nat) (f : Nat → Int) : (candC W k f).length ≤ 3 := by
  unfold candC
  refine Nat.le_trans (List.length_filter_le _ _) ?_
  simp
theorem all_few {W : Web} (h : W.Pre) {k : Nat} (hk : k ≤ W.n) : (parts (candC W) k).length ≤ 729 := by
  refine Nat.le_trans (parts_few candC_three k) ?_
  have : k ≤ 6 := Nat.le_trans hk h.few
  exact Nat.le_trans (Nat.pow_le_pow_right (by decide) this) (by decide)
theorem RX.small {W : Web} (h : W.Pre) {g : Nat → Int} {F : FL} {rim : List (List Int)} {k : Nat} (r : RX W g F rim k) : F.length ≤ 729 := by
  have := r.nd.length_le_of_subset (l₂ := parts (candC W) W.n) fun c hc => by
    obtain ⟨p, hp, rfl⟩ := List.mem_map.mp hc
    exact (all_col h).mpr (r.col p hp)
  rw [List.length_map] at this
  exact Nat.le_trans this (all_few h (Nat.le_refl _))
theorem RY.small {W : Web} (h : W.Pre) {g : Nat → Int} {F : FL} {rim : List (List Int)} {k : Nat} {seen : List Int → Prop} (r : RY W g F rim k seen) : F.length ≤ 729 := by
  have := r.nd.length_le_of_subset (l₂ := parts (candC W) W.n) fun c hc => by
    obtain ⟨p, hp, rfl⟩ := List.mem_map.mp hc
    exact (all_col h).mpr (r.col p hp)
  rw [List.length_map] at this
  exact Nat.le_trans this (all_few h (Nat.le_refl _))
/-- the laid ones, in order -/
noncomputable def laidL (W : Web) : List (List Int) := (parts (candC W) W.n).filter fun c => W.rnds.all fun r => decide (trn c r = 0)
theorem all_sorted {W : Web} : (parts (candC W) W.n).Pairwise fun x y => HT.lexLt x y = true := parts_sorted candC_sorted _
theorem laidL_sorted {W : Web} : (laidL W).Pairwise fun x y => HT.lexLt x y = true := List.Pairwise.filter _ all_sorted
theorem mem_laidL {W : Web} (h : W.Ok) {c : List Int} : c ∈ laidL W ↔ Col W c ∧ Laid W c := by
  unfold laidL
  rw [List.mem_filter, all_col h.pre]
  constructor
  · rintro ⟨a, b⟩; exact ⟨a, (laid_iff h a).mp b⟩
  · rintro ⟨a, b⟩; exact ⟨a, (laid_iff h a).mpr b⟩
theorem laidL_len {W : Web} (h : W.Ok) {lo hi : List Int} (hlo : ∀ v, v < W.n → atc lo v = -(W.dist 0 v : Int)) (hhi : ∀ v, v < W.n → atc hi v = (W.dist 0 v : Int)) : (laidL W).length = 3 * (parts (cand W lo hi) W.n).length :=
  laid_count h hlo hhi (sorted_nodup laidL_sorted) fun c => mem_laidL h
/-- a lift that begins with the color itself -/
theorem lift0 {W : Web} (hp : 0 < W.n) {c : List Int} {h : Nat → Int} (L : Lift W c h) : ∃ h', Lift W c h' ∧ h' 0 = atc c 0 := by
  refine ⟨_, L.add (-(h 0 / 3)), ?_⟩
  have := L.mod 0 hp
  show h 0 + -(h 0 / 3) * 3 = _
  omega
/-- what was found is what is laid -/
theorem RX.laid {W : Web} (h : W.Ok) (h2 : 2 ≤ W.n) {g : Nat → Int} (G : Lay W g) {F : FL} {k : Nat} (r : RX W g F [] k) : (F.map (·.1)).Perm (laidL W) := by
  refine (List.perm_ext_iff_of_nodup r.nd (sorted_nodup laidL_sorted)).mpr fun c => ?_
  rw [mem_laidL h]
  constructor
  · intro hc
    obtain ⟨p, hp, rfl⟩ := List.mem_map.mp hc
    obtain ⟨a, b, _⟩ := (r.full h2).sound p hp
    exact ⟨a, b.1.laid⟩
  · rintro ⟨C, L⟩
    obtain ⟨m, D⟩ := dst_ex h G L
    exact List.mem_map.mpr ⟨_, (r.full h2).all h h2 G C D, rfl⟩
/-- .. at its distance -/
theorem RX.dist {W : Web} (h : W.Ok) (h2 : 2 ≤ W.n) {c0 : List Int} {g : Nat → Int} (L0 : Lift W c0 g) (C0 : Col W c0) (g0 : g 0 = atc c0 0) {F : FL} {k : Nat} (r : RX W g F [] k) {c : List Int} (C : Col W c) {hv : Nat → Int} (L : Lift W c hv) (h0 : hv 0 = atc c 0) : ∃ m, (c, m) ∈ F ∧ cdB W g hv 81 = some (m : Int) := by
  obtain ⟨m, D⟩ := dst_ex h L0.lay ⟨hv, L⟩
  have a := C0.at h.pre.pos
  have b := C.at h.pre.pos
  exact ⟨m, (r.full h2).all h h2 L0.lay C D, cdB_dst h L0 L (by omega) (by omega) D⟩
/-! ### the dict of what was found -/
def FI (F : FL) : List (List Int × Int) := F.map fun p => (p.1, (p.2 : Int))
theorem FI_keys {F : FL} : (FI F).map (·.1) = F.map (·.1) := by unfold FI; rw [List.map_map]; rfl
theorem FI_in {F : FL} {c : List Int} {m : Nat} (h : (c, m) ∈ F) : (c, (m : Int)) ∈ FI F := List.mem_map.mpr ⟨_, h, rfl⟩
theorem val_in {c : List Int} {m : Int} : ∀ {D : List (List Int × Int)}, (D.map (·.1)).Nodup → (c, m) ∈ D → valV (D.map kE) (kT c) = some (.int m)
  | p :: r, hn, h => by
    rw [List.map_cons, List.nodup_cons] at hn
    rcases List.mem_cons.mp h with rfl | h
    · rw [List.map_cons]
      exact valV_pos (p := kE (c, m)) rfl
    · have ne : p.1 ≠ c := fun e => hn.1 (e ▸ List.mem_map.mpr ⟨_, h, rfl⟩)
      rw [List.map_cons, valV_neg (p := kE p) (fun z => ne (kT_in.mp z))]
      exact val_in hn.2 h
theorem val_key {c : List Int} {F : FL} (hn : (F.map (·.1)).Nodup) : (valV ((FI F).map kE) (kT c)).isSome = decide (c ∈ F.map (·.1)) := by
  by_cases h : c ∈ F.map (·.1)
  · obtain ⟨p, hp, rfl⟩ := List.mem_map.mp h
    rw [val_in (by rw [FI_keys]; exact hn) (FI_in (m := p.2) hp), decide_eq_true h]; rfl
  · rw [(addI_new (m := 0) (by rw [FI_keys]; exact h)).2.2, decide_eq_false h]; rfl
theorem put_new {c : List Int} {m : Nat} {F : FL} (h : c ∉ F.map (·.1)) : putK ((FI F).map kE) (kT c) (.int (m : Int)) = (FI (F ++ [(c, m)])).map kE := by
  rw [putK_new _ (addI_new (m := 0) (by rw [FI_keys]; exact h)).2.2]
  unfold FI
  rw [List.map_append, List.map_append]; rfl
end M

set_option Elab.async false
set_option linter.all false
set_option maxRecDepth 100000
set_option maxHeartbeats 8000000
namespace T
open PySem PySem.Spec PyProof.Rows L2 RZ G M GX
open Evl (Ex EvT et_or et_not et_and)
section
variable {P : Program} {w : World} {K : PySem.W.Frag} {mg : Str → Option Value} {base : Heap} {f : Addr} {fd : FuncData}
def sp_law (K : PySem.W.Frag) : Sp := fun vs H Q _ => ∃ (a : Addr) (ns : List Int), vs = [.ref a] ∧ ns.length ≤ 63 ∧ SqL K H a (ns.map V.int) ∧ ∀ v H', v = .bl true → Q v H'
/-- a comprehension over a tuple that is made with effects -/
theorem e_lcE {te te' : TE} {g : TG} {tt : TT} {vs : List Nat} {σ : L2.St} {H : Hp} {Q : VK} (h : te σ H fun v H1 => tLc (iTup K (tC v)) g tt te' vs σ H1 Q) : tLc (iTup K te) g tt te' vs σ H Q := h
theorem c_cons1 {te : TE} {tr : TA} {σ : L2.St} {H : Hp} {Q : List V → Hp → Prop} (h : te σ H fun v H1 => tr σ H1 fun vs H2 => Q (v :: vs) H2) : tCons te tr σ H Q := h
theorem c_cb {r : List V → Hp → VK → Prop} {ta : TA} {σ : L2.St} {H : Hp} {Q : VK} (h : ta σ H fun vs H1 => r vs H1 Q) : tCB r ta σ H Q := h
theorem s_forE {te : TE} {g : TG} {tu : TS} {D : Ends} {σ : L2.St} {H : Hp} (h : te σ H fun v H1 => tFor (iList K (tC v)) g tu D σ H1) : tFor (iList K te) g tu D σ H := h
theorem s_retE {te te2 tb : TE} {g : TG} {tt : TT} {vs : List Nat} {r : R2} {D : Ends} {σ : L2.St} {H : Hp} (h : te σ H fun v H1 => tRet (tOp r (tLc (iList K (tC v)) g tt te2 vs) tb) D σ H1) : tRet (tOp r (tLc (iList K te) g tt te2 vs) tb) D σ H := h
/-- sorted(d), d's keys tuples of ints of one length -/
theorem e_sortedDT {ta : TE} {σ : L2.St} {H : Hp} {p : Addr} {F : FL} {n : Nat} {L : List (List Int)} (ha : EvP ta σ H fun w _ => w = .ref p) (hp : H p = some (.dT ((FI F).map kE))) (hn : 1 ≤ n) (hl : ∀ q ∈ F, q.1.length = n) (hL : L.Pairwise fun x y => HT.lexLt x y = true) (hP : (F.map (·.1)).Perm L) :
    ED [] (tCB rSortDT (tCons ta tNil)) σ H (.list (L.map dC)) := fun H1 e Q q => ha H1 e _ fun w H2 e2 hw => by
  subst hw
  refine ⟨p, (FI F).map fun q => (q.1, V.int q.2), n, rfl, by rw [(e.trans e2) _ _ hp, List.map_map]; rfl, hn, fun q hq => ?_, fun L' bs' p' h1 h2 h3 h4 => ?_⟩
  · obtain ⟨q1, hq1, rfl⟩ := List.mem_map.mp hq
    obtain ⟨q2, hq2, rfl⟩ := List.mem_map.mp hq1
    exact hl q2 hq2
  · have hk : ((FI F).map fun q => (q.1, V.int q.2)).map (·.1) = F.map (·.1) := by rw [List.map_map, ← FI_keys]; rfl
    rw [hk] at h1
    have : L' = L := sorted_uniq hL h2 (h1.trans hP)
    subst this
    exact q _ _ (e2.trans (Ex.new h4)) (rl_new (ms := []) h4 Live.nil (rp_of_tups h3))
/-- what is put at a field -/
def lng (W : Web) (k : Nat) (c : List Int) : List (List Int) := (candC W k (atc c)).map fun x => c ++ [x]
theorem lng_few {W : Web} {k : Nat} : ∀ l : List (List Int), (l.flatMap (lng W k)).length ≤ l.length * 3
  | [] => by simp
  | a :: l => by
    have := lng_few (W := W) (k := k) l
    have h3 := candC_three (W := W) k (atc a)
    rw [List.flatMap_cons, List.length_append, List.length_cons]
    unfold lng
    unfold lng at this
    rw [List.length_map]
    omega
theorem lng_eq {W : Web} {k : Nat} {c : List Int} : ((List.range 3).filter fun (x : Nat) => !decide ((x : Int) ∈ (W.ahd k).map (atc c))).map (fun (x : Nat) => dC (c ++ [(x : Int)])) = (lng W k c).map dC := by
  unfold lng candC
  rw [List.filter_map, List.map_map, List.map_map]
  congr 1
  refine List.filter_congr fun x _ => ?_
  show (!decide ((x : Int) ∈ (W.ahd k).map (atc c))) = !(W.ahd k).any fun u => decide (atc c u = (x : Int))
  congr 1
  rw [Bool.eq_iff_iff, decide_eq_true_iff, List.mem_map, List.any_eq_true]
  exact ⟨fun ⟨u, h1, h2⟩ => ⟨u, h1, decide_eq_true h2⟩, fun ⟨u, h1, h2⟩ => ⟨u, h1, of_decide_eq_true h2⟩⟩
theorem e_cst {v : V} {d : PyData} {ms : List Addr} {σ : L2.St} {H : Hp} (r : Rp (cut H ms) v d) : ED ms (tC v) σ H d := fun H1 e Q q => q v H1 (Ex.refl _) (rp_keep e r)
abbrev s_law : Stmt := topS 69
theorem sc_law : FnScope ["_law_script", "_law_row", "_law_web_here", "_law_size", "_law_start", "_law_found", "_law_rim", "_law_many", "_law_later", "_law_here", "_law_there", "_law_every", "_law_field", "_law_longer", "_law_told", "_law_shut", "_law_laid", "_law_goal", "_law_near", "_law_height", "_law_color"] ["_law_script"] (defScope s_law) := ⟨rfl, rfl, rfl, by decide +kernel, rfl, by decide +kernel, by decide +kernel⟩
theorem ok_law (F : Fun K "law" "law" s_law f fd) (b : Blt mg) (c__law_web : Dfn P w K mg base 4 "_law_web" ["_law_row", "_law_most"] (sp_webof K)) (c__law_laying : Dfn P w K mg base 4 "_law_laying" ["_law_row", "_law_web_here", "_law_height"] (sp_laying2 K)) (c__law_taken : Dfn P w K mg base 1 "_law_taken" ["_law_row", "_law_many"] (sp_taken K)) (c__law_pick : Dfn P w K mg base 2 "_law_pick" ["_law_row", "_law_things"] (sp_pick K))
    (c_near_colorings : Dfn P w K mg base 7 "near_colorings" ["web", "coloring"] sp_near) (c__law_nears : Dfn P w K mg base 1 "_law_nears" ["_law_web_here"] sp_nears) (c_is_laid : Dfn P w K mg base 7 "is_laid" ["web", "coloring"] sp_is_laid) (c__law_alike : Dfn P w K mg base 2 "_law_alike" ["_law_found", "_law_due"] sp_alikeI) (c__law_alikeT : Dfn P w K mg base 3 "_law_alike" ["_law_found", "_law_due"] sp_alikeT)
    (c_count_colorings : Dfn P w K mg base 6 "count_colorings" ["web"] (sp_num fun W => (every W).length)) (c_count_laid : Dfn P w K mg base 8 "count_laid" ["web"] (sp_web fun W d => d = dN (3 * layN W))) (c_laid_share : Dfn P w K mg base 8 "laid_share" ["web"] sp_share) (c__law_lowered : Dfn P w K mg base 2 "_law_lowered" ["_law_above", "_law_low"] sp_lowered) (c_color_distance : Dfn P w K mg base 8 "color_distance" ["web", "one", "other"] sp_cdist) (c_turns : Dfn P w K mg base 7 "turns" ["web", "coloring"] sp_turns) :
    FnOk P w K mg base CX0 9 f fd ["_law_script"] (sp_law K) := by
  refine F.ok sc_law (fun vs H Q E h => ?_) (fun cdv A outer s H vs Q E hr h => ?_)
  · obtain ⟨a, ns, rfl, _⟩ := h; rfl
  · obtain ⟨a, ns, rfl, hns, hS, k⟩ := h
    have nd := sc_law.nd
    refine ⟨_, pss_cons (ps_set (i := 1) nd rfl (Or.inl rfl) (pe_lst (pa_cons (pv 0) (pa_cons (pe_int) (pa_cons (pe_int) (pa_cons (pe_int) pa_nil)))))) (pss_cons (ps_set (i := 2) nd rfl (Or.inr rfl) (pe_own c__law_web hr (pa_cons (pv 1) (pa_cons (pe_int) pa_nil)))) (pss_cons (ps_par (i := 3) (j := 4) rfl nd rfl rfl (by decide) rfl rfl (pa_cons (pe_ix (ix_tupK K rfl) (pv 2) (pe_int) (fun _ _ => rfl)) (pa_cons (pe_callTy (call_tupleK K rfl) (by rfl) b.tuple (by decide +kernel) (pa_cons (pe_lc (own := [("_law_height", 19)]) rfl nd (pi_tupK K rfl (pe_own c__law_laying hr (pa_cons (pv 1) (pa_cons (pv 2) (pa_cons (pe_own c__law_taken hr (pa_cons (pv 1) (pa_cons (pe_int) pa_nil))) pa_nil))))) (blkOk_by (own := [("_law_height", 19)]) (N := ["_law_script", "_law_row", "_law_web_here", "_law_size", "_law_start", "_law_found", "_law_rim", "_law_many", "_law_later", "_law_here", "_law_there", "_law_every", "_law_field", "_law_longer", "_law_told", "_law_shut", "_law_laid", "_law_goal", "_law_near", "_law_height", "_law_color"]) (sc := (defScope s_law)) (by decide +kernel)) (fun _ _ _ _ _ => pg_name (i := 19) nd rfl (Or.inl rfl)) (fun _ _ _ _ _ => pts_nil) (fun _ _ _ _ _ => pe_op op_mod (pv 19) (pe_int))) pa_nil)) pa_nil)) (by rfl)) (pss_cons (ps_par3 (i := 5) (j := 6) (l := 7) rfl nd rfl rfl rfl (by decide) (by decide) (by decide) rfl rfl rfl (pa_cons (pe_dispT (hu_of hr) (pv 4) (pe_int)) (pa_cons (pe_lst (pa_cons (pv 4) pa_nil)) (pa_cons (pe_int) pa_nil))) (by rfl)) (pss_cons (ps_while PassesOwn.never (pt_cmpR (op_neDK K rfl hr.units) (pv 6) (pe_lst pa_nil) (nomark _)) (pss_cons (ps_par (i := 7) (j := 8) rfl nd rfl rfl (by decide) rfl rfl (pa_cons (pe_op op_add (pv 7) (pe_int)) (pa_cons (pe_lst pa_nil) pa_nil)) (by rfl)) (pss_cons (ps_for PassesOwn.never rfl (pi_listK K rfl (pv 6)) (pg_name (i := 9) nd rfl (Or.inl rfl)) (pss_one (ps_for PassesOwn.never rfl (pi_listK K rfl (pe_own c_near_colorings hr (pa_cons (pv 2) (pa_cons (pv 9) pa_nil)))) (pg_name (i := 10) nd rfl (Or.inr rfl)) (pss_one (ps_if (pt_cmp (pc_dnotin (hu_of hr) (pv 10) (pv 5))) (pss_cons (ps_dput (hu_of hr) (pv 5) (pv 10) (pv 7) rfl) (pss_one (ps_expr (pe_bm PySem.F.plainAttrs_list PySem.F.slot_list_append PySem.F.type_list_append mt_append (pv 8) (pa_cons (pv 10) pa_nil))))) (pss_nil)))))) (pss_one (ps_set (i := 6) nd rfl (Or.inl rfl) (pv 8)))))) (pss_cons (ps_set (i := 11) nd rfl (Or.inl rfl) (pe_lst (pa_cons (pe_tup pa_nil) pa_nil))) (pss_cons (ps_for PassesOwn.never rfl (pi_range1 (by rfl) b.range (pa_cons (pv 3) pa_nil)) (pg_name (i := 12) nd rfl (Or.inr rfl)) (pss_cons (ps_set (i := 13) nd rfl (Or.inl rfl) (pe_lst pa_nil)) (pss_cons (ps_for PassesOwn.never rfl (pi_listK K rfl (pv 11)) (pg_name (i := 14) nd rfl (Or.inr rfl)) (pss_cons (ps_set (i := 15) nd rfl (Or.inr rfl) (pe_lc (own := [("_law_near", 18)]) rfl nd (pi_listK K rfl (pe_ix (ix_listK K rfl) (pe_own c__law_nears hr (pa_cons (pv 2) pa_nil)) (pv 12) (fun _ _ => rfl))) (blkOk_by (own := [("_law_near", 18)]) (N := ["_law_script", "_law_row", "_law_web_here", "_law_size", "_law_start", "_law_found", "_law_rim", "_law_many", "_law_later", "_law_here", "_law_there", "_law_every", "_law_field", "_law_longer", "_law_told", "_law_shut", "_law_laid", "_law_goal", "_law_near", "_law_height", "_law_color"]) (sc := (defScope s_law)) (by decide +kernel)) (fun _ _ _ _ _ => pg_name (i := 18) nd rfl (Or.inl rfl)) (fun _ _ _ _ _ => pts_one (pt_cmpR op_lt (pv 18) (pv 12) (nomark _))) (fun _ _ _ _ _ => pe_ix (ix_tupK K rfl) (pv 14) (pv 18) (fun _ _ => rfl)))) (pss_one (ps_set (i := 13) nd rfl (Or.inl rfl) (pe_op op_cat (pv 13) (pe_lc (own := [("_law_color", 20)]) rfl nd (pi_range1 (by rfl) b.range (pa_cons (pe_int) pa_nil)) (blkOk_by (own := [("_law_color", 20)]) (N := ["_law_script", "_law_row", "_law_web_here", "_law_size", "_law_start", "_law_found", "_law_rim", "_law_many", "_law_later", "_law_here", "_law_there", "_law_every", "_law_field", "_law_longer", "_law_told", "_law_shut", "_law_laid", "_law_goal", "_law_near", "_law_height", "_law_color"]) (sc := (defScope s_law)) (by decide +kernel)) (fun _ _ _ _ _ => pg_name (i := 20) nd rfl (Or.inl rfl)) (fun _ _ _ _ _ => pts_one (pt_cmpR (op_notInK K rfl) (pv 20) (pv 15) rfl)) (fun _ _ _ _ _ => pe_op (op_catAK K rfl) (pv 14) (pe_tup (pa_cons (pv 20) pa_nil))))))))) (pss_one (ps_set (i := 11) nd rfl (Or.inl rfl) (pv 13)))))) (pss_cons (ps_setLc (i := 16) (own := [("_law_there", 10)]) rfl nd rfl rfl (sw_true rfl rfl rfl (by decide +kernel)) (pi_listK K rfl (pv 11)) (blkOk_by (own := [("_law_there", 10)]) (N := ["_law_script", "_law_row", "_law_web_here", "_law_size", "_law_start", "_law_found", "_law_rim", "_law_many", "_law_later", "_law_here", "_law_there", "_law_every", "_law_field", "_law_longer", "_law_told", "_law_shut", "_law_laid", "_law_goal", "_law_near", "_law_height", "_law_color"]) (sc := (defScope s_law)) (by decide +kernel)) (fun _ _ _ _ _ => pg_name (i := 10) nd rfl (Or.inl rfl)) (fun _ _ _ _ _ => pts_one (pt_val (pe_own c_is_laid hr (pa_cons (pv 2) (pa_cons (pv 10) pa_nil))))) (fun _ _ _ _ _ => pv 10)) (pss_cons (ps_if ((pw_or (pt_not (pt_val (pe_own c__law_alike hr (pa_cons (pe_own c_count_colorings hr (pa_cons (pv 2) pa_nil)) (pa_cons (pe_callB (call_lenK K rfl) (by rfl) b.len (by decide +kernel) (pa_cons (pv 11) pa_nil)) pa_nil))))) (pw_or1 (pt_not (pt_val (pe_own c__law_alike hr (pa_cons (pe_own c_count_laid hr (pa_cons (pv 2) pa_nil)) (pa_cons (pe_callB (call_lenK K rfl) (by rfl) b.len (by decide +kernel) (pa_cons (pv 16) pa_nil)) pa_nil))))))).pt) (pss_one (ps_ret (pe_bl))) (pss_nil)) (pss_cons (ps_if (pt_not (pt_val (pe_own c__law_alikeT hr (pa_cons (pe_own c_laid_share hr (pa_cons (pv 2) pa_nil)) (pa_cons (pe_own c__law_lowered hr (pa_cons (pe_callB (call_lenK K rfl) (by rfl) b.len (by decide +kernel) (pa_cons (pv 16) pa_nil)) (pa_cons (pe_callB (call_lenK K rfl) (by rfl) b.len (by decide +kernel) (pa_cons (pv 11) pa_nil)) pa_nil))) pa_nil))))) (pss_one (ps_ret (pe_bl))) (pss_nil)) (pss_cons (ps_if ((pw_and (pt_cmpR op_gt (pv 3) (pe_int) (nomark _)) (pw_and1 (pt_cmpR (op_neDK K rfl hr.units) (pe_callB (cr_sortedDT rfl) (by rfl) b.sorted (by decide +kernel) (pa_cons (pv 5) pa_nil)) (pv 16) (nomark _)))).pt) (pss_one (ps_ret (pe_bl))) (pss_nil)) (pss_cons (ps_set (i := 17) nd rfl (Or.inl rfl) (pe_own c__law_pick hr (pa_cons (pv 1) (pa_cons (pv 16) pa_nil)))) (pss_cons (ps_if ((pw_and (pt_cmpR op_gt (pv 3) (pe_int) (nomark _)) (pw_and1 (pt_not (pt_val (pe_own c__law_alike hr (pa_cons (pe_own c_color_distance hr (pa_cons (pv 2) (pa_cons (pv 4) (pa_cons (pv 17) pa_nil)))) (pa_cons (pe_dget (hu_of hr) (pv 5) (pv 17) (fun _ _ => rfl)) pa_nil))))))).pt) (pss_one (ps_ret (pe_bl))) (pss_nil)) (pss_cons (ps_set (i := 10) nd rfl (Or.inr rfl) (pe_own c__law_pick hr (pa_cons (pv 1) (pa_cons (pv 11) pa_nil)))) (pss_one (ps_ret (pe_cmpR (op_eqDK K rfl hr.units) (pe_lc (own := [("_law_near", 18)]) rfl nd (pi_listK K rfl (pe_own c_near_colorings hr (pa_cons (pv 2) (pa_cons (pv 10) pa_nil)))) (blkOk_by (own := [("_law_near", 18)]) (N := ["_law_script", "_law_row", "_law_web_here", "_law_size", "_law_start", "_law_found", "_law_rim", "_law_many", "_law_later", "_law_here", "_law_there", "_law_every", "_law_field", "_law_longer", "_law_told", "_law_shut", "_law_laid", "_law_goal", "_law_near", "_law_height", "_law_color"]) (sc := (defScope s_law)) (by decide +kernel)) (fun _ _ _ _ _ => pg_name (i := 18) nd rfl (Or.inl rfl)) (fun _ _ _ _ _ => pts_one (pt_cmpR (op_neDK K rfl hr.units) (pe_own c_turns hr (pa_cons (pv 2) (pa_cons (pv 18) pa_nil))) (pe_own c_turns hr (pa_cons (pv 2) (pa_cons (pv 10) pa_nil))) (nomark _))) (fun _ _ _ _ _ => pv 18)) (pe_lst pa_nil) (nomark _))))))))))))))))), ?_⟩
    refine q_asgC ?_
    refine ⟨.ref a, rfl, ?_⟩
    show sizeLine ≥ 4 ∧ _
    refine ⟨sz (by omega), fun pr hpr => ?_⟩
    have e1 : Ex H (upd H pr (.lst [.ref a, .int 0, .int 5439, .int 0])) := Ex.new hpr
    have hS1 : SqL K (cut (upd H pr (.lst [.ref a, .int 0, .int 5439, .int 0])) [pr]) a (ns.map V.int) := Evl.ex_l (fun b o hb => by rw [cut_out (by simpa using ne_of_none hb hpr)]; exact e1 _ _ hb) hS
    have R1 : Row K (upd H pr (.lst [.ref a, .int 0, .int 5439, .int 0])) [pr] pr := ⟨a, ns, 0, 5439, 0, upd_same, hS1, by omega, by omega, by omega, by omega⟩
    generalize hH1 : upd H pr (.lst [.ref a, .int 0, .int 5439, .int 0]) = H1 at *
    have L1 : Live H1 [pr] := fun m hm => by cases List.mem_singleton.mp hm; exact ⟨_, by rw [← hH1]; exact upd_same⟩
    have hm : pr ∈ [pr] := List.mem_cons_self
    clear hH1 e1 hS1 hpr hS
    show tSeq _ _ _ [some (.ref a), some (.ref pr), none, none, none, none, none, none, none, none, none, none, none, none, none, none, none, none, none, none, none] H1
    refine q_asgC ?_
    refine ⟨.ref pr, rfl, ?_⟩
    refine ⟨pr, [pr], rfl, hm, L1, R1, fun vw W H2 hW e2 R2 rw2 => ?_⟩
    have L2' := Live.row L1 e2 R2
    have hn := hW.pre.few
    have hp := hW.pre.pos
    show tSeq _ _ _ [some (.ref a), some (.ref pr), some vw, none, none, none, none, none, none, none, none, none, none, none, none, none, none, none, none, none, none] H2
    refine q_parC ?_
    refine e_ixT (ms := [pr]) (d := dN W.n) (e_var (k := 2) rfl rw2) e_int rfl H2 (Ex.refl _) _ fun vn H3 e3 rn => ?_
    cases rn.int_of
    have rw3 := rp_keep e3 rw2
    have R3 := R2.mono e3
    have L3 := L2'.mono e3
    refine c_cons1 (c_cb (c_cons1 (e_lcE ?_)))
    refine ⟨.ref pr, rfl, vw, rfl, ?_⟩
    show tCall (sp_taken K) [] _ (tCons (tVar 1) (tCons (tC (.int 2)) tNil)) _ H3 _
    refine m_taken (kr := 1) (many := 2) rfl hm R3 (EvP.val (ms := []) e_int) (by omega) (by omega) fun x H4 _ e4 R4 => ?_
    have L4 := Live.row L3 e4 R4
    have upm : ∀ {Ha Hb : Hp}, Ex (cut Ha [pr]) Hb → Ex (cut Ha [pr]) (cut Hb [pr]) := fun e => ex_cut_in e
    refine ⟨pr, vw, W, (x : Int), [pr], rfl, hW, hm, L4, R4, rw3.mono (upm e4), fun vl lay H5 hlay e5 R5 rl => ?_⟩
    have L5 := Live.row L4 e5 R5
    have rw5 := (rw3.mono (upm e4)).mono (upm e5)
    clear e2 rw2 rw3 R2 R3 R4 L1 L2' L3 L4
    have hll := hlay.len
    refine e_mapT (ms := [pr]) (xs := lay) (enc := PyData.int) (fun i => .int (i % 3)) (src_tup (e_cst rl)) (by omega) L5 (fun ms' b v H6 hb e6 ec6 L6 rv => ⟨[some (.ref a), some (.ref pr), some vw, none, none, none, none, none, none, none, none, none, none, none, none, none, none, none, none, some v, none], fun Q q => q, rfl, e_IC (e_var (k := 19) rfl rv) e_int (by decide)⟩) H5 (Ex.refl _) _ fun vL H6 e6 rL => ?_
    obtain ⟨aL, xL, rfl, haL, raL⟩ := rL.lst_of
    refine ⟨aL, xL, rfl, .inl ⟨SqL.of (cut_some haL).2, fun l hl => ⟨.int (W.n : Int), .ref l, rfl, ?_⟩⟩⟩
    obtain ⟨c0, hc0⟩ : ∃ c0, c0 = lay.map (· % 3) := ⟨_, rfl⟩
    have hL0 : Lift W c0 (atc lay) ∧ Col W c0 := by rw [hc0]; exact hlay.laid hW.pre
    have r0 : Rp (cut (upd H6 l (.tup xL)) [pr]) (.ref l) (dC c0) := by
      have := rp_new (ms := [pr]) hl (L5.mono e6) raL
      rw [show dC c0 = PyData.tuple (lay.map fun i => PyData.int (i % 3)) by rw [hc0]; show PyData.tuple _ = _; rw [List.map_map]; rfl]
      exact this
    have e57 : Ex H5 (upd H6 l (.tup xL)) := e6.trans (Ex.new hl)
    generalize upd H6 l (.tup xL) = H7 at *
    have L7 := L5.mono e57
    have R7 := R5.mono e57
    have rw7 := rp_keep e57 rw5
    obtain ⟨hl0, C0⟩ := hL0
    clear hl haL raL e6 e57 rL L5 R5 rw5 rl e5 e4 e3
    show tSeq _ _ _ [some (.ref a), some (.ref pr), some vw, some (.int (W.n : Int)), some (.ref l), none, none, none, none, none, none, none, none, none, none, none, none, none, none, none, none] H7
    have hW' := hW.pre
    obtain ⟨g, Lg, hg0⟩ := lift0 hp hl0
    refine q_par3 (P2 := fun v _ u H2 => ∀ pd, v = .ref pd → Rp (cut H2 [pd, pr]) u (.list [dC c0])) (n_dispT (ms := [pr]) (ks := c0) (e_var (k := 4) rfl r0) (v_int (i := 0)))
      (fun v H8 e8 ⟨pd, hv, npd, hd⟩ => (e_lst (ms := [pd, pr]) (a_cons (e_var (k := 4) (d := dC c0) rfl (r0.mono (cut_more (qs := [pd]) (fun q hq => by cases List.mem_singleton.mp hq; exact npd) e8))) a_nil) (by simp) ((L7.mono e8).cons hd)).imp fun u H9 _ r pd' h' => by cases hv.symm.trans h'; exact r)
      (fun _ H8 _ H9 _ _ _ _ => v_int (i := 0)) fun vd vr vz H8 H9 H10 e8 ⟨pd, hvd, npd, hd8⟩ e9 rr e10 hz => ?_
    subst hvd hz
    replace rr := rp_keep e10 (rr pd rfl)
    have e710 := (e8.trans e9).trans e10
    have cm : Ex (cut H7 [pr]) (cut H10 [pd, pr]) := cut_more (qs := [pd]) (fun q hq => by cases List.mem_singleton.mp hq; exact npd) e710
    have hdp : pd ≠ pr := fun z => L7.out npd (by rw [z]; exact List.mem_cons_self)
    have hd10 := (e9.trans e10) _ _ hd8
    have rw10 := rw7.mono cm
    have r10 := r0.mono cm
    have R10 : Row K H10 [pd, pr] pr := R7.cut (by obtain ⟨_, _, _, _, _, hh, _⟩ := R7; rw [hh]; exact e710 _ _ hh) cm
    have L10 : Live H10 [pd, pr] := (L7.mono e710).cons hd10
    clear cm r0 rw7 R7 L7 e710 e8 e9 e10 hd8 npd
    show tSeq (tWhile _ _) _ _ [some (.ref a), some (.ref pr), some vw, some (.int (W.n : Int)), some (.ref l), some (.ref pd), some vr, some (.int 0), none, none, none, none, none, none, none, none, none, none, none, none, none] H10
    refine q_while (fun m σ' H' => ∃ (F : FL) (rim : List (List Int)) (k : Nat) (vr : V) (y8 y9 y10 : Option V), σ' = [some (.ref a), some (.ref pr), some vw, some (.int (W.n : Int)), some (.ref l), some (.ref pd), some vr, some (.int (k : Int)), y8, y9, y10, none, none, none, none, none, none, none, none, none, none] ∧ RX W g F rim k ∧ H' pd = some (.dT ((FI F).map kE)) ∧ Rp (cut H' [pd, pr]) vr (.list (rim.map dC)) ∧ Ex (cut H10 [pd]) H' ∧ m = 2 * (729 - F.length) + (if rim = [] then 0 else 1)) _ ⟨[(c0, 0)], [c0], 0, vr, none, none, none, rfl, RX.start Lg C0, hd10, rr, cut_le, rfl⟩ ?_
    rintro m σ' H' ⟨F0, rim, kk, vr, y8, y9, y10, rfl, X, hdF, rvr, eF, rfl⟩
    have lpr : ∀ {Hx : Hp}, Ex (cut H10 [pd]) Hx → ∃ o, Hx pr = some o := fun e => by
      obtain ⟨o, ho⟩ := L10 pr (by simp)
      exact ⟨o, e _ _ (by rw [cut_out (by simpa using hdp.symm)]; exact ho)⟩
    have L' : Live H' [pd, pr] := fun m hm => by
      rcases List.mem_cons.mp hm with rfl | hm
      · exact ⟨_, hdF⟩
      · cases List.mem_singleton.mp hm; exact lpr eF
    refine ⟨!decide (rim = []), t_is (t_T (e_neDp (ms := [pd, pr]) (e_var (k := 6) rfl rvr) (e_lst a_nil (by simp) L') (shaped_Cs _) shaped_nil)) (by rw [show PyData.list [] = PyData.list (([] : List (List Int)).map dC) from rfl, eqv_tups]), fun hne H1 e1 => ?_, fun hem H1 e1 => ?_⟩
    · have hrim : rim ≠ [] := fun z => by subst z; exact absurd hne (by decide)
      refine ⟨_, fun _ _ h => h, ?_⟩
      refine EvP.val (ms := []) (e_I0 (e_var (k := 7) rfl (.int _)) e_int) H1 (Ex.refl _) _ fun w1 H2 e2 hw => ?_
      subst hw
      refine n_nil H2 (Ex.refl _) _ fun w2 H3 e3 ⟨pl, hw, npl, hl3⟩ => ?_
      subst hw
      refine ⟨_, _, rfl, ?_⟩
      have e13 := (e1.trans e2).trans e3
      have hd3 := e13 _ _ hdF
      have nplH : H' pl = none := Evl.fresh_back (e1.trans e2) npl
      have n10c : cut H10 [pd] pl = none := Evl.fresh_back eF nplH
      have hlp : pl ≠ pd := (ne_of_none hdF nplH).symm
      have n10 : H10 pl = none := by rwa [cut_out (by simpa using hlp)] at n10c
      have hlpr : pl ≠ pr := fun z => by obtain ⟨o, ho⟩ := lpr eF; rw [← z, nplH] at ho; cases ho
      have L3 : Live H3 [pl, pd, pr] := (L'.mono e13).cons hl3
      have sub3 : Ex (cut H' [pd, pr]) (cut H3 [pl, pd, pr]) := cut_more (qs := [pl]) (fun q hq => by cases List.mem_singleton.mp hq; exact nplH) e13
      have up : ∀ {Hx : Hp}, Ex (cut H10 [pd]) Hx → Ex (cut H10 [pd, pr]) (cut Hx [pl, pd, pr]) := fun e a o z => by
        obtain ⟨z1, z2⟩ := cut_some z
        have za : a ≠ pl := ne_of_none z2 n10
        have zb : a ≠ pd := fun q => z1 (by rw [q]; exact List.mem_cons_self)
        have zc : a ≠ pr := fun q => z1 (by rw [q]; simp)
        rw [cut_out (by simp [za, zb, zc])]
        exact e a o (by rw [cut_out (by simpa using zb)]; exact z2)
      have mk3 : ∀ {Hx : Hp} {o1 o2 : HO}, Hx pl = some o1 → Hx pd = some o2 → Ex (cut H10 [pd]) Hx → Live Hx [pl, pd, pr] := fun h1 h2 e m hm => by
        rcases List.mem_cons.mp hm with rfl | hm
        · exact ⟨_, h1⟩
        · rcases List.mem_cons.mp hm with rfl | hm
          · exact ⟨_, h2⟩
          · cases List.mem_singleton.mp hm; exact lpr e
      refine s_seqfor (ms := [pl, pd, pr]) (src_list (e_var (k := 6) rfl (rvr.mono sub3)))
        (fun B i σ' H4 => ∃ (F : FL) (later : List (List Int)) (xs : List V) (y9 y10 : Option V), σ' = [some (.ref a), some (.ref pr), some vw, some (.int (W.n : Int)), some (.ref l), some (.ref pd), some vr, some (.int ((kk : Int) + 1)), some (.ref pl), y9, y10, none, none, none, none, none, none, none, none, none, none] ∧ RY W g F later kk (fun d => ∃ c ∈ rim.take i, Near W c d) ∧ F.length = F0.length + later.length ∧ H4 pd = some (.dT ((FI F).map kE)) ∧ H4 pl = some (.lst xs) ∧ RpAll (cut H4 [pl, pd, pr]) xs (later.map dC) ∧ Ex (cut B [pl, pd, pr]) H4 ∧ Ex (cut H10 [pd]) H4)
        (fun B eB => ⟨F0, [], [], y9, y10, rfl, X.into.skip (by simp), by simp, eB _ _ hd3, eB _ _ hl3, .nil, cut_le, (eF.trans e13).trans eB⟩) (fun B i σ' H4 _ _ ⟨_, _, _, _, _, _, _, _, _, _, _, h, _⟩ => h) ?_ ?_
      · rintro B i d v σ' Hc H4 eB hd ⟨F, later, xs, y9, y10, rfl, Y, hlen, hdc, hlc, rxs, eb, eFc⟩ ec hr
        rw [List.getElem?_map] at hd
        obtain ⟨c, hc, rfl⟩ := Option.map_eq_some_iff.mp hd
        have hcr : c ∈ rim := List.mem_of_getElem? hc
        have Cc := X.rims c hcr
        have rv := hr [pl, pd, pr] (ex_cut_in eb) (mk3 hlc hdc eFc)
        have L4 := mk3 (ec _ _ hlc) (ec _ _ hdc) (eFc.trans ec)
        have rw4 : Rp (cut H4 [pl, pd, pr]) vw (dW W) := rw10.mono (up (eFc.trans ec))
        have tk : rim.take (i + 1) = rim.take i ++ [c] := by rw [List.take_add_one, hc]; rfl
        show tFor (iList K (tCall sp_near [] _ (tCons (tVar 2) (tCons (tVar 9) tNil)))) _ _ _ [some (.ref a), some (.ref pr), some vw, some (.int (W.n : Int)), some (.ref l), some (.ref pd), some vr, some (.int ((kk : Int) + 1)), some (.ref pl), some v, y10, none, none, none, none, none, none, none, none, none, none] H4
        refine s_forE ?_
        refine e_callr (ms := [pl, pd, pr]) (S := fun d => ∃ L : List (List Int), d = .list (L.map dC) ∧ L.Perm ((List.range W.n).filterMap (recO W c))) (a_cons (e_var (k := 2) rfl rw4) (a_cons (e_var (k := 9) rfl rv) a_nil)) L4 ⟨W, c, rfl, hW, Cc, rfl⟩ H4 (Ex.refl _) _ fun vn H5 e5 ⟨dd, ⟨Ls, hdd, hperm⟩, rn⟩ => ?_
        subst hdd
        have hmem : ∀ d, d ∈ Ls ↔ Near W c d := fun d => by
          rw [hperm.mem_iff, List.mem_filterMap]
          constructor
          · rintro ⟨f, hf, e⟩; exact ⟨f, List.mem_range.mp hf, e⟩
          · rintro ⟨f, hf, e⟩; exact ⟨f, List.mem_range.mpr hf, e⟩
        have e45 := ec.trans e5
        refine s_for (ms := [pl, pd, pr]) (src_list (e_cst rn))
          (fun B2 j σ' H6 => ∃ (F : FL) (later : List (List Int)) (xs : List V) (y10 : Option V), σ' = [some (.ref a), some (.ref pr), some vw, some (.int (W.n : Int)), some (.ref l), some (.ref pd), some vr, some (.int ((kk : Int) + 1)), some (.ref pl), some v, y10, none, none, none, none, none, none, none, none, none, none] ∧ RY W g F later kk (fun d => (∃ c ∈ rim.take i, Near W c d) ∨ d ∈ Ls.take j) ∧ F.length = F0.length + later.length ∧ H6 pd = some (.dT ((FI F).map kE)) ∧ H6 pl = some (.lst xs) ∧ RpAll (cut H6 [pl, pd, pr]) xs (later.map dC) ∧ Ex (cut B2 [pl, pd, pr]) H6 ∧ Ex (cut H10 [pd]) H6)
          (fun B2 eB2 => ⟨F, later, xs, y10, rfl, Y.skip (fun x hx => .inl (hx.elim id fun z => by simp at z)), hlen, (e45.trans eB2) _ _ hdc, (e45.trans eB2) _ _ hlc, rxs.mono (ex_cut (e45.trans eB2)), cut_le, (eFc.trans e45).trans eB2⟩) (fun B i σ' H4 _ _ ⟨_, _, _, _, _, _, _, _, _, _, h, _⟩ => h) ?_ ?_
        · rintro B2 j d v2 σ' Hd H6 eB2 hd2 ⟨F, later, xs, y10, rfl, Y, hlen, hdc, hlc, rxs, eb2, eFd⟩ ed hr2
          rw [List.getElem?_map] at hd2
          obtain ⟨d, hdj, rfl⟩ := Option.map_eq_some_iff.mp hd2
          have N : Near W c d := (hmem d).mp (List.mem_of_getElem? hdj)
          have rd := hr2 [pl, pd, pr] (ex_cut_in eb2) (mk3 hlc hdc eFd)
          have hd6 := ed _ _ hdc
          have hl6 := ed _ _ hlc
          replace rxs := rxs.mono (ex_cut ed)
          have tkj : Ls.take (j + 1) = Ls.take j ++ [d] := by rw [List.take_add_one, hdj]; rfl
          have small := Y.small hW'
          have few := Y.few
          have fl : ((FI F).map kE).length = F.length := by unfold FI; rw [List.length_map, List.length_map]
          have xl : xs.length = later.length := by rw [rxs.len, List.length_map]
          show tIfS _ _ _ _ [some (.ref a), some (.ref pr), some vw, some (.int (W.n : Int)), some (.ref l), some (.ref pd), some vr, some (.int ((kk : Int) + 1)), some (.ref pl), some v, some v2, none, none, none, none, none, none, none, none, none, none] H6
          refine s_if (b := !decide (d ∈ F.map (·.1))) (t_is (t_notInT (ms := [pl, pd, pr]) (e_ref (k := 5) rfl) hd6 (e_var (k := 10) rfl rd)) (by rw [val_key Y.nd])) (fun hnew H7 e7 => ?_) (fun hold H7 e7 => ?_)
          · have hn' : d ∉ F.map (·.1) := by simpa using hnew
            refine q_dputT (ms := [pl, pd, pr]) (v0 := .int ((kk : Int) + 1)) (e7 _ _ hd6) (e_ref (k := 7) rfl) (e_ref (k := 5) rfl) (e_var (k := 10) rfl (rp_keep e7 rd)) (by rw [fl]; omega) fun H8 e8 => ?_
            rw [show (V.int ((kk : Int) + 1)) = V.int ((kk + 1 : Nat) : Int) from rfl, put_new hn']
            have hl8 : (upd H8 pd (.dT ((FI (F ++ [(d, kk + 1)])).map kE))) pl = some (.lst xs) := by rw [upd_ne hlp]; exact e8 _ _ (e7 _ _ hl6)
            refine s_app (ms := [pl, pd, pr]) (e_ref (k := 8) rfl) hl8 (by simp) (e_var (k := 10) (d := dC d) rfl (by rw [cut_upd (by simp)]; exact rp_keep (e7.trans e8) rd)) (by omega) fun v9 H9 e9 r9 => ?_
            have s89 : Ex (cut H8 [pl, pd, pr]) (cut H9 [pl, pd, pr]) := by have := ex_cut (ms := [pl, pd, pr]) e9; rwa [cut_upd (by simp)] at this
            refine ⟨F ++ [(d, kk + 1)], later ++ [d], xs ++ [v9], _, rfl, Y.add hW Lg.lay Cc (fun n => ((X.full n).rimIn c hcr).2) N hn' (fun x hx => ?_), by simp; omega, ?_, upd_same, ?_, ?_, ?_⟩
            · rw [tkj] at hx
              rcases hx with hx | hx
              · exact .inl (.inl hx)
              · rcases List.mem_append.mp hx with hx | hx
                · exact .inl (.inr hx)
                · exact .inr (List.mem_singleton.mp hx)
            · rw [upd_ne hlp.symm]; exact e9 _ _ upd_same
            · rw [cut_upd (by simp), List.map_append]
              exact (rxs.mono ((ex_cut (e7.trans e8)).trans s89)).snoc r9
            · exact ex_cut_upd ((ex_cut_upd (((eb2.trans ed).trans e7).trans e8) (by simp)).trans e9) (by simp)
            · exact Ex.mut ((ex_cut_upd (((eFd.trans ed).trans e7).trans e8) (by simp)).trans e9) n10c
          · have hn' : d ∈ F.map (·.1) := by simpa using hold
            refine ⟨F, later, xs, _, rfl, Y.skip (fun x hx => ?_), hlen, e7 _ _ hd6, e7 _ _ hl6, rxs.mono (ex_cut e7), (eb2.trans ed).trans e7, (eFd.trans ed).trans e7⟩
            rw [tkj] at hx
            rcases hx with hx | hx
            · exact .inl (.inl hx)
            · rcases List.mem_append.mp hx with hx | hx
              · exact .inl (.inr hx)
              · rw [List.mem_singleton.mp hx]; exact .inr hn'
        · rintro B2 σ' H6 eB2 ⟨F, later, xs, y10, rfl, Y, hlen, hdc, hlc, rxs, eb2, eFd⟩
          rw [List.length_map, List.take_length] at Y
          refine ⟨F, later, xs, _, _, rfl, Y.skip (fun x hx => ?_), hlen, hdc, hlc, rxs, (ex_cut_in eb).trans ((ex_cut (e45.trans eB2)).trans eb2), eFd⟩
          obtain ⟨c', hc', N⟩ := hx
          rw [tk] at hc'
          rcases List.mem_append.mp hc' with hc' | hc'
          · exact .inl (.inl ⟨c', hc', N⟩)
          · rw [List.mem_singleton.mp hc'] at N
            exact .inl (.inr ((hmem x).mpr N))
      · rintro B σ' H4 eB ⟨F, later, xs, y9, y10, rfl, Y, hlen, hdc, hlc, rxs, eb, eFc⟩
        rw [List.length_map, List.take_length] at Y
        have X2 := Y.out hW Lg.lay X (fun c hc d N => ⟨c, hc, N⟩)
        refine G.s_asg (e_ref (v := .ref pl) (k := 8) rfl) fun v9 H9 e9 hv9 => ?_
        subst hv9
        have s1 := X.small hW'
        have s2 := X2.small hW'
        refine ⟨2 * (729 - F.length) + (if later = [] then 0 else 1), ?_, F, later, kk + 1, .ref pl, some (.ref pl), y9, y10, rfl, X2, e9 _ _ hdc, ?_, eFc.trans e9, rfl⟩
        · rw [if_neg hrim]
          by_cases z : later = []
          · rw [if_pos z]; omega
          · rw [if_neg z]
            have : later.length ≠ 0 := fun q => z (List.length_eq_zero_iff.mp q)
            omega
        · exact .lst (by rw [cut_out (by simp [hlp, hlpr])]; exact e9 _ _ hlc) (rxs.mono ((cut_sub (by simp)).trans (ex_cut e9)))
    · have hrim : rim = [] := by simpa using hem
      subst hrim
      have kp : Ex (cut H10 [pd, pr]) (cut H1 [pd, pr]) := (ex_cut_in ((cut_sub (by simp)).trans eF)).trans (ex_cut e1)
      have rw1 := rw10.mono kp
      have r01 := r10.mono kp
      have R1 : Row K H1 [pd, pr] pr := R10.cut (by obtain ⟨_, _, _, _, _, hh, _⟩ := R10; rw [hh]; exact e1 _ _ (eF _ _ (by rw [cut_out (by simpa using hdp.symm)]; exact hh))) kp
      have hd1 := e1 _ _ hdF
      have L1 := L'.mono e1
      clear kp rw10 r10 R10 hd10 L10 L' lpr hdF rvr eF e1 hem rr
      generalize some vr = y6
      generalize some (V.int (kk : Int)) = y7
      refine q_asg (e_lst (ms := [pd, pr]) (a_cons (e_tup a_nil (by simp) L1) a_nil) (by simp) L1) fun ve H2 e2 re => ?_
      show tSeq (tFor (iRng1 (tCons (tVar 3) tNil)) _ _) _ _ [some (.ref a), some (.ref pr), some vw, some (.int (W.n : Int)), some (.ref l), some (.ref pd), y6, y7, y8, y9, y10, some ve, none, none, none, none, none, none, none, none, none] H2
      refine s_seqfor (ms := [pd, pr]) (src_rg1 (j := (W.n : Int)) (a_cons (e_var (k := 3) rfl (.int _)) a_nil) (by omega))
        (fun B i σ' H3 => ∃ (ve : V) (y12 y13 y14 y15 : Option V), σ' = [some (.ref a), some (.ref pr), some vw, some (.int (W.n : Int)), some (.ref l), some (.ref pd), y6, y7, y8, y9, y10, some ve, y12, y13, y14, y15, none, none, none, none, none] ∧ Rp (cut H3 [pd, pr]) ve (.list ((parts (candC W) i).map dC)) ∧ Ex B H3)
        (fun B eB => ⟨ve, none, none, none, none, rfl, rp_keep eB re, Ex.refl _⟩) (fun B i σ' H3 _ _ ⟨_, _, _, _, _, _, _, h⟩ => cut_le.trans h) ?_ ?_
      · rintro B i d v σ' Hc H3 eB hd ⟨ve, y12, y13, y14, y15, rfl, rve, eb⟩ ec hr
        obtain ⟨hi, rfl⟩ := rgD_get hd
        have hi : i < W.n := by omega
        have e1c := (e2.trans eB).trans eb
        have e13 := e1c.trans ec
        have L3 := L1.mono e13
        cases (hr [pd, pr] (ex_cut eb) (L1.mono e1c)).int_of
        rw [Int.zero_add]
        replace rve := rp_keep ec rve
        show tSeq (tAsg (tLst tNil) _) _ _ [some (.ref a), some (.ref pr), some vw, some (.int (W.n : Int)), some (.ref l), some (.ref pd), y6, y7, y8, y9, y10, some ve, some (.int (i : Int)), y13, y14, y15, none, none, none, none, none] H3
        refine q_asg (e_lst (ms := [pd, pr]) a_nil (by simp) L3) fun vl H4 e4 rl => ?_
        show tSeq (tFor (iList K (tVar 11)) _ _) _ _ [some (.ref a), some (.ref pr), some vw, some (.int (W.n : Int)), some (.ref l), some (.ref pd), y6, y7, y8, y9, y10, some ve, some (.int (i : Int)), some vl, y14, y15, none, none, none, none, none] H4
        have few := all_few hW' (Nat.le_of_lt hi)
        have e14 := e13.trans e4
        refine s_seqfor (ms := [pd, pr]) (src_list (e_var (k := 11) rfl (rp_keep e4 rve)))
          (fun B2 j σ' H5 => ∃ (vl : V) (y14 y15 : Option V), σ' = [some (.ref a), some (.ref pr), some vw, some (.int (W.n : Int)), some (.ref l), some (.ref pd), y6, y7, y8, y9, y10, some ve, some (.int (i : Int)), some vl, y14, y15, none, none, none, none, none] ∧ Rp (cut H5 [pd, pr]) vl (.list ((((parts (candC W) i).take j).flatMap (lng W i)).map dC)) ∧ Ex B2 H5)
          (fun B2 eB2 => ⟨vl, y14, y15, rfl, rp_keep eB2 rl, Ex.refl _⟩) (fun B2 j σ' H5 _ _ ⟨_, _, _, _, _, h⟩ => cut_le.trans h) ?_ ?_
        · rintro B2 j d v2 σ' Hd H5 eB2 hd2 ⟨vl, y14, y15, rfl, rl, eb2⟩ ed hr2
          rw [List.getElem?_map] at hd2
          obtain ⟨c, hc, rfl⟩ := Option.map_eq_some_iff.mp hd2
          have e1d := (e14.trans eB2).trans eb2
          have e15 := e1d.trans ed
          have rc := hr2 [pd, pr] (ex_cut eb2) (L1.mono e1d)
          have L5 := L1.mono e15
          have rw5 := rp_keep e15 rw1
          have cl : c.length = i := parts_len (List.mem_of_getElem? hc)
          have hj : j < (parts (candC W) i).length := (List.getElem?_eq_some_iff.mp hc).1
          replace rl := rp_keep ed rl
          have tk : (parts (candC W) i).take (j + 1) = (parts (candC W) i).take j ++ [c] := by rw [List.take_add_one, hc]; rfl
          show tSeq (tAsg _ _) _ _ [some (.ref a), some (.ref pr), some vw, some (.int (W.n : Int)), some (.ref l), some (.ref pd), y6, y7, y8, y9, y10, some ve, some (.int (i : Int)), some vl, some v2, y15, none, none, none, none, none] H5
          refine q_asg (e_is (d2 := dIs ((W.ahd i).map (atc c))) (e_lcT (ms := [pd, pr]) (xs := W.nb i) (enc := dN) (fun u => decide (u < i)) (fun u => .int (atc c u)) (src_list (e_is (e_ixL (d := dNs (W.nb i)) (e_call (ms := [pd, pr]) (a_cons (e_var (k := 2) rfl rw5) a_nil) L5 ⟨W, rfl, hW', rfl⟩) (e_var (k := 12) rfl (.int _)) (atI_nat (by rw [List.getElem?_map, nears_get hi]; rfl))) (by show PyData.list _ = PyData.list _; rw [dNs_eq]))) (by have := nb_few (W := W) (v := i); omega) L5
            fun ms' u v8 H9 hu e9 ec9 L9 rv9 => ⟨[some (.ref a), some (.ref pr), some vw, some (.int (W.n : Int)), some (.ref l), some (.ref pd), y6, y7, y8, y9, y10, some ve, some (.int (i : Int)), some vl, some v2, y15, none, none, some v8, none, none], fun Q q => q, rfl, ?_, fun hlt => ?_⟩) (by show PyData.list _ = PyData.list _; rw [List.map_map]; rfl)) fun vs H6 e6 rs => ?_
          · cases rv9.int_of
            exact t_is (t_T (e_B0 (ms := []) (e_var (k := 18) rfl (.int _)) (e_var (k := 12) rfl (.int _)))) (decide_eq_decide.mpr (by omega))
          · cases rv9.int_of
            have hlt := of_decide_eq_true hlt
            exact e_ixT (e_var (k := 14) rfl (rc.mono ec9)) (e_var (k := 18) rfl (.int _)) (dC_at (f := u) (by omega))
          have rc6 := rp_keep e6 rc
          refine G.s_asg (e_is (d2 := .list ((((parts (candC W) i).take (j + 1)).flatMap (lng W i)).map dC)) (e_cat (ms := [pd, pr]) (e_var (k := 13) rfl (rp_keep e6 rl)) (e_lcT (ms := [pd, pr]) (xs := List.range 3) (enc := fun (x : Nat) => .int (0 + (x : Int))) (fun x => !decide ((x : Int) ∈ (W.ahd i).map (atc c))) (fun x => dC (c ++ [(x : Int)])) (src_rg1 (j := 3) (a_cons e_int a_nil) (by omega)) (by simp) (L5.mono e6)
            fun ms' x v9 H9 hx e9 ec9 L9 rv9 => ⟨[some (.ref a), some (.ref pr), some vw, some (.int (W.n : Int)), some (.ref l), some (.ref pd), y6, y7, y8, y9, y10, some ve, some (.int (i : Int)), some vl, some v2, some vs, none, none, none, none, some v9], fun Q q => q, rfl, ?_, fun _ => ?_⟩) ?_ (L5.mono e6)) ?_) fun vl2 H7 e7 rl2 => ⟨vl2, _, _, rfl, rl2, ((eb2.trans ed).trans e6).trans e7⟩
          · cases rv9.int_of
            rw [Int.zero_add]
            exact t_T (e_notInI (ns := (W.ahd i).map (atc c)) (e_var (k := 20) rfl (.int _)) (e_var (k := 15) rfl (rs.mono ec9)))
          · cases rv9.int_of
            rw [Int.zero_add]
            exact e_is (e_catA (ds := c.map PyData.int) (es := [.int (x : Int)]) (e_var (k := 14) rfl (rc6.mono ec9)) (e_tup (a_cons (e_var (k := 20) rfl (.int _)) a_nil) (by simp) L9) (by rw [List.length_map, cl, List.length_singleton]; omega) L9) (by show PyData.tuple _ = PyData.tuple _; rw [List.map_append]; rfl)
          · have l1 := lng_few (W := W) (k := i) ((parts (candC W) i).take j)
            have l2 := List.length_filter_le (fun (x : Nat) => !decide ((x : Int) ∈ (W.ahd i).map (atc c))) (List.range 3)
            rw [List.length_take] at l1
            rw [List.length_range] at l2
            rw [List.length_map, List.length_map]
            omega
          · show PyData.list (_ ++ _) = PyData.list _
            rw [tk, List.flatMap_append, List.map_append, lng_eq, List.flatMap_cons, List.flatMap_nil, List.append_nil]
        · rintro B2 σ' H5 eB2 ⟨vl, y14, y15, rfl, rl, eb2⟩
          rw [List.length_map, List.take_length] at rl
          exact G.s_asg (e_var (k := 13) rfl rl) fun v9 H9 e9 r9 => ⟨v9, _, _, _, _, rfl, r9, ((((eb.trans ec).trans e4).trans eB2).trans eb2).trans e9⟩
      · rintro B σ' H3 eB ⟨ve, y12, y13, y14, y15, rfl, rve, eb⟩
        rw [rgD_len, show ((W.n : Int)).toNat = W.n by omega] at rve
        have e13 := (e2.trans eB).trans eb
        have L3 := L1.mono e13
        have rw3 := rp_keep e13 rw1
        have fewE := all_few hW' (Nat.le_refl W.n)
        show tSeq (tAsg _ _) _ _ [some (.ref a), some (.ref pr), some vw, some (.int (W.n : Int)), some (.ref l), some (.ref pd), y6, y7, y8, y9, y10, some ve, y12, y13, y14, y15, none, none, none, none, none] H3
        refine q_asg (e_is (d2 := .list ((laidL W).map dC)) (e_lcT (ms := [pd, pr]) (xs := parts (candC W) W.n) (enc := dC) (fun c => W.rnds.all fun r => decide (trn c r = 0)) dC (src_list (e_var (k := 11) rfl rve)) (by omega) L3
          fun ms' c v9 H9 hc e9 ec9 L9 rv9 => ⟨[some (.ref a), some (.ref pr), some vw, some (.int (W.n : Int)), some (.ref l), some (.ref pd), y6, y7, y8, y9, some v9, some ve, y12, y13, y14, y15, none, none, none, none, none], fun Q q => q, rfl, t_B (e_call (ms := ms') (a_cons (e_var (k := 2) rfl (rw3.mono ec9)) (a_cons (e_var (k := 10) rfl rv9) a_nil)) L9 ⟨W, c, rfl, hW, (all_col hW').mp hc, rfl⟩), fun _ => e_var (k := 10) rfl rv9⟩) rfl) fun vL H4 e4 rL => ?_
        have e14 := e13.trans e4
        have L4 := L1.mono e14
        have rw4 := rp_keep e14 rw1
        have r04 := rp_keep e14 r01
        have R4 := R1.mono e14
        have hd4 := e14 _ _ hd1
        have re4 := rp_keep e4 rve
        clear hd1 R1 r01 rw1 L1 e14 e13 e4 rw3 L3 eb eB e2 re rve
        have ln1 : (laidL W).length = 3 * layN W := laidL_len hW (fun v hv => low_at hv) (fun v hv => high_at hv)
        have c0E : c0 ∈ parts (candC W) W.n := (all_col hW').mpr C0
        have c0L : c0 ∈ laidL W := (mem_laidL hW).mpr ⟨C0, g, Lg⟩
        have posE := List.length_pos_of_mem c0E
        have posL := List.length_pos_of_mem c0L
        have fewL : (laidL W).length ≤ 729 := Nat.le_trans (List.length_filter_le _ _) fewE
        show tSeq (tIfS _ _ _) _ _ [some (.ref a), some (.ref pr), some vw, some (.int (W.n : Int)), some (.ref l), some (.ref pd), y6, y7, y8, y9, y10, some ve, y12, y13, y14, y15, some vL, none, none, none, none] H4
        refine q_no (t_is (et_or (et_not (t_B (e_call (ms := [pd, pr]) (a_cons (e_call (ms := [pd, pr]) (d := dN (every W).length) (a_cons (e_var (k := 2) rfl rw4) a_nil) L4 ⟨W, rfl, hW, rfl⟩) (a_cons (e_is (d2 := dN (every W).length) (e_lenL (e_var (k := 11) rfl re4)) (by rw [List.length_map]; rfl)) a_nil)) L4 ⟨((every W).length : Int), rfl, rfl⟩)))
          fun _ => et_not (t_B (e_call (ms := [pd, pr]) (a_cons (e_call (ms := [pd, pr]) (d := dN (3 * layN W)) (a_cons (e_var (k := 2) rfl rw4) a_nil) L4 ⟨W, rfl, hW, rfl⟩) (a_cons (e_is (d2 := dN (3 * layN W)) (e_lenL (e_var (k := 16) rfl rL)) (by rw [List.length_map, ln1])) a_nil)) L4 ⟨((3 * layN W : Nat) : Int), rfl, rfl⟩))) rfl) fun H5 e5 => ?_
        have L5 := L4.mono e5
        have rw5 := rp_keep e5 rw4
        have re5 := rp_keep e5 re4
        have rL5 := rp_keep e5 rL
        refine q_no (t_is (et_not (t_B (e_call (ms := [pd, pr]) (a_cons (e_call (ms := [pd, pr]) (d := .tuple [dN (3 * layN W / Nat.gcd (3 * layN W) (every W).length), dN ((every W).length / Nat.gcd (3 * layN W) (every W).length)]) (a_cons (e_var (k := 2) rfl rw5) a_nil) L5 ⟨W, rfl, hW, posE, rfl⟩)
          (a_cons (e_call (ms := [pd, pr]) (d := .tuple [dN (3 * layN W / Nat.gcd (3 * layN W) (every W).length), dN ((every W).length / Nat.gcd (3 * layN W) (every W).length)]) (a_cons (e_is (d2 := dN (3 * layN W)) (e_lenL (e_var (k := 16) rfl rL5)) (by rw [List.length_map, ln1])) (a_cons (e_is (d2 := dN (every W).length) (e_lenL (e_var (k := 11) rfl re5)) (by rw [List.length_map]; rfl)) a_nil)) L5 ⟨3 * layN W, (every W).length, rfl, posE, by show (parts (candC W) W.n).length < 1000000; omega, rfl⟩) a_nil)) L5 ⟨_, _, rfl, rfl⟩))) rfl) fun H6 e6 => ?_
        have e46 := e5.trans e6
        have hd6 := e46 _ _ hd4
        refine q_no (t_is (et_and (b := false) (t_T (e_B0 (ms := []) (e_var (k := 3) rfl (.int _)) e_int)) fun h => ?_) (Bool.and_false _)) fun H7 e7 => ?_
        · have h2 : 2 ≤ W.n := by have := of_decide_eq_true h; omega
          exact t_is (t_T (e_neDp (ms := []) (d1 := .list ((laidL W).map dC)) (e_sortedDT (n := W.n) (e_ref (k := 5) rfl) hd6 hp (fun q hq => (X.col q hq).len) laidL_sorted (X.laid hW h2 Lg.lay)) (e_var (k := 16) rfl ((rp_keep e46 rL).mono cut_le)) (shaped_Cs _) (shaped_Cs _))) (by rw [eqv_tups, decide_eq_true rfl]; rfl)
        have e47 := e46.trans e7
        have L7 := L4.mono e47
        have R7 := R4.mono e47
        show tSeq (tAsg (tCall (sp_pick K) [] _ (tCons (tVar 1) (tCons (tVar 16) tNil))) _) _ _ [some (.ref a), some (.ref pr), some vw, some (.int (W.n : Int)), some (.ref l), some (.ref pd), y6, y7, y8, y9, y10, some ve, y12, y13, y14, y15, some vL, none, none, none, none] H7
        refine q_asgC ?_
        refine ⟨.ref pr, rfl, vL, rfl, ?_⟩
        refine ⟨pr, vL, (laidL W).map dC, [pd, pr], rfl, by simp, R7, rp_keep e47 rL, by rw [List.length_map]; omega, by rw [List.length_map]; omega, fun vg dg H8 hdg e8 R8 rg => ?_⟩
        obtain ⟨cg, hcg, rfl⟩ := List.mem_map.mp hdg
        have hmr : pr ∈ [pd, pr] := by simp
        have L8 := Live.row L7 e8 R8
        have rw8 := rp_row hmr e8 (rp_keep e47 rw4)
        have r08 := rp_row hmr e8 (rp_keep e47 r04)
        have re8 := rp_row hmr e8 (rp_keep e47 re4)
        have hd8 : H8 pd = some (.dT ((FI F0).map kE)) := e8 _ _ (by rw [cut_out (by simpa using hdp)]; exact e47 _ _ hd4)
        clear R7 L7 e47 e7 hd6 e46 e6 rL5 re5 rw5 L5 e5 re4 hd4 R4 r04 rw4 L4 rL
        obtain ⟨Cg, hvg, Lhg⟩ := (mem_laidL hW).mp hcg
        obtain ⟨hv, Lh, hh0⟩ := lift0 hp Lhg
        show tSeq (tIfS _ _ _) _ _ [some (.ref a), some (.ref pr), some vw, some (.int (W.n : Int)), some (.ref l), some (.ref pd), y6, y7, y8, y9, y10, some ve, y12, y13, y14, y15, some vL, some vg, none, none, none] H8
        refine q_no (t_is (et_and (b := false) (t_T (e_B0 (ms := []) (e_var (k := 3) rfl (.int _)) e_int)) fun h => ?_) (Bool.and_false _)) fun H9 e9 => ?_
        · have h2 : 2 ≤ W.n := by have := of_decide_eq_true h; omega
          obtain ⟨m, hm1, hcd⟩ := X.dist hW h2 Lg C0 hg0 Cg Lh hh0
          exact t_is (et_not (t_B (e_call (ms := [pd, pr]) (a_cons (e_call (ms := [pd, pr]) (d := .int (m : Int)) (a_cons (e_var (k := 2) rfl rw8) (a_cons (e_var (k := 4) rfl r08) (a_cons (e_var (k := 17) rfl rg) a_nil))) L8 ⟨W, c0, cg, g, hv, rfl, hW, C0, Cg, Lg, Lh, hg0, hh0, by rw [hcd]; rfl⟩) (a_cons (e_dgetT (e_ref (k := 5) rfl) hd8 (e_var (k := 17) rfl rg) (val_in (by rw [FI_keys]; exact X.nd) (FI_in hm1)) (.int _)) a_nil)) L8 ⟨(m : Int), rfl, rfl⟩))) rfl
        show tSeq (tAsg (tCall (sp_pick K) [] _ (tCons (tVar 1) (tCons (tVar 11) tNil))) _) _ _ [some (.ref a), some (.ref pr), some vw, some (.int (W.n : Int)), some (.ref l), some (.ref pd), y6, y7, y8, y9, y10, some ve, y12, y13, y14, y15, some vL, some vg, none, none, none] H9
        refine q_asgC ?_
        refine ⟨.ref pr, rfl, ve, rfl, ?_⟩
        refine ⟨pr, ve, (parts (candC W) W.n).map dC, [pd, pr], rfl, by simp, R8.mono e9, rp_keep e9 re8, by rw [List.length_map]; omega, by rw [List.length_map]; omega, fun vt dt H10' hdt e10 R10' rt => ?_⟩
        obtain ⟨ct, hct, rfl⟩ := List.mem_map.mp hdt
        have Ct := (all_col hW').mp hct
        have L10' := Live.row (L8.mono e9) e10 R10'
        have rw10' := rp_row hmr e10 (rp_keep e9 rw8)
        refine s_retE ?_
        show tCall sp_near [] _ (tCons (tVar 2) (tCons (tVar 10) tNil)) [some (.ref a), some (.ref pr), some vw, some (.int (W.n : Int)), some (.ref l), some (.ref pd), y6, y7, y8, y9, some vt, some ve, y12, y13, y14, y15, some vL, some vg, none, none, none] H10' _
        refine e_callr (ms := [pd, pr]) (S := fun d => ∃ L : List (List Int), d = .list (L.map dC) ∧ L.Perm ((List.range W.n).filterMap (recO W ct))) (a_cons (e_var (k := 2) rfl rw10') (a_cons (e_var (k := 10) rfl rt) a_nil)) L10' ⟨W, ct, rfl, hW, Ct, rfl⟩ H10' (Ex.refl _) _ fun vn H11 e11 ⟨dd, ⟨Ls, hdd, hperm⟩, rn⟩ => ?_
        subst hdd
        have L11 := L10'.mono e11
        have lsf : Ls.length ≤ W.n := by
          have := List.length_filterMap_le (recO W ct) (List.range W.n)
          rw [List.length_range] at this
          rw [hperm.length_eq]; exact this
        refine s_ret (e_is (d2 := .bool true) (e_eqDp (ms := [pd, pr]) (d1 := .list []) (d2 := .list []) (e_is (e_lcT (ms := [pd, pr]) (xs := Ls) (enc := dC) (fun _ => false) dC (src_list (e_cst rn)) (by omega) L11 fun ms' c v9 H13 hc e13 ec L13 rv => ⟨[some (.ref a), some (.ref pr), some vw, some (.int (W.n : Int)), some (.ref l), some (.ref pd), y6, y7, y8, y9, some vt, some ve, y12, y13, y14, y15, some vL, some vg, some v9, none, none], fun Q q => q, rfl, ?_, fun h => by cases h⟩) (by simp)) (e_lst a_nil (by simp) L11) shaped_nil shaped_nil) rfl) fun v H' e' r => k v H' r.bl_of
        obtain ⟨f, hf, hrf⟩ := List.mem_filterMap.mp (hperm.mem_iff.mp hc)
        obtain ⟨Cc, htr⟩ := rec_turns hW Ct (List.mem_range.mp hf) hrf
        have rwm := (rp_keep e11 rw10').mono ec
        have rtm := (rp_keep e11 rt).mono ec
        exact t_is (t_T (e_neDp (ms := ms') (e_call (ms := ms') (d := dIs (W.rnds.map (trn c))) (a_cons (e_var (k := 2) rfl rwm) (a_cons (e_var (k := 18) rfl rv) a_nil)) L13 ⟨W, c, rfl, hW, Cc, rfl⟩) (e_call (ms := ms') (d := dIs (W.rnds.map (trn ct))) (a_cons (e_var (k := 2) rfl rwm) (a_cons (e_var (k := 10) rfl rtm) a_nil)) L13 ⟨W, ct, rfl, hW, Ct, rfl⟩) (shaped_I _) (shaped_I _))) (by rw [eqv_ints, decide_eq_true (List.map_congr_left fun r hr => htr r hr)]; rfl)
end
end T

set_option Elab.async false
set_option linter.all false
set_option maxRecDepth 100000
set_option maxHeartbeats 8000000
/-! J: every def of the text keeps its promise. -/
namespace T
open PySem PySem.Spec PyProof.Rows L2 RZ G M GX
/-- a def of the text stands where the top left it -/
def Put (K : PySem.W.Frag) (mg : Str → Option Value) (x : Str) (st : Stmt) (ps : List Str) : Prop := ∃ (f : Addr) (fd : FuncData), Fun K x x st f fd ∧ mg x = some (.ref f) ∧ Binds K fd ps []
theorem put_mk {K : PySem.W.Frag} {mg : Str → Option Value} {h : Heap} {x : Str} {st : Stmt} {ps : List Str} {f : Addr} {oc : Value} {od an : Option Addr} {osl : Array (Option Value)} {kV doc pm cdv ct : Value} (X : K.In h) (G : h.Ns mainGlobals mg)
    (hb : ∀ (kV doc pm : Value) (an : Option Addr) (cdv ct : Value) (us : List Value), us.length = ps.length → bindArgs (PySem.W.fnOf x x (defArgs st) (defBody st) (defScope st) .none kV doc pm an cdv ct) ⟨us, []⟩ = pure (ps.zip us))
    (a : PySem.W.nsIn K mainGlobals x = some (some (.ref f))) (l : K.lookup f = some ⟨oc, od, .func (PySem.W.fnOf x x (defArgs st) (defBody st) (defScope st) .none kV doc pm an cdv ct), osl⟩)
    (c : PySem.W.codeIn K cdv x = true) (k : PySem.W.keepIn K (.ref f) = true) : Put K mg x st ps := by
  have F := fun_mk (x := x) (qual := x) (st := st) l c k
  exact ⟨f, _, F, PySem.W.mg_of X G a, F.binds hb⟩
theorem glb_mk {K : PySem.W.Frag} {mg : Str → Option Value} {h : Heap} {x : Str} {i : Int} {t : Tok} (X : K.In h) (G : h.Ns mainGlobals mg) (a : PySem.W.nsIn K mainGlobals x = some (some (.int i t))) : ∃ t, mg x = some (.int i t) := ⟨t, PySem.W.mg_of X G a⟩
section
variable {P : Program} {w : World} {K : PySem.W.Frag} {mg : Str → Option Value} {base : Heap}
theorem Put.dfn {x : Str} {st : Stmt} {ps : List Str} {k : Nat} {sp : Sp} (h : Put K mg x st ps) (ok : ∀ (f : Addr) (fd : FuncData), Fun K x x st f fd → FnOk P w K mg base CX0 k f fd ps sp) : Dfn P w K mg base k x ps sp := by
  obtain ⟨f, fd, F, hm, b⟩ := h
  exact Dfn.mk (ok f fd F) hm F.kp b
structure Puts (K : PySem.W.Frag) (mg : Str → Option Value) : Prop where
  p_is_int : Put K mg "is_int" s_is_int ["value"]
  p_is_in : Put K mg "is_in" s_is_in ["value", "least", "most"]
  p_is_pair : Put K mg "is_pair" s_is_pair ["value", "size"]
  p_has_form : Put K mg "has_form" s_has_form ["value"]
  p_nears_of : Put K mg "nears_of" s_nears_of ["web"]
  p_reach_of : Put K mg "reach_of" s_reach_of ["web", "first"]
  p_odd_hedge : Put K mg "odd_hedge" s_odd_hedge ["web"]
  p_bar_of : Put K mg "bar_of" s_bar_of ["web"]
  p_need_web : Put K mg "need_web" s_need_web ["value"]
  p_rounds_of : Put K mg "rounds_of" s_rounds_of ["web"]
  p_breadth_of : Put K mg "breadth_of" s_breadth_of ["web"]
  p_is_coloring : Put K mg "is_coloring" s_is_coloring ["web", "value"]
  p_need_coloring : Put K mg "need_coloring" s_need_coloring ["web", "value"]
  p_step : Put K mg "step" s_step ["one", "other"]
  p_turns_of : Put K mg "turns_of" s_turns_of ["coloring", "told"]
  p_turns : Put K mg "turns" s_turns ["web", "coloring"]
  p_is_laid : Put K mg "is_laid" s_is_laid ["web", "coloring"]
  p_spread : Put K mg "spread" s_spread ["web", "height", "steps"]
  p_laying_of : Put K mg "laying_of" s_laying_of ["web", "coloring", "height"]
  p_recolored : Put K mg "recolored" s_recolored ["web", "coloring", "field"]
  p_near_colorings : Put K mg "near_colorings" s_near_colorings ["web", "coloring"]
  p_color_distance : Put K mg "color_distance" s_color_distance ["web", "one", "other"]
  p_highest_of : Put K mg "highest_of" s_highest_of ["web", "told"]
  p_lowest_of : Put K mg "lowest_of" s_lowest_of ["web", "told"]
  p_need_narrow : Put K mg "need_narrow" s_need_narrow ["web"]
  p_kept_at : Put K mg "kept_at" s_kept_at ["nears", "last"]
  p_choices_at : Put K mg "choices_at" s_choices_at ["nears", "field", "here", "low", "high"]
  p_tables_of : Put K mg "tables_of" s_tables_of ["web", "low", "high"]
  p_number_within : Put K mg "number_within" s_number_within ["web", "low", "high"]
  p_count_layings : Put K mg "count_layings" s_count_layings ["web"]
  p_common : Put K mg "common" s_common ["one", "other"]
  p_lowered : Put K mg "lowered" s_lowered ["above", "low"]
  p_count_laid : Put K mg "count_laid" s_count_laid ["web"]
  p_count_colorings : Put K mg "count_colorings" s_count_colorings ["web"]
  p_laid_share : Put K mg "laid_share" s_laid_share ["web"]
  p__law_taken : Put K mg "_law_taken" s__law_taken ["_law_row", "_law_many"]
  p__law_pick : Put K mg "_law_pick" s__law_pick ["_law_row", "_law_things"]
  p__law_alike : Put K mg "_law_alike" s__law_alike ["_law_found", "_law_due"]
  p__law_mixed : Put K mg "_law_mixed" s__law_mixed ["_law_row", "_law_some"]
  p__law_tree : Put K mg "_law_tree" s__law_tree ["_law_row", "_law_size"]
  p__law_web : Put K mg "_law_web" s__law_web ["_law_row", "_law_most"]
  p__law_nears : Put K mg "_law_nears" s__law_nears ["_law_web_here"]
  p__law_far : Put K mg "_law_far" s__law_far ["_law_web_here", "_law_first"]
  p__law_laying : Put K mg "_law_laying" s__law_laying ["_law_row", "_law_web_here", "_law_height"]
  p__law_lows : Put K mg "_law_lows" s__law_lows ["_law_web_here", "_law_laying_here"]
  p__law_highs : Put K mg "_law_highs" s__law_highs ["_law_web_here", "_law_laying_here"]
  p__law_changed : Put K mg "_law_changed" s__law_changed ["_law_laying_here", "_law_field", "_law_by"]
  p__law_next : Put K mg "_law_next" s__law_next ["_law_web_here", "_law_laying_here"]
  p__law_common : Put K mg "_law_common" s__law_common ["_law_one", "_law_other"]
  p__law_lowered : Put K mg "_law_lowered" s__law_lowered ["_law_above", "_law_low"]
theorem law_ok (b : Blt mg) (g : Glb mg) (p : Puts K mg) {f : Addr} {fd : FuncData} (F : Fun K "law" "law" s_law f fd) : FnOk P w K mg base CX0 9 f fd ["_law_script"] (sp_law K) := by
  have d_is_int : Dfn P w K mg base 1 "is_int" ["value"] sp_is_int := p.p_is_int.dfn fun f fd F => ok_is_int F b
  have d_is_in : Dfn P w K mg base 2 "is_in" ["value", "least", "most"] sp_is_in := p.p_is_in.dfn fun f fd F => ok_is_in F d_is_int
  have d_is_pair : Dfn P w K mg base 3 "is_pair" ["value", "size"] sp_is_pair := p.p_is_pair.dfn fun f fd F => ok_is_pair F b d_is_in
  have d_has_form : Dfn P w K mg base 4 "has_form" ["value"] sp_has_form := p.p_has_form.dfn fun f fd F => ok_has_form F b g d_is_in d_is_pair
  have d_nears_of : Dfn P w K mg base 1 "nears_of" ["web"] sp_nears := p.p_nears_of.dfn fun f fd F => ok_nears_of F b
  have d__law_nears : Dfn P w K mg base 1 "_law_nears" ["_law_web_here"] sp_nears := p.p__law_nears.dfn fun f fd F => ok__law_nears F b
  have d_reach_of : Dfn P w K mg base 2 "reach_of" ["web", "first"] sp_dist := p.p_reach_of.dfn fun f fd F => ok_reach_of F b d_nears_of
  have d__law_far : Dfn P w K mg base 2 "_law_far" ["_law_web_here", "_law_first"] sp_dist := p.p__law_far.dfn fun f fd F => ok__law_far F b d__law_nears
  have d_odd_hedge : Dfn P w K mg base 3 "odd_hedge" ["web"] sp_none := p.p_odd_hedge.dfn fun f fd F => ok_odd_hedge F b d_reach_of
  have d_bar_of : Dfn P w K mg base 4 "bar_of" ["web"] sp_none := p.p_bar_of.dfn fun f fd F => ok_bar_of F b d_reach_of d_odd_hedge
  have d_need_web : Dfn P w K mg base 5 "need_web" ["value"] sp_none := p.p_need_web.dfn fun f fd F => ok_need_web F b d_has_form d_bar_of
  have d_breadth_of : Dfn P w K mg base 2 "breadth_of" ["web"] sp_breadth := p.p_breadth_of.dfn fun f fd F => ok_breadth_of F b d_nears_of
  have d_need_narrow : Dfn P w K mg base 6 "need_narrow" ["web"] sp_none := p.p_need_narrow.dfn fun f fd F => ok_need_narrow F b g d_need_web d_breadth_of
  have d_step : Dfn P w K mg base 1 "step" ["one", "other"] sp_step := p.p_step.dfn fun f fd F => ok_step F g
  have d_is_coloring : Dfn P w K mg base 3 "is_coloring" ["web", "value"] (sp_iscol (.bool true)) := p.p_is_coloring.dfn fun f fd F => ok_is_coloring F b d_is_in
  have d_need_coloring : Dfn P w K mg base 6 "need_coloring" ["web", "value"] (sp_iscol .none) := p.p_need_coloring.dfn fun f fd F => ok_need_coloring F d_need_web d_is_coloring
  have d_turns_of : Dfn P w K mg base 2 "turns_of" ["coloring", "told"] sp_turns_of := p.p_turns_of.dfn fun f fd F => ok_turns_of F b g d_step
  have d_rounds_of : Dfn P w K mg base 3 "rounds_of" ["web"] sp_rounds := p.p_rounds_of.dfn fun f fd F => ok_rounds_of F b d_nears_of d_reach_of
  have d_turns : Dfn P w K mg base 7 "turns" ["web", "coloring"] sp_turns := p.p_turns.dfn fun f fd F => ok_turns F d_need_coloring d_rounds_of d_turns_of
  have d_is_laid : Dfn P w K mg base 7 "is_laid" ["web", "coloring"] sp_is_laid := p.p_is_laid.dfn fun f fd F => ok_is_laid F b d_need_coloring d_rounds_of d_turns_of
  have d_common : Dfn P w K mg base 1 "common" ["one", "other"] sp_gcd := p.p_common.dfn fun f fd F => ok_common F b
  have d__law_common : Dfn P w K mg base 1 "_law_common" ["_law_one", "_law_other"] sp_gcd := p.p__law_common.dfn fun f fd F => ok__law_common F b
  have d_lowered : Dfn P w K mg base 2 "lowered" ["above", "low"] sp_lowered := p.p_lowered.dfn fun f fd F => ok_lowered F d_common
  have d__law_lowered : Dfn P w K mg base 2 "_law_lowered" ["_law_above", "_law_low"] sp_lowered := p.p__law_lowered.dfn fun f fd F => ok__law_lowered F d__law_common
  have d__law_changed : Dfn P w K mg base 1 "_law_changed" ["_law_laying_here", "_law_field", "_law_by"] sp_changed := p.p__law_changed.dfn fun f fd F => ok__law_changed F 
  have d__law_lows : Dfn P w K mg base 2 "_law_lows" ["_law_web_here", "_law_laying_here"] (sp_lows lowB) := p.p__law_lows.dfn fun f fd F => ok__law_lows F b d__law_nears
  have d__law_highs : Dfn P w K mg base 2 "_law_highs" ["_law_web_here", "_law_laying_here"] (sp_lows highB) := p.p__law_highs.dfn fun f fd F => ok__law_highs F b d__law_nears
  have d__law_next : Dfn P w K mg base 3 "_law_next" ["_law_web_here", "_law_laying_here"] sp_next := p.p__law_next.dfn fun f fd F => ok__law_next F b d__law_lows d__law_highs d__law_changed
  have d_recolored : Dfn P w K mg base 2 "recolored" ["web", "coloring", "field"] sp_rec := p.p_recolored.dfn fun f fd F => ok_recolored F b d_nears_of
  have d_near_colorings : Dfn P w K mg base 7 "near_colorings" ["web", "coloring"] sp_near := p.p_near_colorings.dfn fun f fd F => ok_near_colorings F b d_need_coloring d_recolored
  have d_kept_at : Dfn P w K mg base 1 "kept_at" ["nears", "last"] sp_kept := p.p_kept_at.dfn fun f fd F => ok_kept_at F b
  have d_highest_of : Dfn P w K mg base 3 "highest_of" ["web", "told"] sp_highest := p.p_highest_of.dfn fun f fd F => ok_highest_of F b d_reach_of
  have d_lowest_of : Dfn P w K mg base 4 "lowest_of" ["web", "told"] sp_lowest := p.p_lowest_of.dfn fun f fd F => ok_lowest_of F b d_highest_of
  have d_choices_at : Dfn P w K mg base 1 "choices_at" ["nears", "field", "here", "low", "high"] sp_choices := p.p_choices_at.dfn fun f fd F => ok_choices_at F b
  have d_spread : Dfn P w K mg base 2 "spread" ["web", "height", "steps"] sp_spread := p.p_spread.dfn fun f fd F => ok_spread F b d_nears_of
  have d_laying_of : Dfn P w K mg base 7 "laying_of" ["web", "coloring", "height"] sp_laying := p.p_laying_of.dfn fun f fd F => ok_laying_of F b g d_need_coloring d_is_in d_rounds_of d_turns_of d_step d_spread
  have d_color_distance : Dfn P w K mg base 8 "color_distance" ["web", "one", "other"] sp_cdist := p.p_color_distance.dfn fun f fd F => ok_color_distance F b g d_need_coloring d_rounds_of d_turns_of d_laying_of
  have d_count_colorings : Dfn P w K mg base 6 "count_colorings" ["web"] (sp_num fun W => (every W).length) := p.p_count_colorings.dfn fun f fd F => ok_count_colorings F b g d_need_web d_breadth_of d_nears_of
  have d_tables_of : Dfn P w K mg base 2 "tables_of" ["web", "low", "high"] sp_tables := p.p_tables_of.dfn fun f fd F => ok_tables_of F b d_nears_of d_kept_at d_choices_at
  have d_number_within : Dfn P w K mg base 3 "number_within" ["web", "low", "high"] sp_within := p.p_number_within.dfn fun f fd F => ok_number_within F b d_tables_of
  have d_count_layings : Dfn P w K mg base 7 "count_layings" ["web"] (sp_web fun W d => d = dN (layN W)) := p.p_count_layings.dfn fun f fd F => ok_count_layings F d_need_narrow d_number_within d_highest_of d_lowest_of
  have d_count_laid : Dfn P w K mg base 8 "count_laid" ["web"] (sp_web fun W d => d = dN (3 * layN W)) := p.p_count_laid.dfn fun f fd F => ok_count_laid F d_count_layings
  have d_laid_share : Dfn P w K mg base 8 "laid_share" ["web"] sp_share := p.p_laid_share.dfn fun f fd F => ok_laid_share F d_need_narrow d_count_colorings d_lowered d_count_layings
  have d__law_taken : Dfn P w K mg base 1 "_law_taken" ["_law_row", "_law_many"] (sp_taken K) := p.p__law_taken.dfn fun f fd F => ok__law_taken F b
  have d__law_pick : Dfn P w K mg base 2 "_law_pick" ["_law_row", "_law_things"] (sp_pick K) := p.p__law_pick.dfn fun f fd F => ok__law_pick F b d__law_taken
  have d__law_mixed : Dfn P w K mg base 2 "_law_mixed" ["_law_row", "_law_some"] (sp_mixed K) := p.p__law_mixed.dfn fun f fd F => ok__law_mixed F b d__law_taken
  have d__law_tree : Dfn P w K mg base 3 "_law_tree" ["_law_row", "_law_size"] (sp_tree K) := p.p__law_tree.dfn fun f fd F => ok__law_tree F b d__law_mixed d__law_pick d__law_taken
  have d__law_web : Dfn P w K mg base 4 "_law_web" ["_law_row", "_law_most"] (sp_webof K) := p.p__law_web.dfn fun f fd F => ok__law_web F b d__law_tree d__law_far d__law_pick d__law_taken
  have d__law_laying : Dfn P w K mg base 4 "_law_laying" ["_law_row", "_law_web_here", "_law_height"] (sp_laying2 K) := p.p__law_laying.dfn fun f fd F => ok__law_laying F b d__law_far d__law_next d__law_pick d__law_taken
  have d__law_alike0 : Dfn P w K mg base 1 "_law_alike" ["_law_found", "_law_due"] sp_no := p.p__law_alike.dfn fun f fd F => ok__law_alike0 F 
  have d__law_alikeI : Dfn P w K mg base 2 "_law_alike" ["_law_found", "_law_due"] sp_alikeI := p.p__law_alike.dfn fun f fd F => ok__law_alikeI F b d__law_alike0
  have d__law_alikeT : Dfn P w K mg base 3 "_law_alike" ["_law_found", "_law_due"] sp_alikeT := p.p__law_alike.dfn fun f fd F => ok__law_alikeT F b d__law_alikeI
  exact ok_law F b d__law_web d__law_laying d__law_taken d__law_pick d_near_colorings d__law_nears d_is_laid d__law_alikeI d__law_alikeT d_count_colorings d_count_laid d_laid_share d__law_lowered d_color_distance d_turns
end
theorem law_mk {P : Program} {w : World} {K : PySem.W.Frag} {h : Heap} {mg : Str → Option Value} {fa f : Addr} {oc : Value} {od an : Option Addr} {osl : Array (Option Value)} {kV doc pm cdv ct : Value} (X : K.In h) (G : h.Ns mainGlobals mg) (hfa : mg "law" = some (.ref fa)) (b : Blt mg) (g : Glb mg) (p : Puts K mg)
    (a : PySem.W.nsIn K mainGlobals "law" = some (some (.ref f))) (l : K.lookup f = some ⟨oc, od, .func (PySem.W.fnOf "law" "law" (defArgs s_law) (defBody s_law) (defScope s_law) .none kV doc pm an cdv ct), osl⟩)
    (c : PySem.W.codeIn K cdv "law" = true) (k : PySem.W.keepIn K (.ref f) = true) :
    ∃ fd : FuncData, (∀ (s : Shared) (u : Value), BindsTo s fd ⟨[u], []⟩ [("_law_script", u)]) ∧ ∀ base : Heap, K.In base → base.Ns mainGlobals mg → FnOk P w K mg base CX0 9 fa fd ["_law_script"] (sp_law K) := by
  have e := hfa.symm.trans (PySem.W.mg_of X G a)
  cases e
  have F := fun_mk (x := "law") (qual := "law") (st := s_law) l c k
  exact ⟨PySem.W.fnOf "law" "law" (defArgs s_law) (defBody s_law) (defScope s_law) .none kV doc pm an cdv ct, fun s v => .of_eq rfl, fun base _ _ => law_ok b g p F⟩
theorem walk {l : PySem.W.OpenLaw} {q : Program} {loose : List Str} {XP : (Str → Option Value) → Heap → Prop} {YP : World → Heap → Prop} {d : DefRec} {K : Params → PySem.W.Frag} (hn : l.most = some 63) (hdf : d.params.defaults = [])
    (hY : ∀ (w : World) (h : Heap), YP w h → (K w.params).In h)
    (F : ∀ (w : World) (mg : Str → Option Value) (fa : Addr) (h : Heap), (K w.params).In h → h.Ns mainGlobals mg → mg d.name = some (.ref fa) →
      ∃ fd : FuncData, (∀ (s : Shared) (u : Value), BindsTo s fd ⟨[u], []⟩ [("_law_script", u)]) ∧ ∀ base : Heap, (K w.params).In base → base.Ns mainGlobals mg → FnOk l.prog w (K w.params) mg base CX0 9 fa fd ["_law_script"] (sp_law (K w.params))) :
    PySem.W.WalkO q loose XP YP l.row.toRowW d [] (fun f vs => PySem.call f vs) :=
  L2.walk_of (n := 63) (k := 9) (x := "_law_script") (CX := fun _ => CX0) (sp := fun w => sp_law (K w.params)) hn (by decide) hdf ⟨rfl, by decide, by decide⟩ hY F (fun _ _ a ns hl _ hS => ⟨a, ns, rfl, hl, hS, fun _ _ e => e⟩) fun _ _ _ _ _ z => z
end T

set_option Elab.async false
set_option linter.all false
open PySem PySem.W PyProof.Rows
set_option maxRecDepth 100000 in
set_option maxHeartbeats 0 in
theorem PySem.Challenge.cw_terraces_k39_whole_recolorings_holds : PySem.Challenge.rw_terraces_k39_whole_recolorings.Holds := by
  w_on; o_law; k_head; (case hw => w_witness2)
  k_fill
  refine T.walk (l := PySem.Challenge.rw_terraces_k39_whole_recolorings) rfl rfl (fun w h Y => PySem.W.kIn_of Y) ?F
  case F =>
    intro w mg fa h KX GX hmg
    have b : G.Blt mg := by
      refine ⟨?_, ?_, ?_, ?_, ?_, ?_, ?_, ?_, ?_, ?_, ?_, ?_, ?_, ?_, ?_, ?_, ?_, ?_⟩ <;> exact PySem.W.mg_none_of KX GX (by k_is)
    have g : G.Glb mg := by
      refine ⟨?_, ?_, ?_, ?_, ?_⟩
      all_goals (refine' T.glb_mk KX GX ?a; (case a => k_is))
    refine' T.law_mk KX GX hmg b g ⟨?p_is_int, ?p_is_in, ?p_is_pair, ?p_has_form, ?p_nears_of, ?p_reach_of, ?p_odd_hedge, ?p_bar_of, ?p_need_web, ?p_rounds_of, ?p_breadth_of, ?p_is_coloring, ?p_need_coloring, ?p_step, ?p_turns_of, ?p_turns, ?p_is_laid, ?p_spread, ?p_laying_of, ?p_recolored, ?p_near_colorings, ?p_color_distance, ?p_highest_of, ?p_lowest_of, ?p_need_narrow, ?p_kept_at, ?p_choices_at, ?p_tables_of, ?p_number_within, ?p_count_layings, ?p_common, ?p_lowered, ?p_count_laid, ?p_count_colorings, ?p_laid_share, ?p__law_taken, ?p__law_pick, ?p__law_alike, ?p__law_mixed, ?p__law_tree, ?p__law_web, ?p__law_nears, ?p__law_far, ?p__law_laying, ?p__law_lows, ?p__law_highs, ?p__law_changed, ?p__law_next, ?p__law_common, ?p__law_lowered⟩ ?la ?ll ?lc ?lk
    case p_is_int =>
      refine' T.put_mk KX GX (fun _ _ _ _ _ _ us hl => match us, hl with | [_], _ => rfl) ?a ?l ?c ?k; (case a => k_is); (case l => k_is); (case c => k_is); (case k => k_is)
    case p_is_in =>
      refine' T.put_mk KX GX (fun _ _ _ _ _ _ us hl => match us, hl with | [_, _, _], _ => rfl) ?a ?l ?c ?k; (case a => k_is); (case l => k_is); (case c => k_is); (case k => k_is)
    case p_is_pair =>
      refine' T.put_mk KX GX (fun _ _ _ _ _ _ us hl => match us, hl with | [_, _], _ => rfl) ?a ?l ?c ?k; (case a => k_is); (case l => k_is); (case c => k_is); (case k => k_is)
    case p_has_form =>
      refine' T.put_mk KX GX (fun _ _ _ _ _ _ us hl => match us, hl with | [_], _ => rfl) ?a ?l ?c ?k; (case a => k_is); (case l => k_is); (case c => k_is); (case k => k_is)
    case p_nears_of =>
      refine' T.put_mk KX GX (fun _ _ _ _ _ _ us hl => match us, hl with | [_], _ => rfl) ?a ?l ?c ?k; (case a => k_is); (case l => k_is); (case c => k_is); (case k => k_is)
    case p_reach_of =>
      refine' T.put_mk KX GX (fun _ _ _ _ _ _ us hl => match us, hl with | [_, _], _ => rfl) ?a ?l ?c ?k; (case a => k_is); (case l => k_is); (case c => k_is); (case k => k_is)
    case p_odd_hedge =>
      refine' T.put_mk KX GX (fun _ _ _ _ _ _ us hl => match us, hl with | [_], _ => rfl) ?a ?l ?c ?k; (case a => k_is); (case l => k_is); (case c => k_is); (case k => k_is)
    case p_bar_of =>
      refine' T.put_mk KX GX (fun _ _ _ _ _ _ us hl => match us, hl with | [_], _ => rfl) ?a ?l ?c ?k; (case a => k_is); (case l => k_is); (case c => k_is); (case k => k_is)
    case p_need_web =>
      refine' T.put_mk KX GX (fun _ _ _ _ _ _ us hl => match us, hl with | [_], _ => rfl) ?a ?l ?c ?k; (case a => k_is); (case l => k_is); (case c => k_is); (case k => k_is)
    case p_rounds_of =>
      refine' T.put_mk KX GX (fun _ _ _ _ _ _ us hl => match us, hl with | [_], _ => rfl) ?a ?l ?c ?k; (case a => k_is); (case l => k_is); (case c => k_is); (case k => k_is)
    case p_breadth_of =>
      refine' T.put_mk KX GX (fun _ _ _ _ _ _ us hl => match us, hl with | [_], _ => rfl) ?a ?l ?c ?k; (case a => k_is); (case l => k_is); (case c => k_is); (case k => k_is)
    case p_is_coloring =>
      refine' T.put_mk KX GX (fun _ _ _ _ _ _ us hl => match us, hl with | [_, _], _ => rfl) ?a ?l ?c ?k; (case a => k_is); (case l => k_is); (case c => k_is); (case k => k_is)
    case p_need_coloring =>
      refine' T.put_mk KX GX (fun _ _ _ _ _ _ us hl => match us, hl with | [_, _], _ => rfl) ?a ?l ?c ?k; (case a => k_is); (case l => k_is); (case c => k_is); (case k => k_is)
    case p_step =>
      refine' T.put_mk KX GX (fun _ _ _ _ _ _ us hl => match us, hl with | [_, _], _ => rfl) ?a ?l ?c ?k; (case a => k_is); (case l => k_is); (case c => k_is); (case k => k_is)
    case p_turns_of =>
      refine' T.put_mk KX GX (fun _ _ _ _ _ _ us hl => match us, hl with | [_, _], _ => rfl) ?a ?l ?c ?k; (case a => k_is); (case l => k_is); (case c => k_is); (case k => k_is)
    case p_turns =>
      refine' T.put_mk KX GX (fun _ _ _ _ _ _ us hl => match us, hl with | [_, _], _ => rfl) ?a ?l ?c ?k; (case a => k_is); (case l => k_is); (case c => k_is); (case k => k_is)
    case p_is_laid =>
      refine' T.put_mk KX GX (fun _ _ _ _ _ _ us hl => match us, hl with | [_, _], _ => rfl) ?a ?l ?c ?k; (case a => k_is); (case l => k_is); (case c => k_is); (case k => k_is)
    case p_spread =>
      refine' T.put_mk KX GX (fun _ _ _ _ _ _ us hl => match us, hl with | [_, _, _], _ => rfl) ?a ?l ?c ?k; (case a => k_is); (case l => k_is); (case c => k_is); (case k => k_is)
    case p_laying_of =>
      refine' T.put_mk KX GX (fun _ _ _ _ _ _ us hl => match us, hl with | [_, _, _], _ => rfl) ?a ?l ?c ?k; (case a => k_is); (case l => k_is); (case c => k_is); (case k => k_is)
    case p_recolored =>
      refine' T.put_mk KX GX (fun _ _ _ _ _ _ us hl => match us, hl with | [_, _, _], _ => rfl) ?a ?l ?c ?k; (case a => k_is); (case l => k_is); (case c => k_is); (case k => k_is)
    case p_near_colorings =>
      refine' T.put_mk KX GX (fun _ _ _ _ _ _ us hl => match us, hl with | [_, _], _ => rfl) ?a ?l ?c ?k; (case a => k_is); (case l => k_is); (case c => k_is); (case k => k_is)
    case p_color_distance =>
      refine' T.put_mk KX GX (fun _ _ _ _ _ _ us hl => match us, hl with | [_, _, _], _ => rfl) ?a ?l ?c ?k; (case a => k_is); (case l => k_is); (case c => k_is); (case k => k_is)
    case p_highest_of =>
      refine' T.put_mk KX GX (fun _ _ _ _ _ _ us hl => match us, hl with | [_, _], _ => rfl) ?a ?l ?c ?k; (case a => k_is); (case l => k_is); (case c => k_is); (case k => k_is)
    case p_lowest_of =>
      refine' T.put_mk KX GX (fun _ _ _ _ _ _ us hl => match us, hl with | [_, _], _ => rfl) ?a ?l ?c ?k; (case a => k_is); (case l => k_is); (case c => k_is); (case k => k_is)
    case p_need_narrow =>
      refine' T.put_mk KX GX (fun _ _ _ _ _ _ us hl => match us, hl with | [_], _ => rfl) ?a ?l ?c ?k; (case a => k_is); (case l => k_is); (case c => k_is); (case k => k_is)
    case p_kept_at =>
      refine' T.put_mk KX GX (fun _ _ _ _ _ _ us hl => match us, hl with | [_, _], _ => rfl) ?a ?l ?c ?k; (case a => k_is); (case l => k_is); (case c => k_is); (case k => k_is)
    case p_choices_at =>
      refine' T.put_mk KX GX (fun _ _ _ _ _ _ us hl => match us, hl with | [_, _, _, _, _], _ => rfl) ?a ?l ?c ?k; (case a => k_is); (case l => k_is); (case c => k_is); (case k => k_is)
    case p_tables_of =>
      refine' T.put_mk KX GX (fun _ _ _ _ _ _ us hl => match us, hl with | [_, _, _], _ => rfl) ?a ?l ?c ?k; (case a => k_is); (case l => k_is); (case c => k_is); (case k => k_is)
    case p_number_within =>
      refine' T.put_mk KX GX (fun _ _ _ _ _ _ us hl => match us, hl with | [_, _, _], _ => rfl) ?a ?l ?c ?k; (case a => k_is); (case l => k_is); (case c => k_is); (case k => k_is)
    case p_count_layings =>
      refine' T.put_mk KX GX (fun _ _ _ _ _ _ us hl => match us, hl with | [_], _ => rfl) ?a ?l ?c ?k; (case a => k_is); (case l => k_is); (case c => k_is); (case k => k_is)
    case p_common =>
      refine' T.put_mk KX GX (fun _ _ _ _ _ _ us hl => match us, hl with | [_, _], _ => rfl) ?a ?l ?c ?k; (case a => k_is); (case l => k_is); (case c => k_is); (case k => k_is)
    case p_lowered =>
      refine' T.put_mk KX GX (fun _ _ _ _ _ _ us hl => match us, hl with | [_, _], _ => rfl) ?a ?l ?c ?k; (case a => k_is); (case l => k_is); (case c => k_is); (case k => k_is)
    case p_count_laid =>
      refine' T.put_mk KX GX (fun _ _ _ _ _ _ us hl => match us, hl with | [_], _ => rfl) ?a ?l ?c ?k; (case a => k_is); (case l => k_is); (case c => k_is); (case k => k_is)
    case p_count_colorings =>
      refine' T.put_mk KX GX (fun _ _ _ _ _ _ us hl => match us, hl with | [_], _ => rfl) ?a ?l ?c ?k; (case a => k_is); (case l => k_is); (case c => k_is); (case k => k_is)
    case p_laid_share =>
      refine' T.put_mk KX GX (fun _ _ _ _ _ _ us hl => match us, hl with | [_], _ => rfl) ?a ?l ?c ?k; (case a => k_is); (case l => k_is); (case c => k_is); (case k => k_is)
    case p__law_taken =>
      refine' T.put_mk KX GX (fun _ _ _ _ _ _ us hl => match us, hl with | [_, _], _ => rfl) ?a ?l ?c ?k; (case a => k_is); (case l => k_is); (case c => k_is); (case k => k_is)
    case p__law_pick =>
      refine' T.put_mk KX GX (fun _ _ _ _ _ _ us hl => match us, hl with | [_, _], _ => rfl) ?a ?l ?c ?k; (case a => k_is); (case l => k_is); (case c => k_is); (case k => k_is)
    case p__law_alike =>
      refine' T.put_mk KX GX (fun _ _ _ _ _ _ us hl => match us, hl with | [_, _], _ => rfl) ?a ?l ?c ?k; (case a => k_is); (case l => k_is); (case c => k_is); (case k => k_is)
    case p__law_mixed =>
      refine' T.put_mk KX GX (fun _ _ _ _ _ _ us hl => match us, hl with | [_, _], _ => rfl) ?a ?l ?c ?k; (case a => k_is); (case l => k_is); (case c => k_is); (case k => k_is)
    case p__law_tree =>
      refine' T.put_mk KX GX (fun _ _ _ _ _ _ us hl => match us, hl with | [_, _], _ => rfl) ?a ?l ?c ?k; (case a => k_is); (case l => k_is); (case c => k_is); (case k => k_is)
    case p__law_web =>
      refine' T.put_mk KX GX (fun _ _ _ _ _ _ us hl => match us, hl with | [_, _], _ => rfl) ?a ?l ?c ?k; (case a => k_is); (case l => k_is); (case c => k_is); (case k => k_is)
    case p__law_nears =>
      refine' T.put_mk KX GX (fun _ _ _ _ _ _ us hl => match us, hl with | [_], _ => rfl) ?a ?l ?c ?k; (case a => k_is); (case l => k_is); (case c => k_is); (case k => k_is)
    case p__law_far =>
      refine' T.put_mk KX GX (fun _ _ _ _ _ _ us hl => match us, hl with | [_, _], _ => rfl) ?a ?l ?c ?k; (case a => k_is); (case l => k_is); (case c => k_is); (case k => k_is)
    case p__law_laying =>
      refine' T.put_mk KX GX (fun _ _ _ _ _ _ us hl => match us, hl with | [_, _, _], _ => rfl) ?a ?l ?c ?k; (case a => k_is); (case l => k_is); (case c => k_is); (case k => k_is)
    case p__law_lows =>
      refine' T.put_mk KX GX (fun _ _ _ _ _ _ us hl => match us, hl with | [_, _], _ => rfl) ?a ?l ?c ?k; (case a => k_is); (case l => k_is); (case c => k_is); (case k => k_is)
    case p__law_highs =>
      refine' T.put_mk KX GX (fun _ _ _ _ _ _ us hl => match us, hl with | [_, _], _ => rfl) ?a ?l ?c ?k; (case a => k_is); (case l => k_is); (case c => k_is); (case k => k_is)
    case p__law_changed =>
      refine' T.put_mk KX GX (fun _ _ _ _ _ _ us hl => match us, hl with | [_, _, _], _ => rfl) ?a ?l ?c ?k; (case a => k_is); (case l => k_is); (case c => k_is); (case k => k_is)
    case p__law_next =>
      refine' T.put_mk KX GX (fun _ _ _ _ _ _ us hl => match us, hl with | [_, _], _ => rfl) ?a ?l ?c ?k; (case a => k_is); (case l => k_is); (case c => k_is); (case k => k_is)
    case p__law_common =>
      refine' T.put_mk KX GX (fun _ _ _ _ _ _ us hl => match us, hl with | [_, _], _ => rfl) ?a ?l ?c ?k; (case a => k_is); (case l => k_is); (case c => k_is); (case k => k_is)
    case p__law_lowered =>
      refine' T.put_mk KX GX (fun _ _ _ _ _ _ us hl => match us, hl with | [_, _], _ => rfl) ?a ?l ?c ?k; (case a => k_is); (case l => k_is); (case c => k_is); (case k => k_is)
    (case la => k_is); (case ll => k_is); (case lc => k_is); (case lk => k_is)
